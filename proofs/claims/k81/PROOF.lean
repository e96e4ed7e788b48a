import PyProof.Rows.All
import Wide.All
import OpenK.AllK
import Wide.FinOn
import HandS.ForMost
import HandS.Exc
import HandS.WordsExc
import HandS.Wide
import HandS.Lambda
import HandS.HeadEnd
import HandS.Head2
import HandS.HeadHook2
import HandS.Property
import HandS.Flow
import HandS.TupAny
import HandS.TupLe
import HandS.Defaults
import HandS.Text
import HandS.WideBits
import HandS.IsInst
import PyProof.P3Eq
import PyProof.NeData
import KE.KStateDown
import PyProof.ReprLen
import PyProof.ReprRoads
import HandS.Dict
import HandS.Style
import HandS.RaiseMore
import HandS.MakeKw
import KE.KExcSuper
import HandS.ExcInit
import HandS.HeadWalk
import HandS.TryMany
import HandS.ExcField
import HandS.ExcIs
import HandS.Iter
import KE.SortData
import HandS.More
import KE.KDictSum
import PyProof.TupleOfGen
import HandS.WordsDict
import HandS.Small
import HandS.DictComp
import PySem.Challenge.RW_neverlost_k81_whole_sorts_that_fit
set_option Elab.async false
set_option linter.all false
set_option maxRecDepth 100000
set_option maxHeartbeats 0
namespace EL
open PySem PySem.Spec PyProof.Rows L2
/-- the written part holds the modules' dict -/
def SysIn (K : PySem.W.Frag) : Prop := ∃ o, K.lookup sysModules = some o ∧ o.cls = .type "dict"
/-! ### the head's facts, the modules' dict among them -/
def sysB (K : PySem.W.Frag) : Bool := match K.lookup sysModules with
  | some o => decide (o.cls = .type "dict")
  | none => false
theorem sysB_ok {K : PySem.W.Frag} (h : sysB K = true) : SysIn K := by
  unfold sysB at h
  cases e : K.lookup sysModules with
  | none => rw [e] at h; cases h
  | some o =>
    rw [e] at h
    exact ⟨o, e, of_decide_eq_true h⟩
/-! ### the head's facts: classes too -/
inductive ALoc where
  | glo (x : Str)
  | mth (x m : Str)
  | prp (x f : Str)
def gtA (K : PySem.W.Frag) (p : Addr) : Addr := match PySem.W.recIn K p "property" with
  | some (.ref a :: _) => a
  | _ => 0
def ALoc.ad (K : PySem.W.Frag) : ALoc → Addr
  | .glo x => He.ga K x
  | .mth x m => He.ma K (He.ga K x) m
  | .prp x f => gtA K (He.ma K (He.ga K x) f)
def fnA (K : PySem.W.Frag) (a : Addr) : He.FnW := match K.lookup a with
  | some ⟨_, _, .func fd, _⟩ => some (fd.name, fd.qualname, fd.params, fd.body, fd.scope, fd.globals, fd.closure, fd.builtins)
  | _ => none
structure EDef where
  loc : ALoc
  d : He.DefD
def EDef.ok (K : PySem.W.Frag) (e : EDef) : Bool := PySem.W.keepIn K (.ref (e.loc.ad K)) && (match K.lookup (e.loc.ad K) with
  | some ⟨_, _, .func fd, _⟩ => PySem.W.codeIn K fd.code e.d.qual && (He.dflB K fd.defaults (e.d.dvs K) && He.kwdB K fd.kwdefaults (e.d.kws K))
  | _ => false)
theorem EDef.funD {K : PySem.W.Frag} {e : EDef} (h : fnA K (e.loc.ad K) = e.d.val) (c : e.ok K = true) : ∃ fd, FunD K e.d.name e.d.qual e.d.params e.d.body e.d.scope (e.d.dvs K) (e.d.kws K) (e.loc.ad K) fd := by
  obtain ⟨kp, c2⟩ := He.ba c
  unfold fnA at h
  cases q : K.lookup (e.loc.ad K) with
  | none =>
    rw [q] at c2
    cases c2
  | some o =>
    obtain ⟨oc, od, dt, osl⟩ := o
    rw [q] at c2 h
    cases dt with
    | func fd =>
      obtain ⟨n1, n2, n3, n4, n5, n6, n7, n8, n9, n10, n11, n12, n13, n14, n15⟩ := fd
      have e2 : (some (n1, n2, n3, n4, n5, n6, n7, n15) : He.FnW) = some (e.d.name, e.d.qual, e.d.params, .stmts e.d.body, e.d.scope, mainGlobals, [], builtinsNs) := h
      simp only [Option.some.injEq, Prod.mk.injEq] at e2
      obtain ⟨h1, h2, h3, h4, h5, h6, h7, h8⟩ := e2
      subst h1 h2 h3 h4 h5 h6 h7 h8
      have c3 : (PySem.W.codeIn K n13 e.d.qual && (He.dflB K n8 (e.d.dvs K) && He.kwdB K n9 (e.d.kws K))) = true := c2
      obtain ⟨k1, k2⟩ := He.ba c3
      obtain ⟨k3, k4⟩ := He.ba k2
      exact ⟨_, ⟨oc, od, n8, n9, n10, n11, n12, n13, n14, osl, rfl, q, k1, He.dflB_ok k3, He.kwdB_ok k4⟩, kp⟩
    | _ => cases c2
/-- a property of a class -/
structure PFa where
  x : Str
  f : Str
def PFa.ok (K : PySem.W.Frag) (p : PFa) : Bool := let C := He.ga K p.x; let a := He.ma K C p.f
  He.eqO (PySem.W.findIn K (.ref C) p.f) (some (some (.ref a))) && (He.eqO (PySem.W.specialIn K (.ref a) "__get__") (some (some (.builtin "property.__get__"))) && (decide (PySem.W.takesIn K (.ref a) = some true) && (match PySem.W.recIn K a "property" with
    | some (.ref _ :: _) => true
    | _ => false)))
theorem PFa.of {K : PySem.W.Frag} {x f : Str} (h : PFa.ok K ⟨x, f⟩ = true) : PropOf K (He.ga K x) f (He.ma K (He.ga K x) f) ((ALoc.prp x f).ad K) := by
  obtain ⟨h1, h⟩ := He.ba h
  obtain ⟨h2, h⟩ := He.ba h
  obtain ⟨h3, h4⟩ := He.ba h
  refine ⟨He.eqO_ok h1, He.eqO_ok h2, of_decide_eq_true h3, ?_⟩
  show ∃ rest, PySem.W.recIn K (He.ma K (He.ga K x) f) "property" = some (.ref (gtA K (He.ma K (He.ga K x) f)) :: rest)
  unfold gtA
  have h4 : (match PySem.W.recIn K (He.ma K (He.ga K x) f) "property" with
    | some (.ref _ :: _) => true
    | _ => false) = true := h4
  cases e : PySem.W.recIn K (He.ma K (He.ga K x) f) "property" with
  | none => rw [e] at h4; cases h4
  | some l =>
    rw [e] at h4
    cases l with
    | nil => cases h4
    | cons v r =>
      cases v <;> first | (cases h4; done) | exact ⟨r, rfl⟩
abbrev AlE : Type := Bool × List He.FnW
def obsE (fa : List He.Fa) (pf : List PFa) (fn : List EDef) (K : PySem.W.Frag) : AlE := ((fa.all fun f => f.ok K) && ((pf.all fun p => p.ok K) && ((fn.all fun d => d.ok K) && sysB K)), fn.map fun e => fnA K (e.loc.ad K))
def valE (fn : List EDef) : AlE := (true, fn.map fun e => e.d.val)
structure SaysE (fa : List He.Fa) (pf : List PFa) (fn : List EDef) (K : PySem.W.Frag) : Prop where
  fact : ∀ (i : Nat) {f : He.Fa}, fa[i]? = some f → f.ok K = true
  prp : ∀ (i : Nat) {p : PFa}, pf[i]? = some p → p.ok K = true
  def_ : ∀ (i : Nat) {e : EDef}, fn[i]? = some e → ∃ fd, FunD K e.d.name e.d.qual e.d.params e.d.body e.d.scope (e.d.dvs K) (e.d.kws K) (e.loc.ad K) fd
  sys : SysIn K
theorem obsE_says {fa : List He.Fa} {pf : List PFa} {fn : List EDef} {K : PySem.W.Frag} (e : obsE fa pf fn K = valE fn) : SaysE fa pf fn K := by
  have e1 : ((fa.all fun f => f.ok K) && ((pf.all fun p => p.ok K) && ((fn.all fun d => d.ok K) && sysB K))) = true := congrArg (fun z : AlE => z.1) e
  have e2 : (fn.map fun e => fnA K (e.loc.ad K)) = fn.map fun e => e.d.val := congrArg (fun z : AlE => z.2) e
  obtain ⟨h1, h⟩ := He.ba e1
  obtain ⟨h2, h⟩ := He.ba h
  obtain ⟨h3, h4⟩ := He.ba h
  refine ⟨fun i f hf => List.all_eq_true.mp h1 f (List.mem_of_getElem? hf), fun i p hp => List.all_eq_true.mp h2 p (List.mem_of_getElem? hp), fun i d hd => ?_, sysB_ok h4⟩
  have e3 : (fn.map fun e => fnA K (e.loc.ad K))[i]? = (fn.map fun e => e.d.val)[i]? := by rw [e2]
  rw [List.getElem?_map, List.getElem?_map, hd] at e3
  exact EDef.funD (Option.some.inj e3) (List.all_eq_true.mp h3 d (List.mem_of_getElem? hd))
def obsEG (n : Nat) (fa : List He.Fa) (pf : List PFa) (fn : List EDef) (h : Addr → Option Obj) : AlE := obsE fa pf fn (He.frG h (sysModules :: cStatics :: He.asD h n))
def hookE (n : Nat) (fa : List He.Fa) (pf : List PFa) (fn : List EDef) : PySem.W.Hook where
  α := AlE
  obs := fun s => obsEG n fa pf fn s.heap.get?
  val := fun _ => valE fn
  says := fun _ h => ∃ K : PySem.W.Frag, K.In h ∧ SaysE fa pf fn K
  of := fun _ _ e => ⟨_, He.frG_in, obsE_says e⟩
  keeps := fun _ _ _ ⟨K, hK, c⟩ k => ⟨K, PySem.W.Frag.In.keeps hK k, c⟩
theorem obsEG_eq {n : Nat} {fa : List He.Fa} {pf : List PFa} {fn : List EDef} {h : Addr → Option Obj} {s : Shared} (e : ∀ a, h a = s.heap.get? a) : obsEG n fa pf fn h = (hookE n fa pf fn).obs s := by
  have e : h = s.heap.get? := funext e
  rw [e]
  rfl
/-- the classes' addresses -/
abbrev caK (K : PySem.W.Frag) (cn : List Str) (n : Nat) : Addr := He.ga K (cn.getD n ⟨#[]⟩)
/-- a class's item -/
def clsIt (s : Stmt) (j : Nat) : Stmt := match s with
  | .ClassDef _ _ _ body _ _ _ _ _ _ _ => body.getD j (.Pass ⟨0, 0, 0, 0⟩)
  | _ => .Pass ⟨0, 0, 0, 0⟩
end EL
namespace K81
open PySem PySem.Spec L2 EL
def top (i : Nat) : Stmt := PySem.Challenge.pw_neverlost_k81_whole_sorts_that_fit.main.body.getD i (.Pass ⟨0, 0, 0, 0⟩)
def fa : List He.Fa := [.glo (Str.ofString "_law_draw"), .free (Str.ofString "divmod"), .free (Str.ofString "int"), .glo (Str.ofString "_law_drawn_sorts"), .free (Str.ofString "range"), .glo (Str.ofString "_law_put"), .free (Str.ofString "sorted"), .free (Str.ofString "len"), .glo (Str.ofString "is_list"), .free (Str.ofString "isinstance"), .free (Str.ofString "tuple"), .free (Str.ofString "list"), .glo (Str.ofString "is_integer"), .free (Str.ofString "bool"), .glo (Str.ofString "is_count"), .glo (Str.ofString "is_sort"), .glo (Str.ofString "want_sorts"), .free (Str.ofString "all"), .int (Str.ofString "MOST_SORTS") 3, .glo (Str.ofString "want_copies_each"), .glo (Str.ofString "want_many"), .glo (Str.ofString "carried"), .free (Str.ofString "min"), .free (Str.ofString "sum"), .glo (Str.ofString "do_fit"), .glo (Str.ofString "is_known"), .free (Str.ofString "str"), .glo (Str.ofString "wrong_place"), .free (Str.ofString "enumerate"), .glo (Str.ofString "are_different"), .glo (Str.ofString "want_out"), .cls (Str.ofString "House"), .noat (Str.ofString "House") (Str.ofString "own_hosts"), .meth (Str.ofString "House") (Str.ofString "fellows"), .noat (Str.ofString "House") (Str.ofString "own_things"), .glo (Str.ofString "want_thing"), .glo (Str.ofString "Sums"), .mkr (Str.ofString "Sums"), .cls (Str.ofString "Sums"), .noat (Str.ofString "Sums") (Str.ofString "own_rooms"), .noat (Str.ofString "Sums") (Str.ofString "own_groups"), .noat (Str.ofString "Sums") (Str.ofString "own_copies"), .meth (Str.ofString "House") (Str.ofString "copies"), .glo (Str.ofString "subsets"), .free (Str.ofString "any"), .free (Str.ofString "max"), .noat (Str.ofString "House") (Str.ofString "own_copies"), .meth (Str.ofString "Sums") (Str.ofString "left"), .meth (Str.ofString "Sums") (Str.ofString "need"), .meth (Str.ofString "Sums") (Str.ofString "room_sum"), .glo (Str.ofString "can_be_out"), .meth (Str.ofString "Sums") (Str.ofString "sets"), .meth (Str.ofString "Sums") (Str.ofString "excess"), .glo (Str.ofString "is_name"), .int (Str.ofString "MOST_NAME") 6, .str (Str.ofString "LETTERS") (Str.ofString "abcdefghijklmnopqrstuvwxyz"), .str (Str.ofString "DIGITS") (Str.ofString "0123456789"), .glo (Str.ofString "is_host_row"), .glo (Str.ofString "want_hosts"), .free (Str.ofString "dict"), .glo (Str.ofString "is_copies"), .int (Str.ofString "MOST_COPIES") 4, .glo (Str.ofString "want_things"), .glo (Str.ofString "want_limit"), .glo (Str.ofString "greatest_rooms"), .glo (Str.ofString "in_order"), .glo (Str.ofString "each_copy"), .glo (Str.ofString "House"), .mkr (Str.ofString "House"), .int (Str.ofString "MOST_HOSTS") 7, .int (Str.ofString "MOST_THINGS") 8, .glo (Str.ofString "_law_house"), .glo (Str.ofString "most_that_fit"), .glo (Str.ofString "most_things"), .glo (Str.ofString "_law_right"), .free (Str.ofString "repr"), .glo (Str.ofString "_law_pot"), .free (Str.ofString "abs"), .glo (Str.ofString "law")]
def pf : List PFa := [⟨(Str.ofString "House"), (Str.ofString "hosts")⟩, ⟨(Str.ofString "House"), (Str.ofString "rooms")⟩, ⟨(Str.ofString "House"), (Str.ofString "groups")⟩, ⟨(Str.ofString "House"), (Str.ofString "things")⟩]
def cn : List Str := [(Str.ofString "House"), (Str.ofString "Sums"), (Str.ofString "HouseError"), (Str.ofString "InvalidHosts"), (Str.ofString "InvalidThings"), (Str.ofString "InvalidOut"), (Str.ofString "InvalidSet"), (Str.ofString "InvalidCount"), (Str.ofString "InvalidSorts"), (Str.ofString "MissingError"), (Str.ofString "UnknownHost"), (Str.ofString "UnknownThing"), (Str.ofString "StateError"), (Str.ofString "SameName"), (Str.ofString "LimitError"), (Str.ofString "TooMany")]
def dd__law_draw : EDef := ⟨.glo (Str.ofString "_law_draw"), ⟨((Str.ofString "_law_draw"), none), (Str.ofString "_law_draw"), (Str.ofString "_law_draw"), defArgs (top 64), defBody (top 64), defScope (top 64), [], []⟩⟩
def dd__law_drawn_sorts : EDef := ⟨.glo (Str.ofString "_law_drawn_sorts"), ⟨((Str.ofString "_law_drawn_sorts"), none), (Str.ofString "_law_drawn_sorts"), (Str.ofString "_law_drawn_sorts"), defArgs (top 68), defBody (top 68), defScope (top 68), [], []⟩⟩
def dd__law_put : EDef := ⟨.glo (Str.ofString "_law_put"), ⟨((Str.ofString "_law_put"), none), (Str.ofString "_law_put"), (Str.ofString "_law_put"), defArgs (top 67), defBody (top 67), defScope (top 67), [], []⟩⟩
def dd_is_list : EDef := ⟨.glo (Str.ofString "is_list"), ⟨((Str.ofString "is_list"), none), (Str.ofString "is_list"), (Str.ofString "is_list"), defArgs (top 7), defBody (top 7), defScope (top 7), [], []⟩⟩
def dd_is_integer : EDef := ⟨.glo (Str.ofString "is_integer"), ⟨((Str.ofString "is_integer"), none), (Str.ofString "is_integer"), (Str.ofString "is_integer"), defArgs (top 5), defBody (top 5), defScope (top 5), [], []⟩⟩
def dd_is_count : EDef := ⟨.glo (Str.ofString "is_count"), ⟨((Str.ofString "is_count"), none), (Str.ofString "is_count"), (Str.ofString "is_count"), defArgs (top 6), defBody (top 6), defScope (top 6), [], []⟩⟩
def dd_is_sort : EDef := ⟨.glo (Str.ofString "is_sort"), ⟨((Str.ofString "is_sort"), none), (Str.ofString "is_sort"), (Str.ofString "is_sort"), defArgs (top 29), defBody (top 29), defScope (top 29), [], []⟩⟩
def dd_want_sorts : EDef := ⟨.glo (Str.ofString "want_sorts"), ⟨((Str.ofString "want_sorts"), none), (Str.ofString "want_sorts"), (Str.ofString "want_sorts"), defArgs (top 30), defBody (top 30), defScope (top 30), [], []⟩⟩
def dd_want_copies_each : EDef := ⟨.glo (Str.ofString "want_copies_each"), ⟨((Str.ofString "want_copies_each"), none), (Str.ofString "want_copies_each"), (Str.ofString "want_copies_each"), defArgs (top 31), defBody (top 31), defScope (top 31), [], []⟩⟩
def dd_want_many : EDef := ⟨.glo (Str.ofString "want_many"), ⟨((Str.ofString "want_many"), none), (Str.ofString "want_many"), (Str.ofString "want_many"), defArgs (top 33), defBody (top 33), defScope (top 33), [], []⟩⟩
def dd_carried : EDef := ⟨.glo (Str.ofString "carried"), ⟨((Str.ofString "carried"), none), (Str.ofString "carried"), (Str.ofString "carried"), defArgs (top 32), defBody (top 32), defScope (top 32), [], []⟩⟩
def dd_do_fit : EDef := ⟨.glo (Str.ofString "do_fit"), ⟨((Str.ofString "do_fit"), none), (Str.ofString "do_fit"), (Str.ofString "do_fit"), defArgs (top 34), defBody (top 34), defScope (top 34), [], []⟩⟩
def dd_is_known : EDef := ⟨.glo (Str.ofString "is_known"), ⟨((Str.ofString "is_known"), none), (Str.ofString "is_known"), (Str.ofString "is_known"), defArgs (top 9), defBody (top 9), defScope (top 9), [], []⟩⟩
def dd_wrong_place : EDef := ⟨.glo (Str.ofString "wrong_place"), ⟨((Str.ofString "wrong_place"), none), (Str.ofString "wrong_place"), (Str.ofString "wrong_place"), defArgs (top 11), defBody (top 11), defScope (top 11), [], []⟩⟩
def dd_are_different : EDef := ⟨.glo (Str.ofString "are_different"), ⟨((Str.ofString "are_different"), none), (Str.ofString "are_different"), (Str.ofString "are_different"), defArgs (top 10), defBody (top 10), defScope (top 10), [], []⟩⟩
def dd_want_out : EDef := ⟨.glo (Str.ofString "want_out"), ⟨((Str.ofString "want_out"), none), (Str.ofString "want_out"), (Str.ofString "want_out"), defArgs (top 57), defBody (top 57), defScope (top 57), [], []⟩⟩
def dd_House_rooms : EDef := ⟨.prp (Str.ofString "House") (Str.ofString "rooms"), ⟨((Str.ofString "House.rooms"), none), (Str.ofString "rooms"), (Str.ofString "House.rooms"), defArgs (clsIt (top 51) 3), defBody (clsIt (top 51) 3), defScope (clsIt (top 51) 3), [], []⟩⟩
def dd_House_hosts : EDef := ⟨.prp (Str.ofString "House") (Str.ofString "hosts"), ⟨((Str.ofString "House.hosts"), none), (Str.ofString "hosts"), (Str.ofString "House.hosts"), defArgs (clsIt (top 51) 1), defBody (clsIt (top 51) 1), defScope (clsIt (top 51) 1), [], []⟩⟩
def dd_House_fellows : EDef := ⟨.mth (Str.ofString "House") (Str.ofString "fellows"), ⟨((Str.ofString "House.fellows"), none), (Str.ofString "fellows"), (Str.ofString "House.fellows"), defArgs (clsIt (top 51) 5), defBody (clsIt (top 51) 5), defScope (clsIt (top 51) 5), [], []⟩⟩
def dd_House_groups : EDef := ⟨.prp (Str.ofString "House") (Str.ofString "groups"), ⟨((Str.ofString "House.groups"), none), (Str.ofString "groups"), (Str.ofString "House.groups"), defArgs (clsIt (top 51) 4), defBody (clsIt (top 51) 4), defScope (clsIt (top 51) 4), [], []⟩⟩
def dd_House_things : EDef := ⟨.prp (Str.ofString "House") (Str.ofString "things"), ⟨((Str.ofString "House.things"), none), (Str.ofString "things"), (Str.ofString "House.things"), defArgs (clsIt (top 51) 2), defBody (clsIt (top 51) 2), defScope (clsIt (top 51) 2), [], []⟩⟩
def dd_want_thing : EDef := ⟨.glo (Str.ofString "want_thing"), ⟨((Str.ofString "want_thing"), none), (Str.ofString "want_thing"), (Str.ofString "want_thing"), defArgs (top 56), defBody (top 56), defScope (top 56), [], []⟩⟩
def dd_House_copies : EDef := ⟨.mth (Str.ofString "House") (Str.ofString "copies"), ⟨((Str.ofString "House.copies"), none), (Str.ofString "copies"), (Str.ofString "House.copies"), defArgs (clsIt (top 51) 7), defBody (clsIt (top 51) 7), defScope (clsIt (top 51) 7), [], []⟩⟩
def dd_Sums_init : EDef := ⟨.mth (Str.ofString "Sums") (Str.ofString "__init__"), ⟨((Str.ofString "Sums.__init__"), none), (Str.ofString "__init__"), (Str.ofString "Sums.__init__"), defArgs (clsIt (top 60) 0), defBody (clsIt (top 60) 0), defScope (clsIt (top 60) 0), [], []⟩⟩
def dd_subsets : EDef := ⟨.glo (Str.ofString "subsets"), ⟨((Str.ofString "subsets"), none), (Str.ofString "subsets"), (Str.ofString "subsets"), defArgs (top 59), defBody (top 59), defScope (top 59), [], []⟩⟩
def dd_Sums_sets : EDef := ⟨.mth (Str.ofString "Sums") (Str.ofString "sets"), ⟨((Str.ofString "Sums.sets"), none), (Str.ofString "sets"), (Str.ofString "Sums.sets"), defArgs (clsIt (top 60) 1), defBody (clsIt (top 60) 1), defScope (clsIt (top 60) 1), [], []⟩⟩
def dd_Sums_left : EDef := ⟨.mth (Str.ofString "Sums") (Str.ofString "left"), ⟨((Str.ofString "Sums.left"), none), (Str.ofString "left"), (Str.ofString "Sums.left"), defArgs (clsIt (top 60) 2), defBody (clsIt (top 60) 2), defScope (clsIt (top 60) 2), [], []⟩⟩
def dd_Sums_need : EDef := ⟨.mth (Str.ofString "Sums") (Str.ofString "need"), ⟨((Str.ofString "Sums.need"), none), (Str.ofString "need"), (Str.ofString "Sums.need"), defArgs (clsIt (top 60) 3), defBody (clsIt (top 60) 3), defScope (clsIt (top 60) 3), [], []⟩⟩
def dd_Sums_room_sum : EDef := ⟨.mth (Str.ofString "Sums") (Str.ofString "room_sum"), ⟨((Str.ofString "Sums.room_sum"), none), (Str.ofString "room_sum"), (Str.ofString "Sums.room_sum"), defArgs (clsIt (top 60) 4), defBody (clsIt (top 60) 4), defScope (clsIt (top 60) 4), [], []⟩⟩
def dd_Sums_excess : EDef := ⟨.mth (Str.ofString "Sums") (Str.ofString "excess"), ⟨((Str.ofString "Sums.excess"), none), (Str.ofString "excess"), (Str.ofString "Sums.excess"), defArgs (clsIt (top 60) 5), defBody (clsIt (top 60) 5), defScope (clsIt (top 60) 5), [], []⟩⟩
def dd_can_be_out : EDef := ⟨.glo (Str.ofString "can_be_out"), ⟨((Str.ofString "can_be_out"), none), (Str.ofString "can_be_out"), (Str.ofString "can_be_out"), defArgs (top 61), defBody (top 61), defScope (top 61), [], []⟩⟩
def dd_is_name : EDef := ⟨.glo (Str.ofString "is_name"), ⟨((Str.ofString "is_name"), none), (Str.ofString "is_name"), (Str.ofString "is_name"), defArgs (top 8), defBody (top 8), defScope (top 8), [], []⟩⟩
def dd_is_host_row : EDef := ⟨.glo (Str.ofString "is_host_row"), ⟨((Str.ofString "is_host_row"), none), (Str.ofString "is_host_row"), (Str.ofString "is_host_row"), defArgs (top 43), defBody (top 43), defScope (top 43), [], []⟩⟩
def dd_want_hosts : EDef := ⟨.glo (Str.ofString "want_hosts"), ⟨((Str.ofString "want_hosts"), none), (Str.ofString "want_hosts"), (Str.ofString "want_hosts"), defArgs (top 45), defBody (top 45), defScope (top 45), [], []⟩⟩
def dd_is_copies : EDef := ⟨.glo (Str.ofString "is_copies"), ⟨((Str.ofString "is_copies"), none), (Str.ofString "is_copies"), (Str.ofString "is_copies"), defArgs (top 44), defBody (top 44), defScope (top 44), [], []⟩⟩
def dd_want_things : EDef := ⟨.glo (Str.ofString "want_things"), ⟨((Str.ofString "want_things"), none), (Str.ofString "want_things"), (Str.ofString "want_things"), defArgs (top 46), defBody (top 46), defScope (top 46), [], []⟩⟩
def dd_want_limit : EDef := ⟨.glo (Str.ofString "want_limit"), ⟨((Str.ofString "want_limit"), none), (Str.ofString "want_limit"), (Str.ofString "want_limit"), defArgs (top 47), defBody (top 47), defScope (top 47), [], []⟩⟩
def dd_greatest_rooms : EDef := ⟨.glo (Str.ofString "greatest_rooms"), ⟨((Str.ofString "greatest_rooms"), none), (Str.ofString "greatest_rooms"), (Str.ofString "greatest_rooms"), defArgs (top 48), defBody (top 48), defScope (top 48), [], []⟩⟩
def dd_in_order : EDef := ⟨.glo (Str.ofString "in_order"), ⟨((Str.ofString "in_order"), none), (Str.ofString "in_order"), (Str.ofString "in_order"), defArgs (top 49), defBody (top 49), defScope (top 49), [], []⟩⟩
def dd_each_copy : EDef := ⟨.glo (Str.ofString "each_copy"), ⟨((Str.ofString "each_copy"), none), (Str.ofString "each_copy"), (Str.ofString "each_copy"), defArgs (top 50), defBody (top 50), defScope (top 50), [], []⟩⟩
def dd_House_init : EDef := ⟨.mth (Str.ofString "House") (Str.ofString "__init__"), ⟨((Str.ofString "House.__init__"), none), (Str.ofString "__init__"), (Str.ofString "House.__init__"), defArgs (clsIt (top 51) 0), defBody (clsIt (top 51) 0), defScope (clsIt (top 51) 0), [.int 20], []⟩⟩
def dd__law_house : EDef := ⟨.glo (Str.ofString "_law_house"), ⟨((Str.ofString "_law_house"), none), (Str.ofString "_law_house"), (Str.ofString "_law_house"), defArgs (top 69), defBody (top 69), defScope (top 69), [], []⟩⟩
def dd_most_that_fit : EDef := ⟨.glo (Str.ofString "most_that_fit"), ⟨((Str.ofString "most_that_fit"), none), (Str.ofString "most_that_fit"), (Str.ofString "most_that_fit"), defArgs (top 35), defBody (top 35), defScope (top 35), [], []⟩⟩
def dd_most_things : EDef := ⟨.glo (Str.ofString "most_things"), ⟨((Str.ofString "most_things"), none), (Str.ofString "most_things"), (Str.ofString "most_things"), defArgs (top 36), defBody (top 36), defScope (top 36), [], []⟩⟩
def dd__law_right : EDef := ⟨.glo (Str.ofString "_law_right"), ⟨((Str.ofString "_law_right"), none), (Str.ofString "_law_right"), (Str.ofString "_law_right"), defArgs (top 70), defBody (top 70), defScope (top 70), [], []⟩⟩
def dd__law_pot : EDef := ⟨.glo (Str.ofString "_law_pot"), ⟨((Str.ofString "_law_pot"), none), (Str.ofString "_law_pot"), (Str.ofString "_law_pot"), defArgs (top 63), defBody (top 63), defScope (top 63), [], []⟩⟩
def dd_law : EDef := ⟨.glo (Str.ofString "law"), ⟨((Str.ofString "law"), none), (Str.ofString "law"), (Str.ofString "law"), defArgs (top 71), defBody (top 71), defScope (top 71), [], []⟩⟩
def fn : List EDef := [dd__law_draw, dd__law_drawn_sorts, dd__law_put, dd_is_list, dd_is_integer, dd_is_count, dd_is_sort, dd_want_sorts, dd_want_copies_each, dd_want_many, dd_carried, dd_do_fit, dd_is_known, dd_wrong_place, dd_are_different, dd_want_out, dd_House_rooms, dd_House_hosts, dd_House_fellows, dd_House_groups, dd_House_things, dd_want_thing, dd_House_copies, dd_Sums_init, dd_subsets, dd_Sums_sets, dd_Sums_left, dd_Sums_need, dd_Sums_room_sum, dd_Sums_excess, dd_can_be_out, dd_is_name, dd_is_host_row, dd_want_hosts, dd_is_copies, dd_want_things, dd_want_limit, dd_greatest_rooms, dd_in_order, dd_each_copy, dd_House_init, dd__law_house, dd_most_that_fit, dd_most_things, dd__law_right, dd__law_pot, dd_law]
def loose0 : List Str := ["_wall", "DIGITS", "LETTERS", "MOST_NAME", "is_integer", "is_count", "is_list", "is_name", "is_known", "are_different", "wrong_place", "HouseError", "InvalidHosts", "InvalidThings", "InvalidOut", "InvalidSet", "InvalidCount", "InvalidSorts", "MissingError", "UnknownHost", "UnknownThing", "StateError", "SameName", "LimitError", "TooMany", "MOST_SORTS", "is_sort", "want_sorts", "want_copies_each", "carried"]
def loose1 : List Str := ["want_many", "do_fit", "most_that_fit", "most_things", "MOST_HOSTS", "MOST_THINGS", "MOST_ROOMS", "MOST_ROOMS_MADE", "MOST_COPIES", "is_host_row", "is_copies", "want_hosts", "want_things", "want_limit", "greatest_rooms", "in_order", "each_copy", "House", "made_house", "house_with", "want_set", "want_host", "want_thing", "want_out", "subsets", "Sums", "can_be_out", "_law_pot", "_law_draw", "_law_pick"]
def loose2 : List Str := ["_law_names", "_law_put", "_law_drawn_sorts", "_law_house", "_law_right"]
def loose : List Str := loose0 ++ loose1 ++ loose2
abbrev R : PySem.W.OpenRow := PySem.W.OpenLaw.row PySem.Challenge.rw_neverlost_k81_whole_sorts_that_fit
abbrev hk : PySem.W.Hook := hookE 5 fa pf fn
def ob (s : PySem.W.SharedT) : AlE := obsEG 5 fa pf fn (HandSHeadRun.getT s)
theorem ob_eq (s : PySem.W.SharedT) : ob s = hk.obs s.abs := obsEG_eq (HandSHeadRun.getT_eq s)
theorem run (w : World) : HandSHeadRun.RunEq R (PySem.W.view R.prog [71]) hk ob 6000 loose w := by
  intro os
  kernel_rfl
end K81
/-! data as trees, what stands for them, runs over them -/
namespace EL
open PySem PySem.Spec L2

abbrev SS := L2.St
/-! ### data -/
inductive D where
  | non | bl (b : Bool) | int (i : Int) | str (s : Str)
  | lst (ds : List D) | tup (ds : List D) | dct (kvs : List (Key × D)) | ins (c : Nat) (fs : List (Str × D)) | cell (n : Nat)
  /-- an object that is being made at a; whatever is at a; a code object's table of the name q -/
  | slf (a : Addr) (c : Nat) (fs : List (Str × D)) | adr (a : Addr) | tab (q : Str)
  deriving Inhabited

/-- what is fixed through a law -/
structure Glob where
  P : Program
  w : World
  K : PySem.W.Frag
  mg : Str → Option Value
  ca : Nat → Addr

def KL (K : PySem.W.Frag) (a : Addr) (xs : List V) : Prop :=
  ∃ (o : Obj) (its : Array Value) (n : Nat), K.lookup a = some o ∧ o.cls = .type "list" ∧ o.dict = none ∧ o.data = .seq its n ∧ its.size ≤ sizeLine ∧ Vals xs its.toList
def KT (K : PySem.W.Frag) (a : Addr) (xs : List V) : Prop :=
  ∃ (o : Obj) (its : Array Value) (n : Nat), K.lookup a = some o ∧ o.cls = .type "tuple" ∧ o.data = .seq its n ∧ its.size ≤ sizeLine ∧ Vals xs its.toList

mutual
/-- v stands for d: S the part of the heap that never changes, mu where the cells lie -/
inductive Rp (g : Glob) (S : Hp) (mu : List Addr) : V → D → Prop
  | non : Rp g S mu .non .non
  | bl (b : Bool) : Rp g S mu (.bl b) (.bl b)
  | int (i : Int) : Rp g S mu (.int i) (.int i)
  | str (x : Str) : Rp g S mu (.str x) (.str x)
  | lst {a : Addr} {vs : List V} {ds : List D} : S a = some (.lst vs) ∨ KL g.K a vs → RpL g S mu vs ds → Rp g S mu (.ref a) (.lst ds)
  | tup {a : Addr} {vs : List V} {ds : List D} : S a = some (.tup vs) ∨ KT g.K a vs → RpL g S mu vs ds → Rp g S mu (.ref a) (.tup ds)
  | dct {a : Addr} {vs : List (Key × V)} {ds : List (Key × D)} : S a = some (.dK vs) → RpK g S mu vs ds → Rp g S mu (.ref a) (.dct ds)
  | ins {a dx : Addr} {c : Nat} {vs : List (Str × V)} {ds : List (Str × D)} : S a = some (.ins (g.ca c) dx vs) → RpF g S mu vs ds → Rp g S mu (.ref a) (.ins c ds)
  | cell {a : Addr} {n : Nat} : mu[n]? = some a → Rp g S mu (.ref a) (.cell n)
  | slf {a dx : Addr} {c : Nat} {vs : List (Str × V)} {ds : List (Str × D)} : S a = some (.ins (g.ca c) dx vs) → RpF g S mu vs ds → Rp g S mu (.ref a) (.slf a c ds)
  | adr {a : Addr} : Rp g S mu (.ref a) (.adr a)
  | tab {a : Addr} {ps : Array Value} {q : Str} : S a = some (.tbl ps) → Rp g S mu (.ref a) (.tab q)
inductive RpL (g : Glob) (S : Hp) (mu : List Addr) : List V → List D → Prop
  | nil : RpL g S mu [] []
  | cons {v : V} {vs : List V} {d : D} {ds : List D} : Rp g S mu v d → RpL g S mu vs ds → RpL g S mu (v :: vs) (d :: ds)
inductive RpK (g : Glob) (S : Hp) (mu : List Addr) : List (Key × V) → List (Key × D) → Prop
  | nil : RpK g S mu [] []
  | cons {k : Key} {v : V} {vs : List (Key × V)} {d : D} {ds : List (Key × D)} : Rp g S mu v d → RpK g S mu vs ds → RpK g S mu ((k, v) :: vs) ((k, d) :: ds)
inductive RpF (g : Glob) (S : Hp) (mu : List Addr) : List (Str × V) → List (Str × D) → Prop
  | nil : RpF g S mu [] []
  | cons {k : Str} {v : V} {vs : List (Str × V)} {d : D} {ds : List (Str × D)} : Rp g S mu v d → RpF g S mu vs ds → RpF g S mu ((k, v) :: vs) ((k, d) :: ds)
end

structure Mo (S : Hp) (mu : List Addr) (S' : Hp) (mu' : List Addr) : Prop where
  s : ∀ b u, S b = some u → S' b = some u
  m : ∀ (i : Nat) (a : Addr), mu[i]? = some a → mu'[i]? = some a
theorem Mo.refl {S mu} : Mo S mu S mu := ⟨fun _ _ h => h, fun _ _ h => h⟩
theorem Mo.trans {S mu S1 mu1 S2 mu2} (a : Mo S mu S1 mu1) (b : Mo S1 mu1 S2 mu2) : Mo S mu S2 mu2 := ⟨fun x u h => b.s x u (a.s x u h), fun i x h => b.m i x (a.m i x h)⟩
theorem Mo.new {S : Hp} {mu} {p : Addr} {o : HO} (h : S p = none) : Mo S mu (upd S p o) mu := ⟨fun b u e => by
  rw [upd_ne (ne_of_none e h)]; exact e, fun _ _ h => h⟩
section
variable {g : Glob} {S S' : Hp} {mu mu' : List Addr}
mutual
theorem Rp.mono (m : Mo S mu S' mu') : ∀ {v d}, Rp g S mu v d → Rp g S' mu' v d
  | _, _, .non => .non
  | _, _, .bl b => .bl b
  | _, _, .int b => .int b
  | _, _, .str b => .str b
  | _, _, .lst h r => .lst (h.imp (m.s _ _) id) (RpL.mono m r)
  | _, _, .tup h r => .tup (h.imp (m.s _ _) id) (RpL.mono m r)
  | _, _, .dct h r => .dct (m.s _ _ h) (RpK.mono m r)
  | _, _, .ins h r => .ins (m.s _ _ h) (RpF.mono m r)
  | _, _, .cell h => .cell (m.m _ _ h)
  | _, _, .slf h r => .slf (m.s _ _ h) (RpF.mono m r)
  | _, _, .adr => .adr
  | _, _, .tab h => .tab (m.s _ _ h)
theorem RpL.mono (m : Mo S mu S' mu') : ∀ {v d}, RpL g S mu v d → RpL g S' mu' v d
  | _, _, .nil => .nil
  | _, _, .cons h r => .cons (Rp.mono m h) (RpL.mono m r)
theorem RpK.mono (m : Mo S mu S' mu') : ∀ {v d}, RpK g S mu v d → RpK g S' mu' v d
  | _, _, .nil => .nil
  | _, _, .cons h r => .cons (Rp.mono m h) (RpK.mono m r)
theorem RpF.mono (m : Mo S mu S' mu') : ∀ {v d}, RpF g S mu v d → RpF g S' mu' v d
  | _, _, .nil => .nil
  | _, _, .cons h r => .cons (Rp.mono m h) (RpF.mono m r)
end
theorem RpL.length : ∀ {vs ds}, RpL g S mu vs ds → vs.length = ds.length
  | _, _, .nil => rfl
  | _, _, .cons _ r => by simp [RpL.length r]
theorem RpL.get : ∀ {vs ds} {i : Nat} {d : D}, RpL g S mu vs ds → ds[i]? = some d → ∃ v, vs[i]? = some v ∧ Rp g S mu v d
  | _, _, _, _, .nil, e => by simp at e
  | _, _, 0, _, .cons r _, e => by simp at e; subst e; exact ⟨_, rfl, r⟩
  | _, _, i + 1, _, .cons _ t, e => by
    obtain ⟨v, h1, h2⟩ := RpL.get (i := i) t (by simpa using e)
    exact ⟨v, by simpa using h1, h2⟩
theorem RpL.getV : ∀ {vs ds} {i : Nat} {v : V}, RpL g S mu vs ds → vs[i]? = some v → ∃ d, ds[i]? = some d ∧ Rp g S mu v d
  | _, _, _, _, .nil, e => by simp at e
  | _, _, 0, _, .cons r _, e => by simp at e; subst e; exact ⟨_, rfl, r⟩
  | _, _, i + 1, _, .cons _ t, e => by
    obtain ⟨v, h1, h2⟩ := RpL.getV (i := i) t (by simpa using e)
    exact ⟨v, by simpa using h1, h2⟩
theorem RpL.append : ∀ {vs ds ws es}, RpL g S mu vs ds → RpL g S mu ws es → RpL g S mu (vs ++ ws) (ds ++ es)
  | _, _, _, _, .nil, s => s
  | _, _, _, _, .cons h r, s => .cons h (RpL.append r s)
theorem RpL.take : ∀ {vs ds} (n : Nat), RpL g S mu vs ds → RpL g S mu (vs.take n) (ds.take n)
  | _, _, 0, _ => .nil
  | _, _, _ + 1, .nil => .nil
  | _, _, n + 1, .cons h r => .cons h (RpL.take n r)
theorem RpL.drop : ∀ {vs ds} (n : Nat), RpL g S mu vs ds → RpL g S mu (vs.drop n) (ds.drop n)
  | _, _, 0, r => r
  | _, _, _ + 1, .nil => .nil
  | _, _, n + 1, .cons _ r => RpL.drop n r
theorem RpL.set {x : V} {d : D} (r : Rp g S mu x d) : ∀ {vs ds} (i : Nat), RpL g S mu vs ds → RpL g S mu (vs.set i x) (ds.set i d)
  | _, _, _, .nil => .nil
  | _, _, 0, .cons _ t => .cons r t
  | _, _, i + 1, .cons q t => .cons q (RpL.set r i t)
theorem RpL.reverse : ∀ {vs ds}, RpL g S mu vs ds → RpL g S mu vs.reverse ds.reverse
  | _, _, .nil => .nil
  | _, _, .cons h r => by
    rw [List.reverse_cons, List.reverse_cons]
    exact RpL.append (RpL.reverse r) (.cons h .nil)
theorem RpK.length : ∀ {vs ds}, RpK g S mu vs ds → vs.length = ds.length
  | _, _, .nil => rfl
  | _, _, .cons _ r => by simp [RpK.length r]
end

/-! ### slots, results -/
inductive Slot where
  | no
  | fz (d : D)
  | ow (d : D)
  deriving Inhabited
abbrev Env := List Slot
abbrev Cells := List D
inductive R (α : Type) where
  | ok (a : α) (e : Env) (c : Cells)
  | exc (k : Nat) (fs : List (Str × D)) (e : Env) (c : Cells)
  | stuck
abbrev M (α : Type) := Env → Cells → R α
def M.bind {α β : Type} (m : M α) (f : α → M β) : M β := fun e c => match m e c with
  | .ok a e' c' => f a e' c'
  | .exc k fs e' c' => .exc k fs e' c'
  | .stuck => .stuck
def M.pure {α : Type} (a : α) : M α := fun e c => .ok a e c
def M.stuck {α : Type} : M α := fun _ _ => .stuck
/-- of an Option -/
def M.opt {α : Type} (o : Option α) : M α := fun e c => match o with
  | some a => .ok a e c
  | none => .stuck

/-- a code object that the program makes as it runs; a table of such ones -/
abbrev CodeH (c : Addr) (q : Str) : HO := LamX.CodeO c q
def TabA (S : Hp) (ps : Array Value) (q : Str) : Prop := TriplesOk ps.toList ∧ ∀ (pos : Pos) (cv : Value), codeAmong pos ps.toList = some cv → ∃ c, cv = .ref c ∧ S c = some (CodeH c q)
/-- what stands at an own or a cell's address a -/
def At (g : Glob) (H S : Hp) (mu : List Addr) (a : Addr) : D → Prop
  | .lst ds => ∃ vs, H a = some (.lst vs) ∧ RpL g S mu vs ds
  | .dct ds => ∃ vs, H a = some (.dK vs) ∧ RpK g S mu vs ds
  | .ins c ds => ∃ dx vs, H a = some (.ins (g.ca c) dx vs) ∧ RpF g S mu vs ds
  | .slf b c ds => a = b ∧ ∃ dx vs, H a = some (.ins (g.ca c) dx vs) ∧ RpF g S mu vs ds
  | .tab q => ∃ ps, H a = some (.tbl ps) ∧ TabA S ps q
  | _ => False
theorem At.keep {g : Glob} {H H' S S' : Hp} {mu mu' : List Addr} {a : Addr} {d : D} (x : At g H S mu a d) (m : Mo S mu S' mu') (h : ∀ o, H a = some o → H' a = some o) : At g H' S' mu' a d := by
  cases d <;> first | exact x.elim | skip
  · obtain ⟨vs, e, r⟩ := x; exact ⟨vs, h _ e, r.mono m⟩
  · obtain ⟨vs, e, r⟩ := x; exact ⟨vs, h _ e, r.mono m⟩
  · obtain ⟨dx, vs, e, r⟩ := x; exact ⟨dx, vs, h _ e, r.mono m⟩
  · obtain ⟨z, dx, vs, e, r⟩ := x; exact ⟨z, dx, vs, h _ e, r.mono m⟩
  · obtain ⟨ps, e, z1, z2⟩ := x
    refine ⟨ps, h _ e, z1, fun pos cv hc => ?_⟩
    obtain ⟨c, y1, y2⟩ := z2 pos cv hc
    exact ⟨c, y1, m.s _ _ y2⟩
theorem At.has {g : Glob} {H S : Hp} {mu : List Addr} {a : Addr} {d : D} (x : At g H S mu a d) : ∃ o, H a = some o := by
  cases d <;> first | exact x.elim | skip
  · obtain ⟨vs, e, r⟩ := x; exact ⟨_, e⟩
  · obtain ⟨vs, e, r⟩ := x; exact ⟨_, e⟩
  · obtain ⟨dx, vs, e, r⟩ := x; exact ⟨_, e⟩
  · obtain ⟨z, dx, vs, e, r⟩ := x; exact ⟨_, e⟩
  · obtain ⟨ps, e, _⟩ := x; exact ⟨_, e⟩
/-- frozen: from At to Rp -/
theorem At.fz {g : Glob} {H S : Hp} {mu : List Addr} {a : Addr} {d : D} (x : At g H S mu a d) (hn : S a = none) : ∃ o, H a = some o ∧ Rp g (upd S a o) mu (.ref a) d := by
  cases d <;> first | exact x.elim | skip
  · obtain ⟨vs, e, r⟩ := x; exact ⟨_, e, .lst (.inl upd_same) (r.mono (Mo.new hn))⟩
  · obtain ⟨vs, e, r⟩ := x; exact ⟨_, e, .dct upd_same (r.mono (Mo.new hn))⟩
  · obtain ⟨dx, vs, e, r⟩ := x; exact ⟨_, e, .ins upd_same (r.mono (Mo.new hn))⟩
  · obtain ⟨z, dx, vs, e, r⟩ := x; subst z; exact ⟨_, e, .slf upd_same (r.mono (Mo.new hn))⟩
  · obtain ⟨ps, e, _⟩ := x; exact ⟨_, e, .tab upd_same⟩

/-- what is never locked -/
def solid : HO → Bool
  | .ext _ => true
  | .xd _ => true
  | _ => false
structure HS (g : Glob) (H S : Hp) (mu : List Addr) (cs : Cells) : Prop where
  sub : ∀ b u, S b = some u → Rd H b u
  len : mu.length = cs.length
  nd : mu.Nodup
  cell : ∀ (i : Nat) (a : Addr) (c : D), mu[i]? = some a → cs[i]? = some c → S a = none ∧ At g H S mu a c
  ext : ∀ (b : Addr) u, S b = some u → solid u = true → H b = some u

/-- o stands at b, or a frozen dict does that is locked by now -/
def Kp (H S : Hp) (b : Addr) (o : HO) : Prop := H b = some o ∨ ∃ kvs od, o = .dK kvs ∧ S b = some o ∧ H b = some (.frz od o)
theorem Kp.has {H S : Hp} {b : Addr} {o : HO} (h : Kp H S b o) : ∃ o', H b = some o' := by
  rcases h with h | ⟨_, _, _, _, h⟩ <;> exact ⟨_, h⟩
theorem Kp.own {H S : Hp} {b : Addr} {o : HO} (h : Kp H S b o) (n : S b = none) : H b = some o := by
  rcases h with h | ⟨_, _, _, z, _⟩
  · exact h
  · rw [n] at z; cases z
theorem Kp.frz {H S : Hp} {b : Addr} {ob : Obj} {o : HO} (h : Kp H S b (.frz ob o)) : H b = some (.frz ob o) := by
  rcases h with h | ⟨_, _, z, _, _⟩
  · exact h
  · cases z
theorem Kp.trans {H H1 S S1 : Hp} {b : Addr} {o : HO} (h : Kp H S b o) (k : ∀ o', H b = some o' → Kp H1 S1 b o') (m : ∀ u, S b = some u → S1 b = some u) : Kp H1 S1 b o := by
  rcases h with h | ⟨kvs, od, z1, z2, z3⟩
  · exact k o h
  · subst z1
    exact .inr ⟨kvs, od, rfl, m _ z2, (k _ z3).frz⟩
structure Ent where
  H : Hp
  S : Hp
  mu : List Addr
  lk : List (Addr × Obj × HO)
  rs : List Addr
/-- from the entry on -/
structure FI (F : Ent) (H S : Hp) (mu : List Addr) : Prop where
  mo : Mo F.S F.mu S mu
  h : ∀ b o, F.H b = some o → b ∉ F.mu → Kp H S b o
  n : ∀ b, b ∈ mu → b ∈ F.mu ∨ F.H b = none
  t : ∀ b u, S b = some u → F.S b = some u ∨ F.H b = none
  l : ∀ p ∈ F.lk, H p.1 = some (.frz p.2.1 p.2.2)
  r : ∀ a ∈ F.rs, S a = none ∧ a ∉ mu ∧ F.H a = none ∧ ∃ o, H a = some o

structure Rel (g : Glob) (F : Ent) (σ : SS) (H S : Hp) (mu : List Addr) (env : Env) (cs : Cells) : Prop where
  hs : HS g H S mu cs
  fi : FI F H S mu
  len : env.length = σ.length
  fz : ∀ (i : Nat) d, env[i]? = some (.fz d) → ∃ v, σ[i]? = some (some v) ∧ Rp g S mu v d
  ow : ∀ (i : Nat) d, env[i]? = some (.ow d) → ∃ a, σ[i]? = some (some (.ref a)) ∧ S a = none ∧ a ∉ mu ∧ (F.H a = none ∧ a ∉ F.rs) ∧ At g H S mu a d
  sep : ∀ (i j : Nat) d d' a, env[i]? = some (.ow d) → env[j]? = some (.ow d') → σ[i]? = some (some (.ref a)) → σ[j]? = some (some (.ref a)) → i = j

/-- one step to the next: what was frozen stays, what is tracked and no cell stays -/
structure Gr (H S : Hp) (mu : List Addr) (H' S' : Hp) (mu' : List Addr) : Prop where
  mo : Mo S mu S' mu'
  h : ∀ b o, H b = some o → b ∉ mu → Kp H' S' b o
  n : ∀ b, b ∈ mu' → b ∈ mu ∨ H b = none
theorem Gr.refl {H S mu} : Gr H S mu H S mu := ⟨.refl, fun _ _ h _ => .inl h, fun _ h => .inl h⟩
theorem Gr.trans {H S mu H1 S1 mu1 H2 S2 mu2} (a : Gr H S mu H1 S1 mu1) (b : Gr H1 S1 mu1 H2 S2 mu2) : Gr H S mu H2 S2 mu2 := by
  refine ⟨a.mo.trans b.mo, fun x o h hm => (a.h x o h hm).trans (fun o' h' => b.h x o' h' fun q => ?_) (b.mo.s x), fun x hx => ?_⟩
  · rcases a.n x q with z | z
    · exact hm z
    · rw [h] at z; cases z
  · rcases b.n x hx with z | z
    · exact a.n x z
    · by_cases hm : x ∈ mu
      · exact .inl hm
      · refine .inr ?_
        cases e : H x with
        | none => rfl
        | some o => obtain ⟨o', h'⟩ := (a.h x o e hm).has; rw [h'] at z; cases z

/-- the value that an expression gives -/
def Res (g : Glob) (F : Ent) (σ : SS) (env : Env) (H S : Hp) (mu : List Addr) (v : V) (d : D) : Bool → Prop
  | false => Rp g S mu v d
  | true => ∃ a, v = .ref a ∧ S a = none ∧ a ∉ mu ∧ (F.H a = none ∧ a ∉ F.rs) ∧ At g H S mu a d ∧ ∀ (i : Nat) d', env[i]? = some (.ow d') → σ[i]? ≠ some (some (.ref a))

/-! ### readings -/
/-- an exception: its class, its own dict -/
def XcOk (g : Glob) (H S : Hp) (mu : List Addr) (dx : Addr) (fs : List (Str × D)) : Prop := ∃ vs, H dx = some (.xd vs) ∧ RpF g S mu vs fs
abbrev ExW (g : Glob) (F : Ent) (W : WX) (σ : SS) (k : Nat) (fs : List (Str × D)) (env : Env) (cs : Cells) : Prop :=
  ∀ dx H S mu, Rel g F σ H S mu env cs → XcOk g H S mu dx fs → (F.H dx = none ∧ dx ∉ F.rs) → W (.ref (g.ca k)) (some dx) σ H
/-- what a run is to end with -/
def Post {α : Type} (m : R α) (K : α → Env → Cells → Prop) (KX : Nat → List (Str × D) → Env → Cells → Prop) : Prop := match m with
  | .ok a e c => K a e c
  | .exc k fs e c => KX k fs e c
  | .stuck => False
theorem Post.mono {α : Type} {m : R α} {K K' : α → Env → Cells → Prop} {KX KX' : Nat → List (Str × D) → Env → Cells → Prop} (h : Post m K KX) (i : ∀ a e c, K a e c → K' a e c) (ix : ∀ k fs e c, KX k fs e c → KX' k fs e c) : Post m K' KX' := by
  cases m with
  | ok a e c => exact i a e c h
  | exc k fs e c => exact ix k fs e c h
  | stuck => exact h
theorem Post.on {α : Type} {m : R α} {K K' : α → Env → Cells → Prop} {KX : Nat → List (Str × D) → Env → Cells → Prop} (h : Post m K KX) (i : ∀ a e c, K a e c → K' a e c) : Post m K' KX := h.mono i fun _ _ _ _ z => z
theorem Post.bind {α β : Type} {m : M α} {f : α → M β} {env : Env} {cs : Cells} {K : β → Env → Cells → Prop} {KX : Nat → List (Str × D) → Env → Cells → Prop} :
    Post ((m.bind f) env cs) K KX = Post (m env cs) (fun a e c => Post (f a e c) K KX) KX := by
  unfold M.bind
  cases m env cs <;> rfl
/-- a reading: T v a says how the value stands for what the run gives -/
abbrev KOf (g : Glob) (F : Ent) (σ : SS) (H S : Hp) (mu : List Addr) {α β : Type} (T : Env → Hp → Hp → List Addr → β → α → Prop) (Q : β → Hp → Prop) : α → Env → Cells → Prop :=
  fun a env' cs' => ∀ v H' S' mu', Gr H S mu H' S' mu' → Rel g F σ H' S' mu' env' cs' → T env' H' S' mu' v a → Q v H'
def RA {α β : Type} (g : Glob) (F : Ent) (W : WX) (T : SS → Env → Hp → Hp → List Addr → β → α → Prop) (m : M α) (σ : SS) (H S : Hp) (mu : List Addr) (env : Env) (cs : Cells) (Q : β → Hp → Prop) : Prop :=
  Rel g F σ H S mu env cs ∧ Post (m env cs) (KOf g F σ H S mu (T σ) Q) (ExW g F W σ)
def rd {α β : Type} (g : Glob) (F : Ent) (W : WX) (T : SS → Env → Hp → Hp → List Addr → β → α → Prop) (m : M α) : SS → Hp → (β → Hp → Prop) → Prop := fun σ H Q =>
  ∃ S mu env cs, RA g F W T m σ H S mu env cs Q
abbrev TRes (g : Glob) (F : Ent) : SS → Env → Hp → Hp → List Addr → V → D × Bool → Prop := fun σ env H S mu v r => Res g F σ env H S mu v r.1 r.2
abbrev TRp (g : Glob) : SS → Env → Hp → Hp → List Addr → V → D → Prop := fun _ _ _ S mu v d => Rp g S mu v d
abbrev TRl (g : Glob) : SS → Env → Hp → Hp → List Addr → List V → List D → Prop := fun _ _ _ S mu v d => RpL g S mu v d
abbrev TEq {α : Type} : SS → Env → Hp → Hp → List Addr → α → α → Prop := fun _ _ _ _ _ a b => a = b
abbrev rdE (g : Glob) (F : Ent) (W : WX) (m : M (D × Bool)) : TE := rd g F W (TRes g F) m
/-- frozen -/
abbrev rdZ (g : Glob) (F : Ent) (W : WX) (m : M D) : TE := rd g F W (TRp g) m
abbrev rdA (g : Glob) (F : Ent) (W : WX) (m : M (List D)) : TA := rd g F W (TRl g) m
abbrev rdT (g : Glob) (F : Ent) (W : WX) (m : M Bool) : TT := rd g F W TEq m

theorem PE.imp {X : Cx} {e : Expr} {t t' : TE} (h : PE X e t) (i : ∀ σ H Q, t' σ H Q → t σ H Q) : PE X e t' := ⟨fun pins s σ H Q I q => h.run pins s σ H Q I (i σ H Q q)⟩
theorem PT.imp {X : Cx} {e : Expr} {t t' : TT} (h : PT X e t) (i : ∀ σ H Q, t' σ H Q → t σ H Q) : PT X e t' := ⟨fun pins s σ H Q I q => h.run pins s σ H Q I (i σ H Q q)⟩
theorem PA.imp {X : Cx} {e : List Expr} {t t' : TA} (h : PA X e t) (i : ∀ σ H Q, t' σ H Q → t σ H Q) : PA X e t' := ⟨fun pos pins s σ H Q I q => h.run pos pins s σ H Q I (i σ H Q q)⟩
theorem PS.imp {X : Cx} {e : Stmt} {t t' : TS} (h : PS X e t) (i : ∀ D σ H, t' D σ H → t D σ H) : PS X e t' := ⟨fun pins s σ H Q I q => h.run pins s σ H Q I (i Q σ H q)⟩
theorem PSs.imp {X : Cx} {e : List Stmt} {t t' : TS} (h : PSs X e t) (i : ∀ D σ H, t' D σ H → t D σ H) : PSs X e t' := ⟨fun pins s σ H Q I q => h.run pins s σ H Q I (i Q σ H q)⟩
end EL
namespace EL
open PySem PySem.Spec L2

/-! ### facts about the relation -/
section
variable {g : Glob} {F : Ent} {σ : SS} {H H' S S' : Hp} {mu mu' : List Addr} {env : Env} {cs : Cells} {a p : Addr} {o : HO} {d : D} {v : V}
theorem rdKeep {u : HO} (h : Rd H a u) (k : ∀ o, H a = some o → H' a = some o) : Rd H' a u := by
  rcases h with h | ⟨o, h⟩
  · exact .inl (k _ h)
  · exact .inr ⟨o, k _ h⟩
theorem rdHas {u : HO} (h : Rd H a u) : ∃ o, H a = some o := by
  rcases h with h | ⟨o, h⟩ <;> exact ⟨_, h⟩
theorem HS.cellAt (h : HS g H S mu cs) {i : Nat} (e : mu[i]? = some a) : ∃ c, cs[i]? = some c ∧ S a = none ∧ At g H S mu a c := by
  have hi : i < cs.length := by rw [← h.len]; exact (List.getElem?_eq_some_iff.mp e).1
  exact ⟨cs[i], by simp [hi], h.cell i a _ e (by simp [hi])⟩
theorem HS.inMu (h : HS g H S mu cs) (e : a ∈ mu) : S a = none ∧ ∃ o, H a = some o := by
  obtain ⟨i, hi⟩ := List.mem_iff_getElem?.mp e
  obtain ⟨c, _, z, x⟩ := h.cellAt hi
  exact ⟨z, x.has⟩
theorem HS.notMu (h : HS g H S mu cs) (e : H a = none) : a ∉ mu := fun q => by
  obtain ⟨_, o, z⟩ := h.inMu q
  rw [e] at z; cases z
theorem HS.sNone (h : HS g H S mu cs) (e : H a = none) : S a = none := by
  cases q : S a with
  | none => rfl
  | some u =>
    obtain ⟨o, z⟩ := rdHas (h.sub a u q)
    rw [e] at z; cases z
theorem FI.fresh (f : FI F H S mu) (h : HS g H S mu cs) (e : H a = none) : F.H a = none := by
  cases q : F.H a with
  | none => rfl
  | some u =>
    by_cases hm : a ∈ F.mu
    · obtain ⟨i, hi⟩ := List.mem_iff_getElem?.mp hm
      exact absurd (List.mem_iff_getElem?.mpr ⟨i, f.mo.m i a hi⟩) (h.notMu e)
    · obtain ⟨o', h'⟩ := (f.h a u q hm).has; rw [h'] at e; cases e

/-- the heap grows, new frozen objects -/
structure Up (H S : Hp) (H' S' : Hp) : Prop where
  h : ∀ b o, H b = some o → H' b = some o
  s : ∀ b u, S b = some u → S' b = some u
  n : ∀ b u, S' b = some u → S b = some u ∨ (H b = none ∧ H' b = some u)
theorem Up.refl : Up H S H S := ⟨fun _ _ h => h, fun _ _ h => h, fun _ _ h => .inl h⟩
theorem Up.mo (u : Up H S H' S') : Mo S mu S' mu := ⟨u.s, fun _ _ h => h⟩
theorem Up.gr (u : Up H S H' S') : Gr H S mu H' S' mu := ⟨u.mo, fun b o h _ => .inl (u.h b o h), fun _ h => .inl h⟩
theorem Up.hs (u : Up H S H' S') (h : HS g H S mu cs) : HS g H' S' mu cs := by
  refine ⟨fun b x e => ?_, h.len, h.nd, fun i b c e1 e2 => ?_, fun b f e sf => ?_⟩
  · rcases u.n b x e with z | ⟨_, z⟩
    · exact rdKeep (h.sub b x z) (u.h b)
    · exact .inl z
  · obtain ⟨z, q⟩ := h.cell i b c e1 e2
    refine ⟨?_, q.keep u.mo (u.h b)⟩
    obtain ⟨o, ho⟩ := q.has
    cases e : S' b with
    | none => rfl
    | some x =>
      rcases u.n b x e with y | ⟨y, _⟩
      · rw [z] at y; cases y
      · rw [ho] at y; cases y
  · rcases u.n b _ e with z | ⟨_, z⟩
    · exact u.h b _ (h.ext b f z sf)
    · exact z
theorem Up.rel (u : Up H S H' S') (r : Rel g F σ H S mu env cs) : Rel g F σ H' S' mu env cs := by
  refine ⟨u.hs r.hs, ⟨r.fi.mo.trans u.mo, fun b o h hm => (r.fi.h b o h hm).trans (fun o' h' => .inl (u.h b o' h')) (u.s b), r.fi.n, fun b x e => ?_, fun p hp => u.h _ _ (r.fi.l p hp), fun a ha => ?_⟩, r.len, fun i d e => ?_, fun i d e => ?_, r.sep⟩
  · rcases u.n b x e with z | ⟨z, _⟩
    · exact r.fi.t b x z
    · exact .inr (r.fi.fresh r.hs z)
  · obtain ⟨h1, h2, h4, o, h3⟩ := r.fi.r a ha
    refine ⟨?_, h2, h4, o, u.h a o h3⟩
    cases q : S' a with
    | none => rfl
    | some x =>
      rcases u.n a x q with y | ⟨y, _⟩
      · rw [h1] at y; cases y
      · rw [h3] at y; cases y
  · obtain ⟨v, h1, h2⟩ := r.fz i d e
    exact ⟨v, h1, h2.mono u.mo⟩
  · obtain ⟨a, h1, h2, h3, h4, h5⟩ := r.ow i d e
    refine ⟨a, h1, ?_, h3, h4, h5.keep u.mo (u.h a)⟩
    obtain ⟨o, ho⟩ := h5.has
    cases q : S' a with
    | none => rfl
    | some x =>
      rcases u.n a x q with y | ⟨y, _⟩
      · rw [h2] at y; cases y
      · rw [ho] at y; cases y
theorem Up.new (h : H p = none) (hs : S p = none) : Up H S (upd H p o) S := ⟨fun b x e => by rw [upd_ne (ne_of_none e h)]; exact e, fun _ _ e => e, fun _ _ e => .inl e⟩
theorem Up.newS (h : H p = none) (hs : S p = none) : Up H S (upd H p o) (upd S p o) := by
  refine ⟨fun b x e => by rw [upd_ne (ne_of_none e h)]; exact e, fun b x e => by rw [upd_ne (ne_of_none e hs)]; exact e, fun b x e => ?_⟩
  by_cases hb : b = p
  · subst hb
    rw [upd_same] at e
    exact .inr ⟨h, by rw [upd_same]; exact e⟩
  · rw [upd_ne hb] at e
    exact .inl e

/-- an unshared object is frozen -/
theorem Rel.freeze (r : Rel g F σ H S mu env cs) (ho : H a = some o) (hs : S a = none) (hm : a ∉ mu) (hF : F.H a = none ∧ a ∉ F.rs) (hne : ∀ (i : Nat) d', env[i]? = some (.ow d') → σ[i]? ≠ some (some (.ref a))) :
    Rel g F σ H (upd S a o) mu env cs := by
  have m : Mo S mu (upd S a o) mu := Mo.new hs
  refine ⟨⟨fun b u e => ?_, r.hs.len, r.hs.nd, fun i b c e1 e2 => ?_, fun b f e sf => ?_⟩, ⟨r.fi.mo.trans m, fun b x h hm => (r.fi.h b x h hm).trans (fun _ h' => .inl h') (m.s b), r.fi.n, fun b u e => ?_, r.fi.l, fun b hb => ?_⟩, r.len, fun i d e => ?_, fun i d e => ?_, r.sep⟩
  · by_cases hb : b = a
    · subst hb; rw [upd_same] at e; cases e; exact .inl ho
    · rw [upd_ne hb] at e; exact r.hs.sub b u e
  · obtain ⟨z, q⟩ := r.hs.cell i b c e1 e2
    have hb : b ≠ a := fun h => hm (h ▸ List.mem_iff_getElem?.mpr ⟨i, e1⟩)
    exact ⟨by rw [upd_ne hb]; exact z, q.keep m fun _ h => h⟩
  · by_cases hb : b = a
    · subst hb; rw [upd_same] at e; cases e; exact ho
    · rw [upd_ne hb] at e; exact r.hs.ext b f e sf
  · by_cases hb : b = a
    · subst hb; exact .inr hF.1
    · rw [upd_ne hb] at e; exact r.fi.t b u e
  · have hne : b ≠ a := fun h => hF.2 (h ▸ hb)
    rw [upd_ne hne]
    exact r.fi.r b hb
  · obtain ⟨v, h1, h2⟩ := r.fz i d e
    exact ⟨v, h1, h2.mono m⟩
  · obtain ⟨b, h1, h2, h3, h4, h5⟩ := r.ow i d e
    have hb : b ≠ a := fun h => hne i d e (h ▸ h1)
    exact ⟨b, h1, by rw [upd_ne hb]; exact h2, h3, h4, h5.keep m fun _ h => h⟩
theorem Gr.freeze (hs : S a = none) : Gr H S mu H (upd S a o) mu := ⟨Mo.new hs, fun _ _ h _ => .inl h, fun _ h => .inl h⟩
theorem Gr.withS {S1} (x : Gr H S mu H' S1 mu') (m : Mo S1 mu' S' mu') : Gr H S mu H' S' mu' := ⟨x.mo.trans m, fun b o h hm => (x.h b o h hm).trans (fun _ h' => .inl h') (m.s b), x.n⟩

/-- a slot forgotten or changed by the way -/
theorem Rel.ext (r : Rel g F σ H S mu env cs) {i : Nat} {d : D} (e : env[i]? = some (.ow d)) : ∃ S', Gr H S mu H S' mu ∧ Rel g F σ H S' mu (env.set i (.fz d)) cs ∧ ∃ a, σ[i]? = some (some (.ref a)) ∧ Rp g S' mu (.ref a) d := by
  obtain ⟨a, h1, h2, h3, h4, h5⟩ := r.ow i d e
  obtain ⟨o, ho, rp⟩ := h5.fz h2
  have hi : i < env.length := (List.getElem?_eq_some_iff.mp e).1
  have m : Mo S mu (upd S a o) mu := Mo.new h2
  have other : ∀ (j : Nat) (d' : D), (env.set i (.fz d))[j]? = some (.ow d') → env[j]? = some (.ow d') ∧ j ≠ i := fun j d' q => by
    by_cases hj : j = i
    · subst hj
      rw [List.getElem?_set_self hi] at q; cases q
    · rw [List.getElem?_set_ne (Ne.symm hj)] at q
      exact ⟨q, hj⟩
  have r' : Rel g F σ H (upd S a o) mu (env.set i (.fz d)) cs := by
    have r0 : Rel g F σ H S mu (env.set i .no) cs := by
      refine ⟨r.hs, r.fi, by rw [List.length_set]; exact r.len, fun j d' q => ?_, fun j d' q => ?_, fun j k d' d'' b q1 q2 => ?_⟩
      · by_cases hj : j = i
        · subst hj; rw [List.getElem?_set_self hi] at q; cases q
        · rw [List.getElem?_set_ne (Ne.symm hj)] at q; exact r.fz j d' q
      · by_cases hj : j = i
        · subst hj; rw [List.getElem?_set_self hi] at q; cases q
        · rw [List.getElem?_set_ne (Ne.symm hj)] at q; exact r.ow j d' q
      · have t : ∀ (j : Nat) (d' : D), (env.set i Slot.no)[j]? = some (.ow d') → env[j]? = some (.ow d') := fun j d' q => by
          by_cases hj : j = i
          · subst hj; rw [List.getElem?_set_self hi] at q; cases q
          · rw [List.getElem?_set_ne (Ne.symm hj)] at q; exact q
        exact r.sep j k d' d'' b (t _ _ q1) (t _ _ q2)
    have r1 := r0.freeze ho h2 h3 h4 fun j d' q hj => by
      have hj2 : j ≠ i := by
        rintro rfl
        rw [List.getElem?_set_self hi] at q; cases q
      rw [List.getElem?_set_ne (Ne.symm hj2)] at q
      exact hj2 (r.sep j i d' d a q e hj h1)
    refine ⟨r1.hs, r1.fi, by rw [List.length_set]; exact r.len, fun j d' q => ?_, fun j d' q => ?_, fun j k d' d'' b q1 q2 => ?_⟩
    · by_cases hj : j = i
      · subst hj
        rw [List.getElem?_set_self hi] at q; cases q
        exact ⟨_, h1, rp⟩
      · rw [List.getElem?_set_ne (Ne.symm hj)] at q
        exact r1.fz j d' (by rw [List.getElem?_set_ne (Ne.symm hj)]; exact q)
    · obtain ⟨q1, hj⟩ := other j d' q
      exact r1.ow j d' (by rw [List.getElem?_set_ne (Ne.symm hj)]; exact q1)
    · exact r.sep j k d' d'' b (other _ _ q1).1 (other _ _ q2).1
  exact ⟨_, Gr.freeze h2, r', a, h1, rp⟩
/-- a value that came fresh is frozen -/
theorem Res.fz (r : Rel g F σ H S mu env cs) {b : Bool} (x : Res g F σ env H S mu v d b) : ∃ S', Mo S mu S' mu ∧ Rel g F σ H S' mu env cs ∧ Rp g S' mu v d := by
  cases b with
  | false => exact ⟨S, .refl, r, x⟩
  | true =>
    obtain ⟨a, rfl, h1, h2, h3, h4, h5⟩ := x
    obtain ⟨o, ho, rp⟩ := h4.fz h1
    exact ⟨_, Mo.new h1, r.freeze ho h1 h2 h3 h5, rp⟩
end

/-! ### frozen, operands -/
/-- one reading by another -/
theorem RA.bind {α α' β β' : Type} {g : Glob} {F : Ent} {W : WX} {T : SS → Env → Hp → Hp → List Addr → β → α → Prop} {T' : SS → Env → Hp → Hp → List Addr → β' → α' → Prop} {m : M α} {f : α → M α'} {σ : SS} {H S : Hp} {mu : List Addr} {env : Env} {cs : Cells} {Q : β' → Hp → Prop} {Q1 : β → Hp → Prop}
    (h : RA g F W T' (m.bind f) σ H S mu env cs Q) (i : ∀ a env1 cs1 v H1 S1 mu1, Gr H S mu H1 S1 mu1 → T σ env1 H1 S1 mu1 v a → RA g F W T' (f a) σ H1 S1 mu1 env1 cs1 Q → Q1 v H1) : RA g F W T m σ H S mu env cs Q1 := by
  obtain ⟨r, q⟩ := h
  rw [Post.bind] at q
  exact ⟨r, q.on fun a env1 cs1 q1 v H1 S1 mu1 gr rl t => i a env1 cs1 v H1 S1 mu1 gr t ⟨rl, q1.on fun b e c k v' H' S' mu' gr' => k v' H' S' mu' (gr.trans gr')⟩⟩
theorem rd_bind {α α' β β' : Type} {g : Glob} {F : Ent} {W : WX} {T : SS → Env → Hp → Hp → List Addr → β → α → Prop} {T' : SS → Env → Hp → Hp → List Addr → β' → α' → Prop} {m : M α} {f : α → M α'} {σ : SS} {H : Hp} {Q : β' → Hp → Prop} {Q1 : β → Hp → Prop}
    (h : rd g F W T' (m.bind f) σ H Q) (i : ∀ a env1 cs1 v H1 S1 mu1, T σ env1 H1 S1 mu1 v a → RA g F W T' (f a) σ H1 S1 mu1 env1 cs1 Q → Q1 v H1) : rd g F W T m σ H Q1 := by
  obtain ⟨S, mu, env, cs, r⟩ := h
  exact ⟨S, mu, env, cs, r.bind fun a env1 cs1 v H1 S1 mu1 gr t ra => i a env1 cs1 v H1 S1 mu1 t ra⟩
theorem RA.rd {α β : Type} {g : Glob} {F : Ent} {W : WX} {T : SS → Env → Hp → Hp → List Addr → β → α → Prop} {m : M α} {σ : SS} {H S : Hp} {mu : List Addr} {env : Env} {cs : Cells} {Q : β → Hp → Prop} (h : RA g F W T m σ H S mu env cs Q) : rd g F W T m σ H Q := ⟨S, mu, env, cs, h⟩
theorem RA.pure {α β : Type} {g : Glob} {F : Ent} {W : WX} {T : SS → Env → Hp → Hp → List Addr → β → α → Prop} {a : α} {σ : SS} {H S : Hp} {mu : List Addr} {env : Env} {cs : Cells} {Q : β → Hp → Prop} (h : RA g F W T (M.pure a) σ H S mu env cs Q) {v : β} (t : T σ env H S mu v a) : Q v H :=
  h.2 v H S mu .refl h.1 t
def mZ (m : M (D × Bool)) : M D := m.bind fun r => M.pure r.1
section
variable {g : Glob} {F : Ent} {W : WX} {X : Cx} {e : Expr}
theorem sZ {m : M (D × Bool)} (h : PE X e (rdE g F W m)) : PE X e (rdZ g F W (mZ m)) := PE.imp h fun σ H Q q =>
  rd_bind q fun a env1 cs1 v H1 S1 mu1 t ra => by
    obtain ⟨S2, m2, r2, rp⟩ := Res.fz ra.1 t
    exact ra.2 v H1 S2 mu1 (Gr.refl.withS m2) r2 rp
/-- not fresh -/
theorem sE {m : M D} (h : PE X e (rdZ g F W m)) : PE X e (rdE g F W (m.bind fun d => M.pure (d, false))) := PE.imp h fun σ H Q q =>
  rd_bind q fun a env1 cs1 v H1 S1 mu1 t ra => ra.pure t
end
/-- a value read where it is not kept: frozen, or an own one's or a cell's -/
def Vw (g : Glob) (H S : Hp) (mu : List Addr) (v : V) (d : D) : Prop := Rp g S mu v d ∨ ∃ a, v = .ref a ∧ At g H S mu a d
theorem At.lockd {g : Glob} {H S S' : Hp} {mu mu' : List Addr} {a : Addr} {d : D} {kvs} (x : At g H S mu a d) (h : H a = some (.dK kvs)) (hs : S' a = some (.dK kvs)) (m : Mo S mu S' mu') : Rp g S' mu' (.ref a) d := by
  cases d <;> first | exact x.elim | skip
  · obtain ⟨vs, e, r⟩ := x; rw [h] at e; cases e
  · obtain ⟨vs, e, r⟩ := x; rw [h] at e; cases e; exact .dct hs (r.mono m)
  · obtain ⟨dx, vs, e, r⟩ := x; rw [h] at e; cases e
  · obtain ⟨z, dx, vs, e, r⟩ := x; rw [h] at e; cases e
  · obtain ⟨ps, e, _⟩ := x; rw [h] at e; cases e
theorem Vw.keep {g : Glob} {H S mu H' S' mu' v d} (x : Vw g H S mu v d) (gr : Gr H S mu H' S' mu') (h : ∀ a, v = .ref a → (∃ o, H a = some o) → a ∉ mu ∨ Rp g S mu v d) : Vw g H' S' mu' v d := by
  rcases x with x | ⟨a, e, x⟩
  · exact .inl (x.mono gr.mo)
  · rcases h a e x.has with z | z
    · obtain ⟨o, ho⟩ := x.has
      rcases gr.h a o ho z with k | ⟨kvs, od, k1, k2, k3⟩
      · exact .inr ⟨a, e, x.keep gr.mo fun o' ho' => by rw [ho] at ho'; cases ho'; exact k⟩
      · subst k1
        subst e
        exact .inl (x.lockd ho k2 gr.mo)
    · exact .inl (z.mono gr.mo)
/-- an operand: never a cell's content (that is read last) -/
def Vo (g : Glob) (H S : Hp) (mu : List Addr) (v : V) (d : D) : Prop := Rp g S mu v d ∨ ∃ a, v = .ref a ∧ a ∉ mu ∧ At g H S mu a d
theorem Vo.keep {g : Glob} {cs H S mu H' S' mu' v d} (x : Vo g H S mu v d) (gr : Gr H S mu H' S' mu') (r : HS g H S mu cs) : Vo g H' S' mu' v d := by
  rcases x with x | ⟨a, e, n, x⟩
  · exact .inl (x.mono gr.mo)
  · obtain ⟨o, ho⟩ := x.has
    rcases gr.h a o ho n with k | ⟨kvs, od, k1, k2, k3⟩
    · refine .inr ⟨a, e, fun q => ?_, x.keep gr.mo fun o' ho' => by rw [ho] at ho'; cases ho'; exact k⟩
      rcases gr.n a q with z | z
      · exact n z
      · rw [ho] at z; cases z
    · subst k1
      subst e
      exact .inl (x.lockd ho k2 gr.mo)
@[simp] def dr (cs : Cells) : D → Option D
  | .cell n => cs[n]?
  | d => some d
theorem Vo.dr {g : Glob} {H S mu cs v d d'} (h : HS g H S mu cs) (x : Vo g H S mu v d) (e : dr cs d = some d') : Vw g H S mu v d' := by
  rcases x with x | ⟨a, ea, n, x⟩
  · cases x with
    | cell hc =>
      obtain ⟨c, hc1, _, q⟩ := h.cellAt hc
      have e2 : cs[_]? = some d' := e
      rw [hc1] at e2
      cases e2
      exact .inr ⟨_, rfl, q⟩
    | non => cases e; exact .inl .non
    | bl => cases e; exact .inl (.bl _)
    | int => cases e; exact .inl (.int _)
    | str => cases e; exact .inl (.str _)
    | lst h1 h2 => cases e; exact .inl (.lst h1 h2)
    | tup h1 h2 => cases e; exact .inl (.tup h1 h2)
    | dct h1 h2 => cases e; exact .inl (.dct h1 h2)
    | ins h1 h2 => cases e; exact .inl (.ins h1 h2)
    | slf h1 h2 => cases e; exact .inl (.slf h1 h2)
    | adr => cases e; exact .inl .adr
    | tab h1 => cases e; exact .inl (.tab h1)
  · cases d <;> first | exact x.elim | skip
    all_goals (cases e; exact .inr ⟨a, ea, x⟩)
abbrev TVo (g : Glob) : SS → Env → Hp → Hp → List Addr → V → D → Prop := fun _ _ H S mu v d => Vo g H S mu v d
abbrev rdO (g : Glob) (F : Ent) (W : WX) (m : M D) : TE := rd g F W (TVo g) m
section
variable {g : Glob} {F : Ent} {W : WX} {X : Cx} {e : Expr}
theorem sO {m : M D} (h : PE X e (rdZ g F W m)) : PE X e (rdO g F W m) := PE.imp h fun σ H Q ⟨S, mu, env, cs, r, q⟩ =>
  ⟨S, mu, env, cs, r, q.on fun a e c k v H' S' mu' gr rl t => k v H' S' mu' gr rl (.inl t)⟩
end

/-! ### names -/
def mVar (i : Nat) : M D := fun env cs => match env[i]? with
  | some (.fz d) => .ok d env cs
  | some (.ow d) => .ok d (env.set i (.fz d)) cs
  | _ => .stuck
def mPeek (i : Nat) : M D := fun env cs => match env[i]? with
  | some (.fz d) => .ok d env cs
  | some (.ow d) => .ok d env cs
  | _ => .stuck
section
variable {g : Glob} {F : Ent} {W : WX} {X : Cx} {e : Expr}
theorem sVar {i : Nat} (h : PE X e (tVar i)) : PE X e (rdZ g F W (mVar i)) := PE.imp h fun σ H Q ⟨S, mu, env, cs, r, q⟩ => by
  unfold mVar at q
  cases e1 : env[i]? with
  | none => rw [e1] at q; exact q.elim
  | some sl =>
    rw [e1] at q
    cases sl with
    | no => exact q.elim
    | fz d =>
      obtain ⟨v, h1, h2⟩ := r.fz i d e1
      exact ⟨v, h1, q v H S mu .refl r h2⟩
    | ow d =>
      obtain ⟨S', gr, r', a, h1, rp⟩ := r.ext e1
      exact ⟨_, h1, q _ H S' mu gr r' rp⟩
theorem sPeek {i : Nat} (h : PE X e (tVar i)) : PE X e (rdO g F W (mPeek i)) := PE.imp h fun σ H Q ⟨S, mu, env, cs, r, q⟩ => by
  unfold mPeek at q
  cases e1 : env[i]? with
  | none => rw [e1] at q; exact q.elim
  | some sl =>
    rw [e1] at q
    cases sl with
    | no => exact q.elim
    | fz d =>
      obtain ⟨v, h1, h2⟩ := r.fz i d e1
      exact ⟨v, h1, q v H S mu .refl r (.inl h2)⟩
    | ow d =>
      obtain ⟨a, h1, h2, h3, h4, h5⟩ := r.ow i d e1
      exact ⟨_, h1, q _ H S mu .refl r (.inr ⟨a, rfl, h3, h5⟩)⟩
/-- a constant -/
theorem sC {v : V} {d : D} (h : PE X e (tC v)) (rp : ∀ S mu, Rp g S mu v d) : PE X e (rdZ g F W (M.pure d)) := PE.imp h fun σ H Q ⟨S, mu, env, cs, r, q⟩ => q v H S mu .refl r (rp S mu)
end

/-! ### operations on values -/
/-- what an operation gives -/
structure OpRes (g : Glob) (H S : Hp) (mu : List Addr) (H' S' : Hp) (v : V) (d : D) (fr : Bool) : Prop where
  up : Up H S H' S'
  res : if fr = true then ∃ a, v = .ref a ∧ H a = none ∧ S' a = none ∧ At g H' S' mu a d else Rp g S' mu v d
theorem OpRes.val {g : Glob} {H S mu v d} (h : Rp g S mu v d) : OpRes g H S mu H S v d false := ⟨.refl, by rw [if_neg (by decide)]; exact h⟩
theorem OpRes.new {g : Glob} {H S mu cs} {p : Addr} {o : HO} {d} (hs : HS g H S mu cs) (hp : H p = none) (h : At g (upd H p o) S mu p d) : OpRes g H S mu (upd H p o) S (.ref p) d true :=
  ⟨Up.new hp (hs.sNone hp), by rw [if_pos rfl]; exact ⟨p, rfl, hp, hs.sNone hp, h⟩⟩
theorem OpRes.tup {g : Glob} {H S mu cs} {p : Addr} {vs ds} (hs : HS g H S mu cs) (hp : H p = none) (h : RpL g S mu vs ds) : OpRes g H S mu (upd H p (.tup vs)) (upd S p (.tup vs)) (.ref p) (.tup ds) false :=
  ⟨Up.newS hp (hs.sNone hp), by rw [if_neg (by decide)]; exact .tup (.inl upd_same) (h.mono (Mo.new (hs.sNone hp)))⟩
theorem OpRes.lst {g : Glob} {H S mu cs} {p : Addr} {vs ds} (hs : HS g H S mu cs) (hp : H p = none) (h : RpL g S mu vs ds) : OpRes g H S mu (upd H p (.lst vs)) S (.ref p) (.lst ds) true :=
  OpRes.new hs hp ⟨vs, upd_same, h⟩
theorem OpRes.rel {g : Glob} {F σ H S mu env cs H' S' v d fr} (r : Rel g F σ H S mu env cs) (x : OpRes g H S mu H' S' v d fr) : Rel g F σ H' S' mu env cs ∧ Gr H S mu H' S' mu ∧ Res g F σ env H' S' mu v d fr := by
  have r' := x.up.rel r
  refine ⟨r', x.up.gr, ?_⟩
  cases fr with
  | false =>
    have h := x.res
    rw [if_neg (by decide)] at h
    exact h
  | true =>
    obtain ⟨a, e, h1, h2, h3⟩ := by have h := x.res; rw [if_pos rfl] at h; exact h
    refine ⟨a, e, h2, r.hs.notMu h1, ⟨r.fi.fresh r.hs h1, fun z => ?_⟩, h3, fun i d' q z => ?_⟩
    · obtain ⟨_, _, _, o, ho⟩ := r.fi.r a z
      rw [ho] at h1; cases h1
    obtain ⟨b, e1, _, _, _, e5⟩ := r.ow i d' q
    rw [e1] at z
    cases z
    obtain ⟨o, ho⟩ := e5.has
    rw [ho] at h1; cases h1
abbrev OpF2 := Cells → D → D → Option (D × Bool)
/-- f tells what the reading r asks -/
def OpOk (g : Glob) (f : OpF2) (r : R2) : Prop := ∀ (H S : Hp) (mu : List Addr) (cs : Cells) (v w : V) (a b : D) (x : D × Bool) (Q : VK), HS g H S mu cs → Vo g H S mu v a → Vo g H S mu w b → f cs a b = some x →
  (∀ u H' S', OpRes g H S mu H' S' u x.1 x.2 → Q u H') → r v w H Q
/-- by the cells as they stand -/
def mCs {α : Type} (f : Cells → Option α) : M α := fun env cs => M.opt (f cs) env cs
def mOp2 (f : OpF2) (ma mb : M D) : M (D × Bool) := ma.bind fun a => mb.bind fun b => mCs fun cs => f cs a b
abbrev OpF1 := Cells → D → Option (D × Bool)
def OpOk1 (g : Glob) (f : OpF1) (r : V → Hp → VK → Prop) : Prop := ∀ (H S : Hp) (mu : List Addr) (cs : Cells) (v : V) (a : D) (x : D × Bool) (Q : VK), HS g H S mu cs → Vo g H S mu v a → f cs a = some x →
  (∀ u H' S', OpRes g H S mu H' S' u x.1 x.2 → Q u H') → r v H Q
def mOp1 (f : OpF1) (ma : M D) : M (D × Bool) := ma.bind fun a => mCs fun cs => f cs a
section
variable {g : Glob} {F : Ent} {W : WX} {X : Cx} {e : Expr}
/-- an operation's end -/
theorem RA.op {x : Option (D × Bool)} {σ : SS} {H S : Hp} {mu : List Addr} {env : Env} {cs : Cells} {Q : VK} (h : RA g F W (TRes g F) (M.opt x) σ H S mu env cs Q) : ∃ y, x = some y ∧ ∀ u H' S', OpRes g H S mu H' S' u y.1 y.2 → Q u H' := by
  cases x with
  | none => exact h.2.elim
  | some y =>
    refine ⟨y, rfl, fun u H' S' or => ?_⟩
    obtain ⟨r', gr', res⟩ := or.rel h.1
    exact h.2 u H' S' mu gr' r' res
theorem RA.cs {f : Cells → Option (D × Bool)} {σ : SS} {H S : Hp} {mu : List Addr} {env : Env} {cs : Cells} {Q : VK} (h : RA g F W (TRes g F) (mCs f) σ H S mu env cs Q) : ∃ y, f cs = some y ∧ ∀ u H' S', OpRes g H S mu H' S' u y.1 y.2 → Q u H' :=
  RA.op (g := g) (F := F) (W := W) (x := f cs) ⟨h.1, h.2⟩
theorem iOp2 {f : OpF2} {r : R2} {ma mb : M D} (h : OpOk g f r) (σ : SS) (H : Hp) (Q : VK) (q : rdE g F W (mOp2 f ma mb) σ H Q) : tOp r (rdO g F W ma) (rdO g F W mb) σ H Q :=
  rd_bind q fun a env1 cs1 v H1 S1 mu1 va r1 => (r1.bind fun b env2 cs2 w H2 S2 mu2 gr2 vb r2 => by
    obtain ⟨y, e, k⟩ := r2.cs
    exact h _ _ _ _ _ _ _ _ _ _ r2.1.hs (Vo.keep va gr2 r1.1.hs) vb e k).rd
theorem iOp1 {f : OpF1} {r : V → Hp → VK → Prop} {ma : M D} (h : OpOk1 g f r) (σ : SS) (H : Hp) (Q : VK) (q : rdE g F W (mOp1 f ma) σ H Q) : tUn r (rdO g F W ma) σ H Q :=
  rd_bind q fun a env1 cs1 v H1 S1 mu1 va r1 => by
    obtain ⟨y, e, k⟩ := r1.cs
    exact h _ _ _ _ _ _ _ _ r1.1.hs va e k
end

/-! ### what a view says -/
section
variable {g : Glob} {H S : Hp} {mu : List Addr} {cs : Cells} {v : V}
theorem KL.sq {a xs} (h : KL g.K a xs) : SqL g.K H a xs := .inr h
theorem KT.sq {a xs} (h : KT g.K a xs) : SqT g.K H a xs := .inr h
theorem Vw.non (x : Vw g H S mu v .non) : v = .non := by
  rcases x with x | ⟨a, e, x⟩
  · cases x; rfl
  · exact x.elim
theorem Vw.bl {b} (x : Vw g H S mu v (.bl b)) : v = .bl b := by
  rcases x with x | ⟨a, e, x⟩
  · cases x; rfl
  · exact x.elim
theorem Vw.int {b} (x : Vw g H S mu v (.int b)) : v = .int b := by
  rcases x with x | ⟨a, e, x⟩
  · cases x; rfl
  · exact x.elim
theorem Vw.str {b} (x : Vw g H S mu v (.str b)) : v = .str b := by
  rcases x with x | ⟨a, e, x⟩
  · cases x; rfl
  · exact x.elim
theorem Vw.lst {ds} (h : HS g H S mu cs) (x : Vw g H S mu v (.lst ds)) : ∃ a vs, v = .ref a ∧ SqL g.K H a vs ∧ RpL g S mu vs ds := by
  rcases x with x | ⟨a, e, x⟩
  · cases x with
    | lst h1 h2 =>
      refine ⟨_, _, rfl, ?_, h2⟩
      rcases h1 with h1 | h1
      · exact .inl (h.sub _ _ h1)
      · exact .inr h1
  · obtain ⟨vs, h1, h2⟩ := x
    exact ⟨a, vs, e, .of h1, h2⟩
theorem Vw.tup {ds} (h : HS g H S mu cs) (x : Vw g H S mu v (.tup ds)) : ∃ a vs, v = .ref a ∧ SqT g.K H a vs ∧ RpL g S mu vs ds := by
  rcases x with x | ⟨a, e, x⟩
  · cases x with
    | tup h1 h2 =>
      refine ⟨_, _, rfl, ?_, h2⟩
      rcases h1 with h1 | h1
      · exact .inl (h.sub _ _ h1)
      · exact .inr h1
  · exact x.elim
theorem Vw.dct {ds} (h : HS g H S mu cs) (x : Vw g H S mu v (.dct ds)) : ∃ a vs, v = .ref a ∧ Rd H a (.dK vs) ∧ RpK g S mu vs ds := by
  rcases x with x | ⟨a, e, x⟩
  · cases x with
    | dct h1 h2 => exact ⟨_, _, rfl, h.sub _ _ h1, h2⟩
  · obtain ⟨vs, h1, h2⟩ := x
    exact ⟨a, vs, e, .inl h1, h2⟩
theorem Vw.ins {c ds} (h : HS g H S mu cs) (x : Vw g H S mu v (.ins c ds)) : ∃ a dx vs, v = .ref a ∧ Rd H a (.ins (g.ca c) dx vs) ∧ RpF g S mu vs ds := by
  rcases x with x | ⟨a, e, x⟩
  · cases x with
    | ins h1 h2 => exact ⟨_, _, _, rfl, h.sub _ _ h1, h2⟩
  · obtain ⟨dx, vs, h1, h2⟩ := x
    exact ⟨a, dx, vs, e, .inl h1, h2⟩
end
end EL
namespace EL
open PySem PySem.Spec L2

section
variable {g : Glob} {F : Ent} {W : WX} {X : Cx} {e a b : Expr} {es : List Expr} {pos : Pos}

/-! ### arguments, displays -/
def mCons (ma : M D) (mr : M (List D)) : M (List D) := ma.bind fun d => mr.bind fun ds => M.pure (d :: ds)
theorem sANil : PA X [] (rdA g F W (M.pure [])) := PA.imp pa_nil fun σ H Q ⟨S, mu, env, cs, ra⟩ => ra.pure .nil
theorem starEach_cons (h : ∀ x p, e ≠ .Starred x p) : starEach (e :: es) X.env = (false, eval e X.env) :: starEach es X.env := by
  cases e <;> first | rfl | exact absurd rfl (h _ _)
theorem sACons {ma : M D} {mr : M (List D)} (h1 : PE X e (rdZ g F W ma)) (h2 : PA X es (rdA g F W mr)) (hs : ∀ x p, e ≠ .Starred x p) : PA X (e :: es) (rdA g F W (mCons ma mr)) :=
  PA.imp (pa_cons h1 h2 (starEach_cons hs)) fun σ H Q q => rd_bind q fun d env1 cs1 v H1 S1 mu1 t r1 =>
    (r1.bind fun ds env2 cs2 vs H2 S2 mu2 gr t2 r2 => r2.pure (.cons (t.mono gr.mo) t2)).rd
def mTup (m : M (List D)) : M (D × Bool) := m.bind fun ds => M.pure (.tup ds, false)
def mLst (m : M (List D)) : M (D × Bool) := m.bind fun ds => M.pure (.lst ds, true)
/-- at most so many -/
def Short {α : Type} (m : M (List α)) : Prop := ∀ env cs ds env' cs', m env cs = .ok ds env' cs' → ds.length ≤ sizeLine
theorem RA.sh {α : Type} {T : SS → Env → Hp → Hp → List Addr → List V → List α → Prop} {α' β' : Type} {T' : SS → Env → Hp → Hp → List Addr → β' → α' → Prop} {m : M (List α)} {f : List α → M α'} {σ : SS} {H S : Hp} {mu : List Addr} {env : Env} {cs : Cells} {Q : β' → Hp → Prop} {Q1 : List V → Hp → Prop} (sh : Short m)
    (h : RA g F W T' (m.bind f) σ H S mu env cs Q) (i : ∀ a env1 cs1 v H1 S1 mu1, Gr H S mu H1 S1 mu1 → T σ env1 H1 S1 mu1 v a → a.length ≤ sizeLine → RA g F W T' (f a) σ H1 S1 mu1 env1 cs1 Q → Q1 v H1) : RA g F W T m σ H S mu env cs Q1 := by
  obtain ⟨r, q⟩ := h
  rw [Post.bind] at q
  refine ⟨r, ?_⟩
  cases e1 : m env cs with
  | stuck => rw [e1] at q; exact q
  | exc k fs e c => rw [e1] at q; exact q
  | ok a env1 cs1 =>
    rw [e1] at q
    exact fun v H1 S1 mu1 gr rl t => i a env1 cs1 v H1 S1 mu1 gr t (sh _ _ _ _ _ e1) ⟨rl, Post.on q fun b e c k v' H' S' mu' gr' => k v' H' S' mu' (gr.trans gr')⟩
theorem sTup {m : M (List D)} (h : PA X es (rdA g F W m)) (sh : Short m) {x1} : PE X (.Tuple es x1 pos) (rdE g F W (mTup m)) :=
  PE.imp (pe_tup h) fun σ H Q ⟨S, mu, env, cs, ra⟩ => (RA.sh (T := TRl g) sh ra fun ds env1 cs1 vs H1 S1 mu1 gr t hl r1 => by
    refine ⟨by rw [t.length]; exact hl, fun p hp => ?_⟩
    exact RA.op (g := g) (F := F) (W := W) (x := some (.tup ds, false)) r1 |>.choose_spec.2 _ _ _ (by
      have e := (RA.op (g := g) (F := F) (W := W) (x := some (.tup ds, false)) r1).choose_spec.1
      rw [← Option.some.inj e]
      exact OpRes.tup r1.1.hs hp t)).rd
theorem sLst {m : M (List D)} (h : PA X es (rdA g F W m)) (sh : Short m) : PE X (.List es pos) (rdE g F W (mLst m)) :=
  PE.imp (pe_lst h) fun σ H Q ⟨S, mu, env, cs, ra⟩ => (RA.sh (T := TRl g) sh ra fun ds env1 cs1 vs H1 S1 mu1 gr t hl r1 => by
    refine ⟨by rw [t.length]; exact hl, fun p hp => ?_⟩
    exact RA.op (g := g) (F := F) (W := W) (x := some (.lst ds, true)) r1 |>.choose_spec.2 _ _ _ (by
      have e := (RA.op (g := g) (F := F) (W := W) (x := some (.lst ds, true)) r1).choose_spec.1
      rw [← Option.some.inj e]
      exact OpRes.lst r1.1.hs hp t)).rd

/-! ### tests -/
/-- a value's truth -/
@[simp] def trD : D → Option Bool
  | .non => some false
  | .bl b => some b
  | .int i => some (i != 0)
  | .str x => if x.length ≤ sizeLine then some ((x.length : Int) != 0) else none
  | .lst ds => some (!ds.isEmpty)
  | .tup ds => some (!ds.isEmpty)
  | _ => none
@[simp] def trC (cs : Cells) (d : D) : Option Bool := (dr cs d).bind trD
theorem RpL.isEmpty {S : Hp} {mu : List Addr} {vs ds} (r : RpL g S mu vs ds) : vs.isEmpty = ds.isEmpty := by cases r <;> rfl
theorem tru_of {H S : Hp} {mu : List Addr} {cs : Cells} {v : V} {d : D} {k : Bool} (hs : HS g H S mu cs) (x : Vo g H S mu v d) (e : trC cs d = some k) : TruV g.K v H k := by
  unfold trC at e
  cases e1 : dr cs d with
  | none => rw [e1] at e; cases e
  | some d' =>
    rw [e1] at e
    have e : trD d' = some k := e
    have w := x.dr hs e1
    cases d' <;> first | (simp [trD] at e; done) | skip
    · cases w.non; exact (Option.some.inj e).symm
    · cases w.bl; exact (Option.some.inj e).symm
    · cases w.int; exact (Option.some.inj e).symm
    · cases w.str
      simp only [trD] at e
      split at e
      · rename_i hl
        exact ⟨hl, (Option.some.inj e).symm⟩
      · cases e
    · obtain ⟨a, vs, rfl, h1, h2⟩ := w.lst hs
      exact .inl ⟨vs, h1, by rw [h2.isEmpty]; exact (Option.some.inj e).symm⟩
    · obtain ⟨a, vs, rfl, h1, h2⟩ := w.tup hs
      exact .inr (.inl ⟨vs, h1, by rw [h2.isEmpty]; exact (Option.some.inj e).symm⟩)
def mTr (ma : M D) : M Bool := ma.bind fun a => mCs fun cs => trC cs a
theorem RA.csT {α : Type} {f : Cells → Option α} {σ : SS} {H S : Hp} {mu : List Addr} {env : Env} {cs : Cells} {Q : α → Hp → Prop} (h : RA g F W TEq (mCs f) σ H S mu env cs Q) : ∃ y, f cs = some y ∧ Q y H := by
  obtain ⟨r, q⟩ := h
  unfold mCs M.opt at q
  cases e : f cs with
  | none => rw [e] at q; exact q.elim
  | some y => rw [e] at q; exact ⟨y, rfl, q y H S mu .refl r rfl⟩
def plainT : Expr → Bool
  | .UnaryOp .Not _ _ => false
  | .BoolOp _ _ _ => false
  | .IfExp _ _ _ _ => false
  | .Compare _ _ _ _ => false
  | _ => true
theorem plainT_ok (h : plainT a = true) (whole : Sem Value) : isTrue a X.env whole = (do let v ← whole; standAt a.pos; holding [v] (truthy v)) := by
  cases a <;> first | rfl | (simp [plainT] at h; done) | skip
  rename_i op _ _
  cases op <;> first | rfl | (simp [plainT] at h; done)
/-- an expression of any kind as a test -/
theorem sTrue {ma : M D} (hK : X.K = g.K) (ha : PE X a (rdO g F W ma)) (hp : plainT a = true) : PT X a (rdT g F W (mTr ma)) :=
  PT.imp (pt_truth ha (plainT_ok hp)) fun σ H Q q => rd_bind q fun d env1 cs1 v H1 S1 mu1 t r1 => by
    obtain ⟨y, e, k⟩ := r1.csT
    refine ⟨y, ?_, k⟩
    rw [hK]
    exact tru_of r1.1.hs t e
/-- .. a comparison, whose value is a bool -/
@[simp] def blD : D × Bool → Option Bool
  | (.bl b, _) => some b
  | _ => none
def mBl (ma : M (D × Bool)) : M Bool := ma.bind fun a => M.opt (blD a)
theorem RA.optT {α : Type} {x : Option α} {σ : SS} {H S : Hp} {mu : List Addr} {env : Env} {cs : Cells} {Q : α → Hp → Prop} (h : RA g F W TEq (M.opt x) σ H S mu env cs Q) : ∃ y, x = some y ∧ Q y H := by
  obtain ⟨r, q⟩ := h
  cases x with
  | none => exact q.elim
  | some y => exact ⟨y, rfl, q y H S mu .refl r rfl⟩
theorem res_bl {F : Ent} {σ : SS} {env : Env} {H S : Hp} {mu : List Addr} {v : V} {r : D × Bool} {k : Bool} (x : Res g F σ env H S mu v r.1 r.2) (e : blD r = some k) : v = .bl k := by
  obtain ⟨d, fr⟩ := r
  cases d <;> first | (simp [blD] at e; done) | skip
  cases e
  cases fr with
  | false => cases x; rfl
  | true =>
    obtain ⟨a, _, _, _, _, h, _⟩ := x
    exact h.elim
theorem iBl {m : M (D × Bool)} {σ : SS} {H : Hp} {Q : Bool → Hp → Prop} (q : rdT g F W (mBl m) σ H Q) : rdE g F W m σ H fun x H' => ∃ k, x = .bl k ∧ Q k H' :=
  rd_bind q fun r env1 cs1 v H1 S1 mu1 t r1 => by
    obtain ⟨y, e, k⟩ := r1.optT
    exact ⟨y, res_bl t e, k⟩
theorem sNotT {ma : M Bool} (ha : PT X a (rdT g F W ma)) : PT X (.UnaryOp .Not a pos) (rdT g F W (ma.bind fun b => M.pure (!b))) :=
  PT.imp (pt_not ha) fun σ H Q q => rd_bind q fun b env1 cs1 v H1 S1 mu1 t r1 => by
    subst t
    exact r1.pure rfl
def mAnd (ma mb : M Bool) : M Bool := ma.bind fun b => if b then mb else M.pure false
def mOr (ma mb : M Bool) : M Bool := ma.bind fun b => if b then M.pure true else mb
theorem sAnd1 {ma : M Bool} (ha : PT X a (rdT g F W ma)) : PW X (.BoolOp .And [a] pos) (rdT g F W ma) := pw_and1 ha
theorem sOr1 {ma : M Bool} (ha : PT X a (rdT g F W ma)) : PW X (.BoolOp .Or [a] pos) (rdT g F W ma) := pw_or1 ha
theorem PW.imp {t t' : TT} (h : PW X e t) (i : ∀ σ H Q, t' σ H Q → t σ H Q) : PW X e t' := ⟨fun wh pins s σ H Q I q => h.run wh pins s σ H Q I (i σ H Q q)⟩
theorem sAndC {rest : List Expr} {ma mb : M Bool} (ha : PT X a (rdT g F W ma)) (hb : PW X (.BoolOp .And (b :: rest) pos) (rdT g F W mb)) : PW X (.BoolOp .And (a :: b :: rest) pos) (rdT g F W (mAnd ma mb)) :=
  PW.imp (pw_and ha hb) fun σ H Q q => rd_bind q fun c env1 cs1 v H1 S1 mu1 t r1 => by
    subst t
    cases v with
    | true => rw [if_pos rfl]; exact r1.rd
    | false => rw [if_neg (by decide)]; exact r1.pure rfl
theorem sOrC {rest : List Expr} {ma mb : M Bool} (ha : PT X a (rdT g F W ma)) (hb : PW X (.BoolOp .Or (b :: rest) pos) (rdT g F W mb)) : PW X (.BoolOp .Or (a :: b :: rest) pos) (rdT g F W (mOr ma mb)) :=
  PW.imp (pw_or ha hb) fun σ H Q q => rd_bind q fun c env1 cs1 v H1 S1 mu1 t r1 => by
    subst t
    cases v with
    | true => rw [if_pos rfl]; exact r1.pure rfl
    | false => rw [if_neg (by decide)]; exact r1.rd
def mIf {α : Type} (mt : M Bool) (ma mb : M α) : M α := mt.bind fun b => if b then ma else mb
theorem sIfE {c : Expr} {mt : M Bool} {ma mb : M (D × Bool)} (hc : PT X c (rdT g F W mt)) (ha : PE X a (rdE g F W ma)) (hb : PE X b (rdE g F W mb)) : PE X (.IfExp c a b pos) (rdE g F W (mIf mt ma mb)) :=
  PE.imp (pe_ifExp hc ha hb) fun σ H Q q => rd_bind q fun k env1 cs1 v H1 S1 mu1 t r1 => by
    subst t
    cases v with
    | true => rw [if_pos rfl]; exact r1.rd
    | false => rw [if_neg (by decide)]; exact r1.rd

/-! ### not, and, or as values -/
def mNotV (ma : M D) : M (D × Bool) := ma.bind fun a => mCs fun cs => (trC cs a).map fun k => (.bl (!k), false)
theorem sNotV {ma : M D} (hK : X.K = g.K) (ha : PE X a (rdO g F W ma)) : PE X (.UnaryOp .Not a pos) (rdE g F W (mNotV ma)) :=
  PE.imp (pe_notT ha) fun σ H Q q => rd_bind q fun d env1 cs1 v H1 S1 mu1 t r1 => by
    obtain ⟨y, e, k⟩ := r1.cs
    cases e2 : trC cs1 d with
    | none => rw [e2] at e; cases e
    | some z =>
      rw [e2] at e
      cases e
      refine ⟨z, ?_, k _ _ _ (.val (.bl _))⟩
      rw [hK]
      exact tru_of r1.1.hs t e2
/-- x and y: x if it is not true -/
def mAndV (ma : M D) (mb : M (D × Bool)) : M (D × Bool) := ma.bind fun a => (mCs fun cs => trC cs a).bind fun k => if k then mb else M.pure (a, false)
def mOrV (ma : M D) (mb : M (D × Bool)) : M (D × Bool) := ma.bind fun a => (mCs fun cs => trC cs a).bind fun k => if k then M.pure (a, false) else mb
theorem RA.csB {α α' β' : Type} {T' : SS → Env → Hp → Hp → List Addr → β' → α' → Prop} {f : Cells → Option α} {k : α → M α'} {σ : SS} {H S : Hp} {mu : List Addr} {env : Env} {cs : Cells} {Q : β' → Hp → Prop}
    (h : RA g F W T' ((mCs f).bind k) σ H S mu env cs Q) : ∃ y, f cs = some y ∧ RA g F W T' (k y) σ H S mu env cs Q := by
  obtain ⟨r, q⟩ := h
  rw [Post.bind] at q
  unfold mCs M.opt at q
  cases e : f cs with
  | none => rw [e] at q; exact q.elim
  | some y => rw [e] at q; exact ⟨y, rfl, r, q⟩
theorem sAndV {rest : List Expr} {ma : M D} {mb : M (D × Bool)} (hK : X.K = g.K) (ha : PE X a (rdZ g F W ma)) (hb : PE X (.BoolOp .And (b :: rest) pos) (rdE g F W mb)) : PE X (.BoolOp .And (a :: b :: rest) pos) (rdE g F W (mAndV ma mb)) :=
  PE.imp (pe_andT ha hb) fun σ H Q q => rd_bind q fun d env1 cs1 v H1 S1 mu1 t r1 => by
    obtain ⟨y, e, r2⟩ := r1.csB
    refine ⟨y, ?_, ?_⟩
    · rw [hK]
      exact tru_of r1.1.hs (.inl t) e
    · cases y with
      | true => rw [if_pos rfl]; exact r2.rd
      | false => rw [if_neg (by decide)]; exact r2.pure t
theorem sOrV {rest : List Expr} {ma : M D} {mb : M (D × Bool)} (hK : X.K = g.K) (ha : PE X a (rdZ g F W ma)) (hb : PE X (.BoolOp .Or (b :: rest) pos) (rdE g F W mb)) : PE X (.BoolOp .Or (a :: b :: rest) pos) (rdE g F W (mOrV ma mb)) :=
  PE.imp (pe_orT ha hb) fun σ H Q q => rd_bind q fun d env1 cs1 v H1 S1 mu1 t r1 => by
    obtain ⟨y, e, r2⟩ := r1.csB
    refine ⟨y, ?_, ?_⟩
    · rw [hK]
      exact tru_of r1.1.hs (.inl t) e
    · cases y with
      | true => rw [if_pos rfl]; exact r2.pure t
      | false => rw [if_neg (by decide)]; exact r2.rd
end
end EL
namespace EL
open PySem PySem.Spec L2

/-! ### operations by what their operands are -/
abbrev F2 := D → D → Option (D × Bool)
@[simp] def dr2 (f : F2) : OpF2 := fun cs a b => (dr cs a).bind fun x => (dr cs b).bind fun y => f x y
def OpV (g : Glob) (f : F2) (r : R2) : Prop := ∀ (H S : Hp) (mu : List Addr) (cs : Cells) (v w : V) (a b : D) (x : D × Bool) (Q : VK), HS g H S mu cs → Vw g H S mu v a → Vw g H S mu w b → f a b = some x →
  (∀ u H' S', OpRes g H S mu H' S' u x.1 x.2 → Q u H') → r v w H Q
theorem OpV.ok {g : Glob} {f : F2} {r : R2} (h : OpV g f r) : OpOk g (dr2 f) r := fun H S mu cs v w a b x Q hs va vb e k => by
  unfold dr2 at e
  cases e1 : dr cs a with
  | none => rw [e1] at e; cases e
  | some a' =>
    rw [e1] at e
    cases e2 : dr cs b with
    | none => rw [e2] at e; cases e
    | some b' =>
      rw [e2] at e
      exact h _ _ _ _ _ _ _ _ _ _ hs (va.dr hs e1) (vb.dr hs e2) e k
/-- two roads -/
@[simp] def orF (f f' : F2) : F2 := fun a b => match f a b with
  | some x => some x
  | none => f' a b
theorem OpV.or {g : Glob} {f f' : F2} {r r' : R2} (h : OpV g f r) (h' : OpV g f' r') : OpV g (orF f f') (fun x y H Q => r x y H Q ∨ r' x y H Q) := fun H S mu cs v w a b x Q hs va vb e k => by
  unfold orF at e
  cases e1 : f a b with
  | some y => rw [e1] at e; cases e; exact .inl (h _ _ _ _ _ _ _ _ _ _ hs va vb e1 k)
  | none => rw [e1] at e; exact .inr (h' _ _ _ _ _ _ _ _ _ _ hs va vb e k)
/-- ints -/
def intF (C : Int → Int → Bool) (f : Int → Int → D) : F2
  | .int i, .int j => if C i j then some (f i j, false) else none
  | _, _ => none
theorem OpV.int {g : Glob} {C : Int → Int → Bool} {P : Int → Int → Prop} {f : Int → Int → D} {fV : Int → Int → V} (hC : ∀ i j, C i j = true → P i j) (hf : ∀ i j S mu, Rp g S mu (fV i j) (f i j)) : OpV g (intF C f) (rI P fV) :=
  fun H S mu cs v w a b x Q hs va vb e k => by
    cases a <;> cases b <;> first | (simp [intF] at e; done) | skip
    rename_i i j
    simp only [intF] at e
    split at e
    · rename_i hc
      cases e
      exact ⟨i, j, va.int, vb.int, hC i j hc, k _ _ _ (.val (hf i j S mu))⟩
    · cases e
theorem OpV.int0 {g : Glob} {f : Int → Int → D} {fV : Int → Int → V} (hf : ∀ i j S mu, Rp g S mu (fV i j) (f i j)) : OpV g (intF (fun _ _ => true) f) (rI0 fV) :=
  fun H S mu cs v w a b x Q hs va vb e k => by
    cases a <;> cases b <;> first | (simp [intF] at e; done) | skip
    rename_i i j
    simp only [intF, if_pos] at e
    cases e
    exact ⟨i, j, va.int, vb.int, k _ _ _ (.val (hf i j S mu))⟩
/-- texts -/
def strF (C : Str → Str → Bool) (f : Str → Str → D) : F2
  | .str i, .str j => if C i j then some (f i j, false) else none
  | _, _ => none
theorem OpV.str {g : Glob} {C : Str → Str → Bool} {f : Str → Str → D} {fV : Str → Str → V} {r : R2} (hf : ∀ i j S mu, Rp g S mu (fV i j) (f i j)) (hr : ∀ i j H Q, C i j = true → Q (fV i j) H → r (.str i) (.str j) H Q) : OpV g (strF C f) r :=
  fun H S mu cs v w a b x Q hs va vb e k => by
    cases a <;> cases b <;> first | (simp [strF] at e; done) | skip
    rename_i i j
    simp only [strF] at e
    split at e
    · rename_i hc
      cases e
      cases va.str
      cases vb.str
      exact hr i j H Q hc (k _ _ _ (.val (hf i j S mu)))
    · cases e

/-! ### lists put together, repeated -/
section
variable {X : Cx}
def rCatL (K : PySem.W.Frag) : R2 := fun x y H Q => ∃ a b xs ys, x = .ref a ∧ y = .ref b ∧ SqL K H a xs ∧ SqL K H b ys ∧ xs.length + ys.length ≤ sizeLine ∧ ∀ p, H p = none → Q (.ref p) (upd H p (.lst (xs ++ ys)))
theorem op_catL : OpR X (binaryOp .Add) (rCatL X.K) := by
  intro pins s σ H x y v u Q I rx ry h
  obtain ⟨a, b, xs, ys, rfl, rfl, ha, hb, hz, q⟩ := h
  cases rx
  cases ry
  obtain ⟨is1, r1, ⟨⟨c1, d1, t1, l1⟩, n1, o1, hc1, hd1, ht1⟩, z1⟩ := I.list ha
  obtain ⟨is2, r2, ⟨⟨c2, d2, t2, l2⟩, n2, o2, hc2, hd2, ht2⟩, z2⟩ := I.list hb
  simp only at hc1 hd1 ht1 hc2 hd2 ht2
  subst hc1 hd1 ht1 hc2 hd2 ht2
  have e : is1.toArray ++ is2.toArray = (is1 ++ is2).toArray := by simp
  have hl1 := r1.length
  have hl2 := r2.length
  refine concat_meets ⟨_, o1, rfl⟩ ⟨_, o2, rfl⟩ noFill_list_add seq_list_add F.slot_list_add F.entry_list_add (F.args_list_add_2 _ _)
    (PyProof.Rows.list_addW a b is1.toArray is2.toArray n1 n2 none none l1 l2 (by rw [List.size_toArray, List.size_toArray]; omega)) ⟨o1, o2, ?_⟩
  rw [e]
  exact ⟨.ref _, _, I.lnew (t' := s.toks) (r1.append r2) (by rw [List.length_append]; omega), rfl, q _ I.fresh⟩
def rRepL (K : PySem.W.Frag) : R2 := fun x y H Q => ∃ a k xs, x = .ref a ∧ y = .int k ∧ SqL K H a xs ∧ -(2 ^ 63) ≤ k ∧ k < 2 ^ 63 ∧ xs.length * k.toNat ≤ sizeLine ∧ ∀ p, H p = none → Q (.ref p) (upd H p (.lst (List.replicate k.toNat xs).flatten))
theorem op_repL : OpR X (binaryOp .Mult) (rRepL X.K) := by
  intro pins s σ H x y v u Q I rx ry h
  obtain ⟨a, k, xs, rfl, rfl, ha, k1, k2, hz, q⟩ := h
  cases rx
  obtain ⟨t, rfl⟩ := ry
  obtain ⟨its, r, ⟨⟨c1, d1, t1, l1⟩, n, ho, hc1, hd1, ht1⟩, z1⟩ := I.list ha
  simp only at hc1 hd1 ht1
  subst hc1 hd1 ht1
  have hl := r.length
  have hsz : its.toArray.size * k.toNat ≤ 2 ^ 24 := by
    have e : sizeLine = 2 ^ 24 := rfl
    rw [List.size_toArray, ← hl]; omega
  refine wpAny_binaryOp_repeat_ref (T := "list") (U := "int") (by decide) ⟨_, ho, rfl⟩ (fun s' => typeIs_int s' k t) noFill_list_mul F.fills_int_mul F.slot_int_rmul repeat_list F.slot_int_index.lookup
    (call_meets F.slot_int_rmul (typeIs_int s k t) F.entry_int_rmul (F.args_int_rmul_2 _ _) (lm_int_rmul_list_any k t a its.toArray n none l1)
      ⟨ho, rfl, ⟨_, ho, rfl⟩, call_meets F.slot_list_mul ⟨_, ho, rfl⟩ F.entry_list_mul (F.args_list_mul_2 _ _)
        (lm_list_mul_any a its.toArray n none l1 k t (by simp [Builtin.List.listFitsIndex]; omega) (by omega) (by simp [Builtin.List.listTooLong, sizeLine]; omega)) ⟨ho, ?_⟩⟩)
  rw [PyProof.Rows.listMul_foldl_if]
  exact ⟨.ref _, _, I.lnew (t' := s.toks) (r.rep k.toNat) (by rw [PyProof.Rows.lm_len_rep_flat, Nat.mul_comm]; exact hz), rfl, q _ I.fresh⟩
def rMulS : R2 := fun x y H Q => ∃ z n, x = .str z ∧ y = .int n ∧ MulOk z n ∧ Q (.str (Txt.mul z n)) H
theorem op_mulS : OpR X (binaryOp .Mult) rMulS := by
  intro pins s σ H x y v u Q I rx ry h
  obtain ⟨z, n, rfl, rfl, hz, q⟩ := h
  obtain ⟨t, rfl⟩ := rx
  obtain ⟨t', rfl⟩ := ry
  exact SB.mul hz fun t' k => ⟨.str _, H, I.tok _, ⟨_, rfl⟩, q⟩
end
theorem RpL.rep {g : Glob} {S mu} {vs ds} (r : RpL g S mu vs ds) : ∀ k : Nat, RpL g S mu (List.replicate k vs).flatten (List.replicate k ds).flatten
  | 0 => .nil
  | k + 1 => by
    rw [List.replicate_succ, List.replicate_succ, List.flatten_cons, List.flatten_cons]
    exact r.append (RpL.rep r k)

/-! ### + - * // % ** -/
def catF : F2
  | .lst a, .lst b => if a.length + b.length ≤ sizeLine then some (.lst (a ++ b), true) else none
  | _, _ => none
def catT : F2
  | .tup a, .tup b => if a.length + b.length ≤ sizeLine then some (.tup (a ++ b), false) else none
  | _, _ => none
@[simp] def opAdd : F2
  | .int i, .int j => some (.int (i + j), false)
  | .str x, .str y => if x.length + y.length ≤ sizeLine then some (.str (x ++ y), false) else none
  | .lst a, .lst b => if a.length + b.length ≤ sizeLine then some (.lst (a ++ b), true) else none
  | .tup a, .tup b => if a.length + b.length ≤ sizeLine then some (.tup (a ++ b), false) else none
  | _, _ => none
theorem opAdd_eq : opAdd = orF (intF (fun _ _ => true) fun i j => .int (i + j)) (orF (strF (fun x y => decide (x.length + y.length ≤ sizeLine)) fun x y => .str (x ++ y)) (orF catF catT)) := by
  funext a b
  cases a <;> cases b <;> first | rfl | skip
  all_goals (simp only [opAdd, orF, intF, strF, catF, catT, decide_eq_true_eq]; split <;> rfl)
section
variable {g : Glob} {X : Cx}
theorem v_catF : OpV g catF (rCatL g.K) := fun H S mu cs v w a b x Q hs va vb e k => by
  cases a <;> cases b <;> first | (simp [catF] at e; done) | skip
  simp only [catF] at e
  split at e
  · rename_i hl
    cases e
    obtain ⟨a, xs, rfl, h1, h2⟩ := va.lst hs
    obtain ⟨b, ys, rfl, h3, h4⟩ := vb.lst hs
    exact ⟨a, b, xs, ys, rfl, rfl, h1, h3, by rw [h2.length, h4.length]; exact hl, fun p hp => k _ _ _ (OpRes.lst hs hp (h2.append h4))⟩
  · cases e
theorem v_catT : OpV g catT (rCatA g.K) := fun H S mu cs v w a b x Q hs va vb e k => by
  cases a <;> cases b <;> first | (simp [catT] at e; done) | skip
  simp only [catT] at e
  split at e
  · rename_i hl
    cases e
    rename_i ds es
    obtain ⟨a, xs, rfl, h1, h2⟩ := va.tup hs
    obtain ⟨b, ys, rfl, h3, h4⟩ := vb.tup hs
    have rp1 : Rp g S mu (.ref a) (.tup ds) := by
      rcases va with z | ⟨_, _, z⟩
      · exact z
      · exact z.elim
    have rp2 : Rp g S mu (.ref b) (.tup es) := by
      rcases vb with z | ⟨_, _, z⟩
      · exact z
      · exact z.elim
    refine ⟨a, b, xs, ys, rfl, rfl, h1, h3, by rw [h2.length, h4.length]; exact hl, fun e1 => ?_, fun _ e2 => ?_, fun _ _ p hp => k _ _ _ (OpRes.tup hs hp (h2.append h4))⟩
    · subst e1
      cases h2
      exact k _ _ _ (.val rp2)
    · subst e2
      cases h4
      rw [List.append_nil] at k
      exact k _ _ _ (.val rp1)
  · cases e
/-- an operation of the language is told by f -/
def OpS (g : Glob) (F : Value → Value → Sem Value) (f : F2) : Prop := ∀ X : Cx, X.K = g.K → X.A.units + 64 < cLine → ∃ r, OpR X F r ∧ OpV g f r
theorem s_add : OpS g (binaryOp .Add) opAdd := fun X hK _ => by
  rw [opAdd_eq]
  exact ⟨_, op_add.or (op_add_str.or (op_catL.or op_catA)), OpV.or (OpV.int0 fun _ _ _ _ => .int _) (OpV.or (OpV.str (fV := fun x y => .str (x ++ y)) (fun _ _ _ _ => .str _) fun i j H Q hc q => ⟨i, j, rfl, rfl, of_decide_eq_true hc, q⟩) (OpV.or (hK ▸ v_catF) (hK ▸ v_catT)))⟩
@[simp] def opSub : F2
  | .int i, .int j => some (.int (i - j), false)
  | _, _ => none
theorem s_sub : OpS g (binaryOp .Sub) opSub := fun X hK _ => by
  have e : opSub = intF (fun _ _ => true) fun i j => .int (i - j) := by
    funext a b; cases a <;> cases b <;> rfl
  rw [e]
  exact ⟨_, op_sub, OpV.int0 fun _ _ _ _ => .int _⟩
/-- few bits together -/
def mulFit (i j : Int) : Bool := decide (i.natAbs.log2 + j.natAbs.log2 < 1000000)
def mulSFit (z : Str) (n : Int) : Bool := decide (z.length ≤ 1000 ∧ -1000 ≤ n ∧ n ≤ 1000)
def repF : F2
  | .lst a, .int k => if decide (-1000000 ≤ k ∧ k ≤ 1000000 ∧ a.length * k.toNat ≤ sizeLine) then some (.lst (List.replicate k.toNat a).flatten, true) else none
  | _, _ => none
def mulS : F2
  | .str z, .int n => if mulSFit z n then some (.str (Txt.mul z n), false) else none
  | _, _ => none
@[simp] def opMul : F2
  | .int i, .int j => if mulFit i j then some (.int (i * j), false) else none
  | .str z, .int n => if mulSFit z n then some (.str (Txt.mul z n), false) else none
  | .lst a, .int k => if decide (-1000000 ≤ k ∧ k ≤ 1000000 ∧ a.length * k.toNat ≤ sizeLine) then some (.lst (List.replicate k.toNat a).flatten, true) else none
  | _, _ => none
theorem opMul_eq : opMul = orF (intF mulFit fun i j => .int (i * j)) (orF mulS repF) := by
  funext a b
  cases a <;> cases b <;> first | rfl | skip
  all_goals (simp only [opMul, orF, intF, mulS, repF]; split <;> rfl)
theorem v_repF : OpV g repF (rRepL g.K) := fun H S mu cs v w a b x Q hs va vb e k => by
  cases a <;> cases b <;> first | (simp [repF] at e; done) | skip
  simp only [repF] at e
  split at e
  · rename_i hl
    cases e
    obtain ⟨h0, h1, h2⟩ := of_decide_eq_true hl
    obtain ⟨a, xs, rfl, h3, h4⟩ := va.lst hs
    exact ⟨a, _, xs, rfl, vb.int, h3, by omega, by omega, by rw [h4.length]; exact h2, fun p hp => k _ _ _ (OpRes.lst hs hp (h4.rep _))⟩
  · cases e
theorem mulS_ok {z : Str} {n : Int} (h : mulSFit z n = true) : MulOk z n := by
  obtain ⟨h0, h1, h2⟩ := of_decide_eq_true h
  refine ⟨?_, fun h3 _ => ?_, fun h3 _ => ?_⟩
  · rw [decide_eq_false (by omega), decide_eq_false (by omega)]; rfl
  · have : (1000 : Int) ≤ (2 ^ 63 - 1) / n := (Int.le_ediv_iff_mul_le (by omega)).mpr (by omega)
    omega
  · have : z.length * n.toNat ≤ 1000 * 1000 := Nat.mul_le_mul h0 (by omega)
    show (decide (z.length * n.toNat > sizeLine)) = false
    rw [decide_eq_false]
    have : sizeLine = 16777216 := rfl
    omega
theorem v_mulS : OpV g mulS rMulS := fun H S mu cs v w a b x Q hs va vb e k => by
  cases a <;> cases b <;> first | (simp [mulS] at e; done) | skip
  simp only [mulS] at e
  split at e
  · rename_i hl
    cases e
    exact ⟨_, _, va.str, vb.int, mulS_ok hl, k _ _ _ (.val (.str _))⟩
  · cases e
theorem s_mul : OpS g (binaryOp .Mult) opMul := fun X hK _ => by
  rw [opMul_eq]
  exact ⟨_, op_mulW.or (op_mulS.or op_repL), OpV.or (OpV.int (P := CMulW) (fun i j h => by unfold CMulW; exact of_decide_eq_true h) fun _ _ _ _ => .int _) (OpV.or v_mulS (hK ▸ v_repF))⟩
def divFit (j : Int) : Bool := decide (0 < j ∧ j.natAbs.log2 < 9000)
@[simp] def opFdiv : F2
  | .int i, .int j => if divFit j then some (.int (i / j), false) else none
  | _, _ => none
theorem s_fdiv : OpS g (binaryOp .FloorDiv) opFdiv := fun X hK _ => by
  have e : opFdiv = intF (fun _ j => divFit j) fun i j => .int (i / j) := by
    funext a b; cases a <;> cases b <;> rfl
  rw [e]
  exact ⟨_, op_fdivW, OpV.int (fun i j h => by unfold CDivW; exact of_decide_eq_true h) fun _ _ _ _ => .int _⟩
@[simp] def opMod : F2
  | .int i, .int j => if decide (j ≠ 0) then some (.int (i.fmod j), false) else none
  | _, _ => none
theorem s_mod : OpS g (binaryOp .Mod) opMod := fun X hK _ => by
  have e : opMod = intF (fun _ j => decide (j ≠ 0)) fun i j => .int (i.fmod j) := by
    funext a b; cases a <;> cases b <;> rfl
  rw [e]
  exact ⟨_, op_modN, OpV.int (fun i j h => of_decide_eq_true h) fun _ _ _ _ => .int _⟩
def powFit (i j : Int) : Bool := decide (0 ≤ j ∧ j ≤ 1000000 ∧ i.natAbs < 2 ^ 64)
@[simp] def opPow : F2
  | .int i, .int j => if powFit i j then some (.int (i ^ j.toNat), false) else none
  | _, _ => none
theorem s_pow : OpS g (binaryOp .Pow) opPow := fun X hK _ => by
  have e : opPow = intF powFit fun i j => .int (i ^ j.toNat) := by
    funext a b; cases a <;> cases b <;> rfl
  rw [e]
  exact ⟨_, op_pow, OpV.int (fun i j h => by unfold CPow; exact of_decide_eq_true h) fun _ _ _ _ => .int _⟩
end
end EL
namespace EL
open PySem PySem.Spec L2

/-! ### statements -/
inductive Fl where
  | nx | bk | ct
  | rt (d : D) (fr : Bool)
abbrev ExS (g : Glob) (F : Ent) (W : WX) (k : Nat) (fs : List (Str × D)) (env : Env) (cs : Cells) : Prop := ∀ σ, ExW g F W σ k fs env cs
def KS (g : Glob) (F : Ent) (E : Ends) : Fl → Env → Cells → Prop
  | .nx, env, cs => ∀ σ H S mu, Rel g F σ H S mu env cs → E.nx σ H
  | .bk, env, cs => ∀ σ H S mu, Rel g F σ H S mu env cs → E.bk σ H
  | .ct, env, cs => ∀ σ H S mu, Rel g F σ H S mu env cs → E.ct σ H
  | .rt d fr, env, cs => ∀ v σ H S mu, Rel g F σ H S mu env cs → Res g F σ env H S mu v d fr → E.rt v H
def PoS (g : Glob) (F : Ent) (W : WX) (E : Ends) (m : M Fl) (env : Env) (cs : Cells) : Prop := Post (m env cs) (KS g F E) (ExS g F W)
def rdS (g : Glob) (F : Ent) (W : WX) (m : M Fl) : TS := fun E σ H => ∃ S mu env cs, Rel g F σ H S mu env cs ∧ PoS g F W E m env cs
theorem PoS.bind {α : Type} {g F W E env cs} {m : M α} {f : α → M Fl} : PoS g F W E (m.bind f) env cs = Post (m env cs) (fun a e c => PoS g F W E (f a) e c) (ExS g F W) := Post.bind
/-- an expression's run at a statement's start -/
theorem rdS.ex {α β : Type} {g F W E σ H} {T : SS → Env → Hp → Hp → List Addr → β → α → Prop} {m : M α} {f : α → M Fl} {Q : β → Hp → Prop} (h : rdS g F W (m.bind f) E σ H)
    (i : ∀ a env cs v H S mu, Rel g F σ H S mu env cs → T σ env H S mu v a → PoS g F W E (f a) env cs → Q v H) : rd g F W T m σ H Q := by
  obtain ⟨S, mu, env, cs, r, q⟩ := h
  rw [PoS.bind] at q
  exact ⟨S, mu, env, cs, r, Post.mono q (fun a e c p v H' S' mu' gr rl t => i a e c v H' S' mu' rl t p) fun k fs e c z => z σ⟩
section
variable {g : Glob} {F : Ent} {W : WX} {X : Cx} {e : Expr} {st : Stmt} {rest : List Stmt} {pos : Pos}
def mSeq (m m' : M Fl) : M Fl := m.bind fun fl => match fl with
  | .nx => m'
  | fl => M.pure fl
theorem sSNil : PSs X [] (rdS g F W (M.pure .nx)) := PSs.imp pss_nil fun E σ H ⟨S, mu, env, cs, r, q⟩ => q σ H S mu r
theorem sSCons {m m' : M Fl} (h : PS X st (rdS g F W m)) (h' : PSs X rest (rdS g F W m')) : PSs X (st :: rest) (rdS g F W (mSeq m m')) := PSs.imp (pss_cons h h') fun E σ H ⟨S, mu, env, cs, r, q⟩ => by
  unfold mSeq at q
  rw [PoS.bind] at q
  refine ⟨S, mu, env, cs, r, q.on fun fl e c p => ?_⟩
  cases fl with
  | nx => exact fun σ' H' S' mu' r' => ⟨S', mu', e, c, r', p⟩
  | bk => exact p
  | ct => exact p
  | rt d fr => exact p
theorem sPass : PS X (.Pass pos) (rdS g F W (M.pure .nx)) := PS.imp ps_pass fun E σ H ⟨S, mu, env, cs, r, q⟩ => q σ H S mu r
theorem sBreak : PS X (.Break pos) (rdS g F W (M.pure .bk)) := PS.imp ps_break fun E σ H ⟨S, mu, env, cs, r, q⟩ => q σ H S mu r
theorem sCont : PS X (.Continue pos) (rdS g F W (M.pure .ct)) := PS.imp ps_continue fun E σ H ⟨S, mu, env, cs, r, q⟩ => q σ H S mu r
theorem sDoc {x j p2} : PS X (.Expr (.Constant (.str x) j p2) pos) (rdS g F W (M.pure .nx)) := PS.imp ps_doc fun E σ H ⟨S, mu, env, cs, r, q⟩ => q σ H S mu r
def mDrop (m : M (D × Bool)) : M Fl := m.bind fun _ => M.pure .nx
def noComp : Expr → Bool
  | .ListComp _ _ _ _ => false
  | .SetComp _ _ _ _ => false
  | .DictComp _ _ _ _ _ => false
  | _ => true
theorem noComp_sw (h : noComp e = true) {t : Option Expr} {l : Nat} {env : PySem.Env} : swapsWith e t l env = pure false := by
  cases e <;> first | rfl | (simp [noComp] at h; done)
theorem sExpr {m : M (D × Bool)} (he : PE X e (rdE g F W m)) (hn : noComp e = true) : PS X (.Expr e pos) (rdS g F W (mDrop m)) := PS.imp (ps_expr he (noComp_sw hn)) fun E σ H q =>
  rdS.ex q fun a env cs v H' S mu r t p => p σ H' S mu r
def mRet (m : M (D × Bool)) : M Fl := m.bind fun r => M.pure (.rt r.1 r.2)
theorem sRet {m : M (D × Bool)} (he : PE X e (rdE g F W m)) : PS X (.Return (some e) pos) (rdS g F W (mRet m)) := PS.imp (ps_ret he) fun E σ H q =>
  rdS.ex q fun a env cs v H' S mu r t p => p v σ H' S mu r t
theorem sRetN : PS X (.Return none pos) (rdS g F W (M.pure (.rt .non false))) := PS.imp ps_retN fun E σ H ⟨S, mu, env, cs, r, q⟩ => q .non σ H S mu r .non
theorem sIf {c : Expr} {a b : List Stmt} {mt : M Bool} {ma mb : M Fl} (hc : PT X c (rdT g F W mt)) (ha : PSs X a (rdS g F W ma)) (hb : PSs X b (rdS g F W mb)) : PS X (.If c a b pos) (rdS g F W (mIf mt ma mb)) :=
  PS.imp (ps_if hc ha hb) fun E σ H q => rdS.ex q fun k env cs v H' S mu r t p => by
    subst t
    cases v with
    | true => rw [if_pos rfl]; exact ⟨S, mu, env, cs, r, p⟩
    | false => rw [if_neg (by decide)]; exact ⟨S, mu, env, cs, r, p⟩

/-! ### names stored -/
@[simp] def slotOf (r : D × Bool) : Slot := if r.2 then .ow r.1 else .fz r.1
def mPut (i : Nat) (r : D × Bool) : M Unit := fun env cs => if i < env.length then .ok () (env.set i (slotOf r)) cs else .stuck
theorem Rel.put {σ : SS} {H S : Hp} {mu : List Addr} {env : Env} {cs : Cells} (r : Rel g F σ H S mu env cs) {i : Nat} {v : V} {x : D × Bool} (hi : i < env.length) (t : Res g F σ env H S mu v x.1 x.2) : Rel g F (σ.set i (some v)) H S mu (env.set i (slotOf x)) cs := by
  obtain ⟨d, fr⟩ := x
  have hσ : i < σ.length := by rw [← r.len]; exact hi
  have hin : ∀ (j : Nat) (s : Slot), (env.set i (slotOf (d, fr)))[j]? = some s → (j = i ∧ s = slotOf (d, fr)) ∨ (j ≠ i ∧ env[j]? = some s ∧ (σ.set i (some v))[j]? = σ[j]?) := fun j s e => by
    by_cases hj : j = i
    · subst hj
      rw [List.getElem?_set_self hi] at e
      exact .inl ⟨rfl, (Option.some.inj e).symm⟩
    · rw [List.getElem?_set_ne (Ne.symm hj)] at e
      exact .inr ⟨hj, e, List.getElem?_set_ne (Ne.symm hj)⟩
  refine ⟨r.hs, r.fi, by rw [List.length_set, List.length_set]; exact r.len, fun j d' e => ?_, fun j d' e => ?_, fun j k d' d'' a e1 e2 h1 h2 => ?_⟩
  · rcases hin j _ e with ⟨hj, q⟩ | ⟨hj, q, e'⟩
    · subst hj
      cases fr with
      | false =>
        cases q
        exact ⟨v, List.getElem?_set_self hσ, t⟩
      | true => cases q
    · rw [e']
      exact r.fz j d' q
  · rcases hin j _ e with ⟨hj, q⟩ | ⟨hj, q, e'⟩
    · subst hj
      cases fr with
      | false => cases q
      | true =>
        cases q
        obtain ⟨a, rfl, h1, h2, h3, h4, _⟩ := t
        exact ⟨a, List.getElem?_set_self hσ, h1, h2, h3, h4⟩
    · rw [e']
      exact r.ow j d' q
  · have key : ∀ (j : Nat) d', env[j]? = some (.ow d') → slotOf (d, fr) = .ow d'' ∨ slotOf (d, fr) = .ow d' ∨ True → σ[j]? = some (some (.ref a)) → (σ.set i (some v))[i]? = some (some (.ref a)) → fr = true → False := fun j d' q _ q1 q2 hf => by
      subst hf
      obtain ⟨b, rfl, _, _, _, _, h5⟩ := t
      rw [List.getElem?_set_self hσ] at q2
      cases q2
      exact h5 j d' q q1
    have frt : ∀ d', Slot.ow d' = slotOf (d, fr) → fr = true := fun d' q => by
      cases fr with
      | false => cases q
      | true => rfl
    rcases hin j _ e1 with ⟨hj, q1⟩ | ⟨hj, q1, q1'⟩
    · rcases hin k _ e2 with ⟨hk, q2⟩ | ⟨hk, q2, q2'⟩
      · rw [hj, hk]
      · rw [q2'] at h2
        rw [hj] at h1
        exact (key k d'' q2 (.inr (.inr trivial)) h2 h1 (frt _ q1)).elim
    · rw [q1'] at h1
      rcases hin k _ e2 with ⟨hk, q2⟩ | ⟨hk, q2, q2'⟩
      · rw [hk] at h2
        exact (key j d' q1 (.inr (.inr trivial)) h1 h2 (frt _ q2)).elim
      · rw [q2'] at h2
        exact r.sep j k d' d'' a q1 q2 h1 h2
theorem Rel.putZ {σ : SS} {H S : Hp} {mu : List Addr} {env : Env} {cs : Cells} (r : Rel g F σ H S mu env cs) {i : Nat} {v : V} {d : D} (hi : i < env.length) (t : Rp g S mu v d) : Rel g F (σ.set i (some v)) H S mu (env.set i (.fz d)) cs := Rel.put (x := (d, false)) r hi t
def mSet (i : Nat) (m : M (D × Bool)) : M Fl := m.bind fun r => (mPut i r).bind fun _ => M.pure .nx
theorem PoS.put {E : Ends} {i : Nat} {x : D × Bool} {f : M Fl} {env : Env} {cs : Cells} (p : PoS g F W E ((mPut i x).bind fun _ => f) env cs) : i < env.length ∧ PoS g F W E f (env.set i (slotOf x)) cs := by
  rw [PoS.bind] at p
  unfold mPut at p
  by_cases hi : i < env.length
  · rw [if_pos hi] at p
    exact ⟨hi, p⟩
  · rw [if_neg hi] at p
    exact p.elim
theorem iSet {i : Nat} {m : M (D × Bool)} {E : Ends} {σ : SS} {H : Hp} (q : rdS g F W (mSet i m) E σ H) : tAsg (rdE g F W m) (gName i) E σ H :=
  rdS.ex q fun a env cs v H' S mu r t p => by
    obtain ⟨hi, p⟩ := p.put
    exact p _ H' S mu (r.put hi t)
theorem sSet {i : Nat} {x : Str} {p2 : Pos} {m : M (D × Bool)} (hN : X.N.Nodup) (hi : X.N[i]? = some x) (hx : Loc X.env.scope x) (hf : X.fn x = true ∨ X.env.scope.names.lookup x = some .local) (he : PE X e (rdE g F W m)) (hn : noComp e = true) :
    PS X (.Assign [.Name x p2] e pos) (rdS g F W (mSet i m)) := PS.imp (ps_set hN hi hx he (noComp_sw hn) hf) fun E σ H q => iSet q
end

/-! ### targets -/
/-- only the slots vs were stored to -/
structure Only (vs : List Nat) (σ σ' : SS) : Prop where
  len : σ'.length = σ.length
  at_ : ∀ j, j ∉ vs → σ'[j]? = σ[j]?
theorem Only.refl {vs σ} : Only vs σ σ := ⟨rfl, fun _ _ => rfl⟩
theorem Only.trans {vs σ σ1 σ2} (a : Only vs σ σ1) (b : Only vs σ1 σ2) : Only vs σ σ2 := ⟨b.len.trans a.len, fun j h => (b.at_ j h).trans (a.at_ j h)⟩
theorem Only.set {vs σ} {i : Nat} {x : Option V} (h : i ∈ vs) : Only vs σ (σ.set i x) := ⟨List.length_set, fun j hj => List.getElem?_set_ne (by rintro rfl; exact hj h)⟩
theorem wipe_at {σ : SS} : ∀ {vs : List Nat} {j : Nat}, (wipe σ vs)[j]? = if j ∈ vs ∧ j < σ.length then some none else σ[j]?
  | [], j => by simp [wipe]
  | v :: vs, j => by
    unfold wipe
    by_cases hj : v = j
    · subst hj
      by_cases hl : v < σ.length
      · rw [List.getElem?_set_self (by rw [wipe_length]; exact hl), if_pos ⟨List.mem_cons_self, hl⟩]
      · rw [if_neg (fun h => hl h.2), List.getElem?_eq_none (by rw [List.length_set, wipe_length]; omega), List.getElem?_eq_none (by omega)]
    · rw [List.getElem?_set_ne hj, wipe_at]
      have : (j ∈ v :: vs ∧ j < σ.length) ↔ (j ∈ vs ∧ j < σ.length) := by
        simp only [List.mem_cons]
        constructor
        · rintro ⟨h | h, h2⟩
          · exact absurd h.symm hj
          · exact ⟨h, h2⟩
        · rintro ⟨h, h2⟩
          exact ⟨.inr h, h2⟩
      simp only [this]
theorem Only.wipe {vs σ σ'} (h : Only vs σ σ') : wipe σ' vs = wipe σ vs := by
  apply List.ext_getElem?
  intro j
  rw [wipe_at, wipe_at, h.len]
  by_cases hj : j ∈ vs ∧ j < σ.length
  · rw [if_pos hj, if_pos hj]
  · rw [if_neg hj, if_neg hj]
    by_cases hv : j ∈ vs
    · have hl : ¬ j < σ.length := fun z => hj ⟨hv, z⟩
      rw [List.getElem?_eq_none (by rw [h.len]; omega), List.getElem?_eq_none (by omega)]
    · exact h.at_ j hv
/-- a target: a name's slot, or a tuple of such -/
inductive Tg where
  | name (i : Nat)
  | tup (ts : List Tg)
mutual
def mTg : Tg → D → M Unit
  | .name i, d => mPut i (d, false)
  | .tup ts, d => match d with
    | .tup ds => mTgs ts ds
    | _ => M.stuck
def mTgs : List Tg → List D → M Unit
  | [], ds => match ds with
    | [] => M.pure ()
    | _ :: _ => M.stuck
  | t :: ts, ds => match ds with
    | [] => M.stuck
    | d :: ds => (mTg t d).bind fun _ => mTgs ts ds
end
section
variable {g : Glob} {F : Ent} {W : WX} {X : Cx} {e : Expr} {es : List Expr} {pos : Pos}
def rdG (g : Glob) (F : Ent) (W : WX) (vs : List Nat) (m : D → M Unit) : TG := fun v σ H Q => ∃ S mu env cs d, Rel g F σ H S mu env cs ∧ Rp g S mu v d ∧
  Post (m d env cs) (fun _ env' cs' => ∀ σ' , Only vs σ σ' → Rel g F σ' H S mu env' cs' → Q σ' H) (fun _ _ _ _ => False)
def rdGs (g : Glob) (F : Ent) (W : WX) (vs : List Nat) (m : List D → M Unit) : TGs := fun v σ H Q => ∃ S mu env cs d, Rel g F σ H S mu env cs ∧ RpL g S mu v d ∧
  Post (m d env cs) (fun _ env' cs' => ∀ σ' , Only vs σ σ' → Rel g F σ' H S mu env' cs' → Q σ' H) (fun _ _ _ _ => False)
theorem PG.imp {t t' : TG} (h : PG X e t) (i : ∀ v σ H Q, t' v σ H Q → t v σ H Q) : PG X e t' := ⟨fun pins s σ H v u Q I r q => h.run pins s σ H v u Q I r (i v σ H Q q)⟩
theorem PGs.imp {t t' : TGs} (h : PGs X es t) (i : ∀ v σ H Q, t' v σ H Q → t v σ H Q) : PGs X es t' := ⟨fun pins s σ H v u Q I r q => h.run pins s σ H v u Q I r (i v σ H Q q)⟩
theorem post_put {i : Nat} {x : D × Bool} {env : Env} {cs : Cells} {K : Unit → Env → Cells → Prop} {KX} (p : Post (mPut i x env cs) K KX) : i < env.length ∧ K () (env.set i (slotOf x)) cs := by
  unfold mPut at p
  by_cases hi : i < env.length
  · rw [if_pos hi] at p
    exact ⟨hi, p⟩
  · rw [if_neg hi] at p
    exact p.elim
theorem sTgN {i : Nat} {x : Str} {vs : List Nat} (hv : i ∈ vs) (hN : X.N.Nodup) (hi : X.N[i]? = some x) (hx : Loc X.env.scope x) (hf : X.fn x = true ∨ X.env.scope.names.lookup x = some .local) : PG X (.Name x pos) (rdG g F W vs (mTg (.name i))) :=
  PG.imp (pg_name hN hi hx hf) fun v σ H Q ⟨S, mu, env, cs, d, r, t, p⟩ => by
    obtain ⟨hl, p⟩ := post_put p
    exact p _ (Only.set hv) (r.putZ hl t)
theorem sTgsNil {vs : List Nat} : PGs X [] (rdGs g F W vs (mTgs [])) := PGs.imp pgs_nil fun v σ H Q ⟨S, mu, env, cs, d, r, t, p⟩ => by
  cases t with
  | nil => exact ⟨rfl, p σ .refl r⟩
  | cons h1 h2 => exact p.elim
theorem assignEach_cons (h : ∀ x p, e ≠ .Starred x p) : (assignEach (e :: es) X.env).map (·.2) = assign e X.env :: (assignEach es X.env).map (·.2) := by
  cases e <;> first | rfl | exact absurd rfl (h _ _)
theorem sTgsCons {tg : Tg} {ts : List Tg} {vs : List Nat} (h0 : PG X e (rdG g F W vs (mTg tg))) (hs : ∀ x p, e ≠ .Starred x p) (h : PGs X es (rdGs g F W vs (mTgs ts))) :
    PGs X (e :: es) (rdGs g F W vs (mTgs (tg :: ts))) := PGs.imp (pgs_cons h0 h (assignEach_cons hs)) fun v σ H Q ⟨S, mu, env, cs, d, r, t, p⟩ => by
  cases t with
  | nil => exact p.elim
  | cons h1 h2 =>
    have p : Post ((mTg tg _).bind (fun _ => mTgs ts _) env cs) _ _ := p
    rw [Post.bind] at p
    refine ⟨_, _, rfl, S, mu, env, cs, _, r, h1, ?_⟩
    exact p.on fun _ e' c' k σ' on r' => ⟨S, mu, e', c', _, r', h2, k.on fun _ e2 c2 k2 σ2 on2 r2 => k2 σ2 (on.trans on2) r2⟩
theorem mTgs_len : ∀ (ts : List Tg) (ds : List D) (env : Env) (cs : Cells) {K : Unit → Env → Cells → Prop}, Post (mTgs ts ds env cs) K (fun _ _ _ _ => False) → ds.length = ts.length
  | [], [], _, _, _, _ => rfl
  | [], _ :: _, _, _, _, p => p.elim
  | _ :: _, [], _, _, _, p => p.elim
  | t :: ts, d :: ds, env, cs, K, p => by
    have p : Post ((mTg t d).bind (fun _ => mTgs ts ds) env cs) K (fun _ _ _ _ => False) := p
    rw [Post.bind] at p
    have q : ds.length = ts.length := by
      cases e : mTg t d env cs with
      | stuck => rw [e] at p; exact p.elim
      | ok a env' cs' => rw [e] at p; exact mTgs_len ts ds env' cs' p
      | exc k fs env' cs' => rw [e] at p; exact p.elim
    rw [List.length_cons, List.length_cons, q]
theorem sTgT {k : Nat} {ts : List Tg} {vs : List Nat} (hK : X.K = g.K) (hc : X.calm = true) (h : PGs X es (rdGs g F W vs (mTgs ts))) (hl : es.length = ts.length) (hn : (assignEach es X.env).length = es.length) (hst : (assignEach es X.env).findIdx? (·.1) = none) :
    PG X (.Tuple es k pos) (rdG g F W vs (mTg (.tup ts))) := PG.imp (pg_tup hc h (n := es.length) hn hst) fun v σ H Q ⟨S, mu, env, cs, d, r, t, p⟩ => by
  cases d <;> first | exact p.elim | skip
  rename_i ds
  have w : Vw g H S mu v (.tup ds) := .inl t
  obtain ⟨a, xs, rfl, h1, h2⟩ := w.tup r.hs
  refine ⟨a, xs, rfl, by rw [hK]; exact h1, ?_, S, mu, env, cs, ds, r, h2, p⟩
  rw [h2.length, hl]
  exact mTgs_len ts ds env cs p
end
end EL
namespace EL
open PySem PySem.Spec L2

/-! ### what is walked -/
/-- an iterator tells ds, one by one, while what is frozen stands and the locks hold -/
structure ItOk (g : Glob) (lk : List (Addr × Obj × HO)) (J : It) (S : Hp) (mu : List Addr) (ds : List D) : Prop where
  len : ds.length ≤ sizeLine
  go : ∀ S1 mu1 H (i : Nat), Mo S mu S1 mu1 → (∀ b u, S1 b = some u → Rd H b u) → (∀ p ∈ lk, H p.1 = some (.frz p.2.1 p.2.2)) → i < ds.length → J.go i H
  stop : ∀ S1 mu1 H (i : Nat), Mo S mu S1 mu1 → (∀ b u, S1 b = some u → Rd H b u) → (∀ p ∈ lk, H p.1 = some (.frz p.2.1 p.2.2)) → ds.length ≤ i → J.stop i H
  yld : ∀ S1 mu1 H (i : Nat) x H' d, Mo S mu S1 mu1 → (∀ b u, S1 b = some u → Rd H b u) → (∀ p ∈ lk, H p.1 = some (.frz p.2.1 p.2.2)) → ds[i]? = some d → J.yld i H x H' → ∃ S2, Up H S1 H' S2 ∧ Rp g S2 mu1 x d
abbrev Ent.lks (F : Ent) (lk : List (Addr × Obj × HO)) : Ent := ⟨F.H, F.S, F.mu, lk, F.rs⟩
theorem Rel.unlk {g : Glob} {F : Ent} {lk : List (Addr × Obj × HO)} {σ : SS} {H S : Hp} {mu : List Addr} {env : Env} {cs : Cells} (h : ∀ p ∈ F.lk, p ∈ lk) (r : Rel g (F.lks lk) σ H S mu env cs) : Rel g F σ H S mu env cs :=
  ⟨r.hs, ⟨r.fi.mo, r.fi.h, r.fi.n, r.fi.t, fun p hp => r.fi.l p (h p hp), r.fi.r⟩, r.len, r.fz, r.ow, r.sep⟩
def rdI (g : Glob) (F : Ent) (W : WX) (m : M (List D)) : TI := fun σ H R => ∃ S mu env cs, Rel g F σ H S mu env cs ∧
  Post (m env cs) (fun ds env' cs' => ∀ lk J H' S' mu', (∀ p ∈ F.lk, p ∈ lk) → Gr H S mu H' S' mu' → Rel g (F.lks lk) σ H' S' mu' env' cs' → ItOk g lk J S' mu' ds → R J H') (ExW g F W σ)
theorem PI.imp {X : Cx} {tg e : Expr} {t t' : TI} (h : PI X tg e t) (i : ∀ σ H Q, t' σ H Q → t σ H Q) : PI X tg e t' := ⟨fun pins s σ H Q I q => h.run pins s σ H Q I (i σ H Q q)⟩
/-- by values -/
def ItR (X : Cx) (tg : Expr) (p : V → Hp → (It → Hp → Prop) → Prop) : Prop :=
  ∀ (pins : List (Addr × Obj)) (s : Shared) (σ : SS) (H : Hp) (x : V) (v : Value) (R : It → Hp → Prop), L2.Inv X pins σ H s → RelV x v → p x H R → wpAny (model X.prog X.w) X.A (pyIter v) (PIE X pins σ tg R) X.xe s
theorem pi_of {X : Cx} {tg e : Expr} {te : TE} {p : V → Hp → (It → Hp → Prop) → Prop} (he : PE X e te) (h : ItR X tg p) : PI X tg e (fun σ H R => te σ H fun x H1 => p x H1 R) :=
  ⟨fun pins s σ H R I q => thn (he.run pins s σ H _ I q) fun v s1 ⟨x, H1, I1, r1, q1⟩ => h pins s1 σ H1 x v R I1 r1 q1⟩
theorem ItR.or {X : Cx} {tg : Expr} {p p'} (h : ItR X tg p) (h' : ItR X tg p') : ItR X tg (fun x H R => p x H R ∨ p' x H R) := fun pins s σ H x v R I r q => by
  rcases q with q | q
  · exact h pins s σ H x v R I r q
  · exact h' pins s σ H x v R I r q
section
variable {X : Cx} {tg : Expr}
def pLst (K : PySem.W.Frag) : V → Hp → (It → Hp → Prop) → Prop := fun x H R => ∃ a xs, x = .ref a ∧ SqL K H a xs ∧ (xs.length ≤ sizeLine → R (Itl K a) H)
def pTup (K : PySem.W.Frag) : V → Hp → (It → Hp → Prop) → Prop := fun x H R => ∃ a xs, x = .ref a ∧ SqT K H a xs ∧ (xs.length ≤ sizeLine → R (Itt K a) H)
theorem it_lst : ItR X tg (pLst X.K) := by
  intro pins s σ H x v R I r q
  obtain ⟨a, xs, e, hq, q⟩ := q
  subst e
  cases r
  obtain ⟨its, rv, p, hz⟩ := I.list hq
  refine wpAny_pyIter_list p.isList ⟨s.heap.objs.size, [s.heap.objs.size], _, _, H, rfl, I.kept (t' := s.toks) fun b o e => Heap.get?_push_of_some _ e, turn_list a _, ⟨_, Heap.get?_push_size _ rfl, rfl, rfl⟩, fun b hb => ?_, q hz⟩
  obtain rfl : b = s.heap.objs.size := by simpa using hb
  exact I.fpOk (Nat.le_refl _) (I.hok.fresh (Nat.le_refl _))
theorem it_tup : ItR X tg (pTup X.K) := by
  intro pins s σ H x v R I r q
  obtain ⟨a, xs, e, hq, q⟩ := q
  subst e
  cases r
  obtain ⟨its, rv, p, hz⟩ := I.tuple hq
  refine wpAny_pyIter_tuple (show s.heap.IsTuple a its.toArray from p) ⟨s.heap.objs.size, [s.heap.objs.size], _, _, H, rfl, I.kept (t' := s.toks) fun b o e => Heap.get?_push_of_some _ e, turn_tuple a _, ⟨_, Heap.get?_push_size _ rfl, rfl, rfl⟩, fun b hb => ?_, q hz⟩
  obtain rfl : b = s.heap.objs.size := by simpa using hb
  exact I.fpOk (Nat.le_refl _) (I.hok.fresh (Nat.le_refl _))
def pStr : V → Hp → (It → Hp → Prop) → Prop := fun v H R => ∃ x, v = .str x ∧ R (Its x) H
theorem it_str : ItR X tg pStr := by
  intro pins s σ H y v R I r1 q
  obtain ⟨x, ex, q⟩ := q
  subst ex
  obtain ⟨t, rfl⟩ := r1
  cases ha : x.cps.all (· < 128)
  · exact wpAny_pyIter_wide ha (pi_one (tk := s.toks) I _ (turn_str _ x t "str_iterator" (.inr rfl)) ⟨_, Heap.get?_push_size _ rfl, rfl, rfl⟩ q)
  · exact wpAny_pyIter_ascii ha (pi_one (tk := s.toks) I _ (turn_str _ x t "str_ascii_iterator" (.inl rfl)) ⟨_, Heap.get?_push_size _ rfl, rfl, rfl⟩ q)
def pSeq (K : PySem.W.Frag) : V → Hp → (It → Hp → Prop) → Prop := fun x H R => pLst K x H R ∨ pTup K x H R ∨ pStr x H R
theorem it_seq : ItR X tg (pSeq X.K) := it_lst.or (it_tup.or it_str)
end
section
variable {g : Glob} {F : Ent} {W : WX} {X : Cx} {tg e : Expr}
theorem itok_lst {lk} {S : Hp} {mu} {a : Addr} {vs ds} (h1 : S a = some (.lst vs) ∨ KL g.K a vs) (h2 : RpL g S mu vs ds) (hz : vs.length ≤ sizeLine) : ItOk g lk (Itl g.K a) S mu ds := by
  have sq : ∀ S1 mu1 H, Mo S mu S1 mu1 → (∀ b u, S1 b = some u → Rd H b u) → SqL g.K H a vs := fun S1 mu1 H m h => by
    rcases h1 with h1 | h1
    · exact .inl (h _ _ (m.s _ _ h1))
    · exact .inr h1
  refine ⟨by rw [← h2.length]; exact hz, fun S1 mu1 H i m h _ hi => ?_, fun S1 mu1 H i m h _ hi => ⟨vs, sq S1 mu1 H m h, by rw [h2.length]; exact hi⟩, fun S1 mu1 H i x H' d m h _ hd y => ?_⟩
  · obtain ⟨v, hv, _⟩ := h2.get (d := ds[i]) (List.getElem?_eq_getElem hi)
    exact ⟨vs, v, sq S1 mu1 H m h, hv⟩
  · obtain ⟨e, y⟩ := y
    subst e
    obtain ⟨v, hv, rv⟩ := h2.get hd
    have := y vs (sq S1 mu1 H' m h)
    rw [hv] at this
    cases this
    exact ⟨S1, .refl, rv.mono m⟩
theorem itok_tup {lk} {S : Hp} {mu} {a : Addr} {vs ds} (h1 : S a = some (.tup vs) ∨ KT g.K a vs) (h2 : RpL g S mu vs ds) (hz : vs.length ≤ sizeLine) : ItOk g lk (Itt g.K a) S mu ds := by
  have sq : ∀ S1 mu1 H, Mo S mu S1 mu1 → (∀ b u, S1 b = some u → Rd H b u) → SqT g.K H a vs := fun S1 mu1 H m h => by
    rcases h1 with h1 | h1
    · exact .inl (h _ _ (m.s _ _ h1))
    · exact .inr h1
  refine ⟨by rw [← h2.length]; exact hz, fun S1 mu1 H i m h _ hi => ?_, fun S1 mu1 H i m h _ hi => ⟨vs, sq S1 mu1 H m h, by rw [h2.length]; exact hi⟩, fun S1 mu1 H i x H' d m h _ hd y => ?_⟩
  · obtain ⟨v, hv, _⟩ := h2.get (d := ds[i]) (List.getElem?_eq_getElem hi)
    exact ⟨vs, v, sq S1 mu1 H m h, hv⟩
  · obtain ⟨e, y⟩ := y
    subst e
    obtain ⟨v, hv, rv⟩ := h2.get hd
    have := y vs (sq S1 mu1 H' m h)
    rw [hv] at this
    cases this
    exact ⟨S1, .refl, rv.mono m⟩
/-- a text's signs -/
def signs (x : Str) : List D := x.cps.toList.map fun c => .str ⟨#[c]⟩
theorem itok_str {lk} {S : Hp} {mu} {x : Str} (hz : x.length ≤ sizeLine) : ItOk g lk (Its x) S mu (signs x) := by
  have hl : (signs x).length = x.cps.size := by simp [signs]
  refine ⟨by rw [hl]; exact hz, fun S1 mu1 H i m h _ hi => by rw [hl] at hi; exact hi, fun S1 mu1 H i m h _ hi => by rw [hl] at hi; exact hi, fun S1 mu1 H i v H' d m h _ hd y => ?_⟩
  obtain ⟨e, c, hc, ev⟩ := y
  subst e ev
  have : d = .str ⟨#[c]⟩ := by
    unfold signs at hd
    rw [List.getElem?_map, Array.getElem?_toList, hc] at hd
    exact (Option.some.inj hd).symm
  subst this
  exact ⟨S1, .refl, .str _⟩
/-- the items of data that is walked -/
def itemsD : D → Option (List D)
  | .lst ds => some ds
  | .tup ds => some ds
  | .str x => if x.length ≤ sizeLine then some (signs x) else none
  | _ => none
def mItems (m : M D) : M (List D) := m.bind fun d => M.opt (itemsD d)
theorem sISeq {m : M D} (hK : X.K = g.K) (he : PE X e (rdZ g F W m)) : PI X tg e (rdI g F W (mItems m)) :=
  PI.imp (pi_of he it_seq) fun σ H R ⟨S, mu, env, cs, r, q⟩ => by
    unfold mItems at q
    rw [Post.bind] at q
    refine ⟨S, mu, env, cs, r, q.on fun d env' cs' p v H' S' mu' gr r' t => ?_⟩
    cases hd : itemsD d with
    | none => rw [hd] at p; exact p.elim
    | some ds =>
      rw [hd] at p
      have p : ∀ J H2 S2 mu2, Gr H S mu H2 S2 mu2 → Rel g F σ H2 S2 mu2 env' cs' → ItOk g F.lk J S2 mu2 ds → R J H2 := fun J H2 S2 mu2 => p F.lk J H2 S2 mu2 fun _ h => h
      cases d <;> first | (simp [itemsD] at hd; done) | skip
      · simp only [itemsD] at hd
        split at hd
        · rename_i hz
          cases hd
          cases t
          exact .inr (.inr ⟨_, rfl, p _ H' S' mu' gr r' (itok_str hz)⟩)
        · cases hd
      · cases hd
        obtain ⟨a, vs, ev, h1, h2⟩ := Vw.lst r'.hs (.inl t)
        subst ev
        cases t with
        | lst h3 h4 =>
          have e : _ = vs.length := h4.length.trans h2.length.symm
          exact .inl ⟨a, vs, rfl, by rw [hK]; exact h1, fun hz => by rw [hK]; exact p _ H' S' mu' gr r' (itok_lst h3 h4 (e ▸ hz))⟩
      · cases hd
        obtain ⟨a, vs, ev, h1, h2⟩ := Vw.tup r'.hs (.inl t)
        subst ev
        cases t with
        | tup h3 h4 =>
          have e : _ = vs.length := h4.length.trans h2.length.symm
          exact .inr (.inl ⟨a, vs, rfl, by rw [hK]; exact h1, fun hz => by rw [hK]; exact p _ H' S' mu' gr r' (itok_tup h3 h4 (e ▸ hz))⟩)

/-- a later start -/
abbrev Ent.at_ (F : Ent) (S : Hp) (mu : List Addr) : Ent := ⟨F.H, S, mu, F.lk, F.rs⟩
theorem Rel.to {σ : SS} {H H1 S S1 : Hp} {mu mu1 : List Addr} {env : Env} {cs : Cells} (f : FI F H1 S1 mu1) (m : Mo S1 mu1 S mu) (r : Rel g F σ H S mu env cs) : Rel g (F.at_ S1 mu1) σ H S mu env cs := by
  have hin : ∀ b, b ∈ F.mu → b ∈ mu1 := fun b hb => by
    obtain ⟨i, hi⟩ := List.mem_iff_getElem?.mp hb
    exact List.mem_iff_getElem?.mpr ⟨i, f.mo.m i b hi⟩
  exact ⟨r.hs, ⟨m, fun b o h hm => r.fi.h b o h fun z => hm (hin b z), fun b hb => (r.fi.n b hb).imp (hin b) id, fun b u e => (r.fi.t b u e).imp (f.mo.s b u) id, r.fi.l, r.fi.r⟩, r.len, r.fz, r.ow, r.sep⟩
theorem Rel.back {σ : SS} {H H1 S S1 : Hp} {mu mu1 : List Addr} {env : Env} {cs : Cells} (f : FI F H1 S1 mu1) (r : Rel g (F.at_ S1 mu1) σ H S mu env cs) : Rel g F σ H S mu env cs := by
  refine ⟨r.hs, ⟨f.mo.trans r.fi.mo, fun b o h hm => r.fi.h b o h fun z => ?_, fun b hb => ?_, fun b u e => ?_, r.fi.l, r.fi.r⟩, r.len, r.fz, r.ow, r.sep⟩
  · rcases f.n b z with q | q
    · exact hm q
    · rw [h] at q; cases q
  · rcases r.fi.n b hb with z | z
    · exact f.n b z
    · exact .inr z
  · rcases r.fi.t b u e with z | z
    · exact f.t b u z
    · exact .inr z
theorem Res.to {σ : SS} {env : Env} {H S S1 : Hp} {mu mu1 : List Addr} {v : V} {d : D} {b : Bool} : Res g (F.at_ S1 mu1) σ env H S mu v d b = Res g F σ env H S mu v d b := by cases b <;> rfl
theorem ExS.to {k fs env cs} {H1 S1 : Hp} {mu1 : List Addr} (f : FI F H1 S1 mu1) (h : ExS g F W k fs env cs) : ExS g (F.at_ S1 mu1) W k fs env cs := fun σ dx H S mu r x hn => h σ dx H S mu (r.back f) x hn
/-! ### for -/
def forM (body : D → M Fl) : List D → M Fl
  | [] => M.pure .nx
  | d :: ds => (body d).bind fun fl => match fl with
    | .nx => forM body ds
    | .ct => forM body ds
    | .bk => M.pure .nx
    | .rt x fr => M.pure (.rt x fr)
def mFor (mi : M (List D)) (tg : Tg) (mb : M Fl) : M Fl := mi.bind fun ds => forM (fun d => (mTg tg d).bind fun _ => mb) ds
theorem Post.exF {α : Type} {m : R α} {K : α → Env → Cells → Prop} {KX : Nat → List (Str × D) → Env → Cells → Prop} (h : Post m K KX) (hn : ∀ k fs e c, m ≠ .exc k fs e c) : Post m K (fun _ _ _ _ => False) := by
  cases m with
  | ok => exact h
  | exc k fs e c => exact (hn k fs e c rfl).elim
  | stuck => exact h
mutual
theorem mTg_noexc : ∀ (t : Tg) (d : D) (env : Env) (cs : Cells) k fs e c, mTg t d env cs ≠ .exc k fs e c
  | .name i, d, env, cs, k, fs, e, c => by
    show (if i < env.length then _ else _) ≠ _
    split <;> (intro h; cases h)
  | .tup ts, d, env, cs, k, fs, e, c => by
    cases d <;> first | (intro h; cases h; done) | skip
    exact mTgs_noexc ts _ env cs k fs e c
theorem mTgs_noexc : ∀ (ts : List Tg) (ds : List D) (env : Env) (cs : Cells) k fs e c, mTgs ts ds env cs ≠ .exc k fs e c
  | [], [], _, _, _, _, _, _ => by intro h; cases h
  | [], _ :: _, _, _, _, _, _, _ => by intro h; cases h
  | _ :: _, [], _, _, _, _, _, _ => by intro h; cases h
  | t :: ts, d :: ds, env, cs, k, fs, e, c => by
    show (mTg t d).bind (fun _ => mTgs ts ds) env cs ≠ _
    unfold M.bind
    cases h : mTg t d env cs with
    | ok a e' c' => exact mTgs_noexc ts ds e' c' k fs e c
    | exc k' fs' e' c' => exact absurd h (mTg_noexc t d env cs k' fs' e' c')
    | stuck => intro h; cases h
end
theorem KS.lks {F : Ent} {lk : List (Addr × Obj × HO)} {E : Ends} {fl : Fl} {env : Env} {cs : Cells} (h : ∀ p ∈ F.lk, p ∈ lk) (k : KS g F E fl env cs) : KS g (F.lks lk) E fl env cs := by
  cases fl with
  | nx => exact fun σ H S mu r => k σ H S mu (r.unlk h)
  | bk => exact fun σ H S mu r => k σ H S mu (r.unlk h)
  | ct => exact fun σ H S mu r => k σ H S mu (r.unlk h)
  | rt d fr => exact fun v σ H S mu r t => k v σ H S mu (r.unlk h) (by cases fr <;> exact t)
theorem PoS.lks {F : Ent} {W : WX} {lk : List (Addr × Obj × HO)} {E : Ends} {m : M Fl} {env : Env} {cs : Cells} (h : ∀ p ∈ F.lk, p ∈ lk) (p : PoS g F W E m env cs) : PoS g (F.lks lk) W E m env cs :=
  Post.mono p (fun _ _ _ k => KS.lks h k) fun k fs e c z σ dx H S mu r x hn => z σ dx H S mu (r.unlk h) x hn
theorem sFor {tge iter : Expr} {body : List Stmt} {pos : Pos} {mi : M (List D)} {tg : Tg} {mb : M Fl} {vs : List Nat} (hp : PassesOwn (model X.prog X.w) X.A X.env X.xe) (hc : X.calm = true) (hi : PI X tge iter (rdI g F W mi)) (hg : ∀ F, PG X tge (rdG g F W vs (mTg tg)))
    (hb : ∀ F, PSs X body (rdS g F W mb)) (hs : ∀ x, foldedSetIterable iter X.env x = pure x) : PS X (.For tge iter body [] pos) (rdS g F W (mFor mi tg mb)) :=
  ⟨fun pins s σ H E I ⟨S, mu, env, cs, r, q⟩ => by
    unfold mFor at q
    rw [PoS.bind] at q
    refine (ps_for (tb := fun E' σ' H' => ∃ F', rdS g F' W mb E' σ' H') (g := fun v σ' H' Q => ∃ F', rdG g F' W vs (mTg tg) v σ' H' Q) hp hc hi ⟨fun pins s σ H v u Q I r ⟨F', q⟩ => (hg F').run pins s σ H v u Q I r q⟩ ⟨fun pins s σ H E I ⟨F', q⟩ => (hb F').run pins s σ H E I q⟩ hs).run pins s σ H E I ?_
    refine ⟨S, mu, env, cs, r, Post.mono q (fun ds env1 cs1 p lk J H1 S1 mu1 hsub gr r1 it => ?_) (fun k fs e c z => z σ)⟩
    have p : PoS g (F.lks lk) W E (forM (fun d => (mTg tg d).bind fun _ => mb) ds) env1 cs1 := PoS.lks hsub p
    obtain ⟨F1, hF1⟩ : ∃ F1, F1 = F.lks lk := ⟨_, rfl⟩
    have hlk : F1.lk = lk := by rw [hF1]
    rw [← hF1] at p r1
    rw [← hlk] at it
    clear hlk hF1 hsub r q gr
    refine ⟨fun i m σ' H' => m = ds.length - i ∧ i ≤ ds.length ∧ ∃ S' mu' env' cs', Mo S1 mu1 S' mu' ∧ Rel g F1 σ' H' S' mu' env' cs' ∧ PoS g F1 W E (forM (fun d => (mTg tg d).bind fun _ => mb) (ds.drop i)) env' cs',
      ⟨ds.length, by omega, Nat.zero_le _, S1, mu1, env1, cs1, .refl, r1, by rw [List.drop_zero]; exact p⟩, ?_⟩
    rintro i m σ' H' ⟨rfl, hi, S', mu', env', cs', mo, r', p'⟩
    by_cases hlt : i < ds.length
    · refine .inr ⟨it.go S' mu' H' i mo r'.hs.sub r'.fi.l hlt, fun σ2 H2 => i + 1 ≤ ds.length ∧ ∃ S2 mu2 env2 cs2, Mo S1 mu1 S2 mu2 ∧ Rel g F1 σ2 H2 S2 mu2 env2 cs2 ∧ PoS g F1 W E (forM (fun d => (mTg tg d).bind fun _ => mb) (ds.drop (i + 1))) env2 cs2,
        fun σ2 H2 h => ⟨ds.length - (i + 1), by omega, rfl, h⟩, fun x H2 y => ?_⟩
      have hd : ds.drop i = ds[i] :: ds.drop (i + 1) := by rw [List.drop_eq_getElem_cons hlt]
      rw [hd] at p'
      have p' : PoS g F1 W E (((mTg tg ds[i]).bind fun _ => mb).bind _) env' cs' := p'
      obtain ⟨S2, up, rx⟩ := it.yld S' mu' H' i x H2 ds[i] mo r'.hs.sub r'.fi.l (List.getElem?_eq_getElem hlt) y
      rw [PoS.bind, Post.bind] at p'
      have r2 := up.rel r'
      have f2 := r2.fi
      refine ⟨F1, S2, mu', env', cs', ds[i], r2, rx, Post.on (Post.exF p' fun k fs e c => mTg_noexc tg ds[i] env' cs' k fs e c) fun _ env3 cs3 p3 σ3 on3 r3 => ⟨F1.at_ S2 mu', S2, mu', env3, cs3, r3.to f2 .refl, ?_⟩⟩
      refine Post.mono p3 (fun fl e c k => ?_) fun k fs e c h => h.to f2
      have again : PoS g F1 W E (forM (fun d => (mTg tg d).bind fun _ => mb) (ds.drop (i + 1))) e c → ∀ σ4 H4 S4 mu4, Rel g (F1.at_ S2 mu') σ4 H4 S4 mu4 e c →
          i + 1 ≤ ds.length ∧ ∃ S2 mu2 env2 cs2, Mo S1 mu1 S2 mu2 ∧ Rel g F1 σ4 H4 S2 mu2 env2 cs2 ∧ PoS g F1 W E (forM (fun d => (mTg tg d).bind fun _ => mb) (ds.drop (i + 1))) env2 cs2 :=
        fun p4 σ4 H4 S4 mu4 r4 => ⟨hlt, S4, mu4, e, c, (mo.trans up.mo).trans r4.fi.mo, r4.back f2, p4⟩
      cases fl with
      | nx => exact again k
      | ct => exact again k
      | bk => exact fun σ4 H4 S4 mu4 r4 => k σ4 H4 S4 mu4 (r4.back f2)
      | rt d fr => exact fun v σ4 H4 S4 mu4 r4 t => k v σ4 H4 S4 mu4 (r4.back f2) (by rw [← Res.to (F := F1)]; exact t)
    · have e : i = ds.length := by omega
      subst e
      refine .inl ⟨it.stop S' mu' H' _ mo r'.hs.sub r'.fi.l (Nat.le_refl _), ?_⟩
      rw [List.drop_length] at p'
      exact p' σ' H' S' mu' r'⟩

/-! ### while -/
def whM (mt : M Bool) (mb : M Fl) : Nat → M Fl
  | 0 => M.stuck
  | n + 1 => mt.bind fun b => if b then mb.bind fun fl => (match fl with
    | .nx => whM mt mb n
    | .ct => whM mt mb n
    | .bk => M.pure .nx
    | .rt x fr => M.pure (.rt x fr)) else M.pure .nx
theorem sWhile {c : Expr} {body : List Stmt} {pos : Pos} {mt : M Bool} {mb : M Fl} {n : Nat} (hp : PassesOwn (model X.prog X.w) X.A X.env X.xe) (hc : PT X c (rdT g F W mt)) (hb : PSs X body (rdS g F W mb)) :
    PS X (.While c body [] pos) (rdS g F W (whM mt mb n)) := PS.imp (ps_while hp hc hb) fun E σ H ⟨S, mu, env, cs, r, q⟩ => by
  refine ⟨fun m σ' H' => ∃ S' mu' env' cs', Rel g F σ' H' S' mu' env' cs' ∧ PoS g F W E (whM mt mb m) env' cs', ⟨n, S, mu, env, cs, r, q⟩, ?_⟩
  rintro m σ' H' ⟨S', mu', env', cs', r', p⟩
  cases m with
  | zero => exact p.elim
  | succ m =>
    unfold whM at p
    refine rdS.ex ⟨S', mu', env', cs', r', p⟩ fun b env2 cs2 v H2 S2 mu2 r2 t p2 => ?_
    subst t
    cases v with
    | false =>
      rw [if_neg (by decide)]
      rw [if_neg (by decide)] at p2
      exact p2 σ' H2 S2 mu2 r2
    | true =>
      rw [if_pos rfl]
      rw [if_pos rfl] at p2
      refine ⟨fun σ3 H3 => ∃ S' mu' env' cs', Rel g F σ3 H3 S' mu' env' cs' ∧ PoS g F W E (whM mt mb m) env' cs', fun σ3 H3 h => ⟨m, Nat.lt_succ_self m, h⟩, S2, mu2, env2, cs2, r2, ?_⟩
      rw [PoS.bind] at p2
      refine Post.on p2 fun fl e c k => ?_
      cases fl with
      | nx => exact fun σ4 H4 S4 mu4 r4 => ⟨S4, mu4, e, c, r4, k⟩
      | ct => exact fun σ4 H4 S4 mu4 r4 => ⟨S4, mu4, e, c, r4, k⟩
      | bk => exact k
      | rt d fr => exact k

/-! ### an address set apart -/
abbrev Ent.res (F : Ent) (D : Addr) : Ent := ⟨F.H, F.S, F.mu, F.lk, D :: F.rs⟩
theorem Rel.res {σ : SS} {H S : Hp} {mu : List Addr} {env : Env} {cs : Cells} {D : Addr} (r : Rel g F σ H S mu env cs) (h1 : S D = none) (h2 : D ∉ mu) (h3 : F.H D = none) (h4 : ∃ o, H D = some o) (h5 : ∀ (i : Nat) d, env[i]? = some (.ow d) → σ[i]? ≠ some (some (.ref D))) :
    Rel g (F.res D) σ H S mu env cs := by
  refine ⟨r.hs, ⟨r.fi.mo, r.fi.h, r.fi.n, r.fi.t, r.fi.l, fun a ha => ?_⟩, r.len, r.fz, fun i d e => ?_, r.sep⟩
  · rcases List.mem_cons.mp ha with rfl | ha
    · exact ⟨h1, h2, h3, h4⟩
    · exact r.fi.r a ha
  · obtain ⟨a, k1, k2, k3, ⟨k4, k5⟩, k6⟩ := r.ow i d e
    refine ⟨a, k1, k2, k3, ⟨k4, fun z => ?_⟩, k6⟩
    rcases List.mem_cons.mp z with z | z
    · exact h5 i d e (z ▸ k1)
    · exact k5 z
theorem Rel.unres {σ : SS} {H S : Hp} {mu : List Addr} {env : Env} {cs : Cells} {D : Addr} (r : Rel g (F.res D) σ H S mu env cs) : Rel g F σ H S mu env cs :=
  ⟨r.hs, ⟨r.fi.mo, r.fi.h, r.fi.n, r.fi.t, r.fi.l, fun a ha => r.fi.r a (List.mem_cons_of_mem _ ha)⟩, r.len, r.fz, fun i d e => by
    obtain ⟨a, k1, k2, k3, ⟨k4, k5⟩, k6⟩ := r.ow i d e
    exact ⟨a, k1, k2, k3, ⟨k4, fun z => k5 (List.mem_cons_of_mem _ z)⟩, k6⟩, r.sep⟩
/-- it may change -/
theorem Rel.upd {σ : SS} {H S : Hp} {mu : List Addr} {env : Env} {cs : Cells} {D : Addr} {o : HO} (r : Rel g F σ H S mu env cs) (hD : D ∈ F.rs) (hn : ∀ ob u, H D ≠ some (.frz ob u)) : Rel g F σ (L2.upd H D o) S mu env cs := by
  obtain ⟨h1, h2, h3, h4⟩ := r.fi.r D hD
  refine ⟨⟨fun b u e => ?_, r.hs.len, r.hs.nd, fun i b c e1 e2 => ?_, fun b f e sf => by rw [upd_ne (ne_of_none e h1)]; exact r.hs.ext b f e sf⟩, ⟨r.fi.mo, fun b x e hm => ?_, r.fi.n, r.fi.t, fun p hp => ?_, fun a ha => ?_⟩, r.len, r.fz, fun i d e => ?_, r.sep⟩
  · have hb : b ≠ D := ne_of_none e h1
    exact rdKeep (r.hs.sub b u e) fun x hx => by rw [upd_ne hb]; exact hx
  · obtain ⟨k1, k2⟩ := r.hs.cell i b c e1 e2
    have hb : b ≠ D := fun h => h2 (h ▸ List.mem_iff_getElem?.mpr ⟨i, e1⟩)
    exact ⟨k1, k2.keep .refl fun x hx => by rw [upd_ne hb]; exact hx⟩
  · exact (r.fi.h b x e hm).trans (fun o' h' => by
      by_cases hb : b = D
      · subst hb; rw [h3] at e; cases e
      · exact .inl (by rw [upd_ne hb]; exact h')) fun _ h => h
  · have hb : p.1 ≠ D := fun h => hn _ _ (h ▸ r.fi.l p hp)
    rw [upd_ne hb]
    exact r.fi.l p hp
  · obtain ⟨k1, k2, k3, x, k4⟩ := r.fi.r a ha
    refine ⟨k1, k2, k3, ?_⟩
    by_cases hb : a = D
    · subst hb; exact ⟨_, upd_same⟩
    · exact ⟨x, by rw [upd_ne hb]; exact k4⟩
  · obtain ⟨a, k1, k2, k3, ⟨k4, k5⟩, k6⟩ := r.ow i d e
    have hb : a ≠ D := fun h => k5 (h ▸ hD)
    exact ⟨a, k1, k2, k3, ⟨k4, k5⟩, k6.keep .refl fun x hx => by rw [upd_ne hb]; exact hx⟩

/-! ### a block's own names -/
@[simp] def wipeE (env : Env) : List Nat → Env
  | [] => env
  | v :: vs => (wipeE env vs).set v .no
@[simp] def fzOf : Option Slot → Slot
  | some (.fz d) => .fz d
  | _ => .no
/-- the slots vs as they were in env0 -/
@[simp] def restE (env0 env : Env) : List Nat → Env
  | [] => env
  | v :: vs => (restE env0 env vs).set v (fzOf env0[v]?)
theorem wipeE_len {env : Env} : ∀ {vs : List Nat}, (wipeE env vs).length = env.length
  | [] => rfl
  | v :: vs => by unfold wipeE; rw [List.length_set, wipeE_len]
theorem restE_len {env0 env : Env} : ∀ {vs : List Nat}, (restE env0 env vs).length = env.length
  | [] => rfl
  | v :: vs => by unfold restE; rw [List.length_set, restE_len]
theorem wipeE_at {env : Env} {s : Slot} : ∀ {vs : List Nat} {j : Nat}, (wipeE env vs)[j]? = some s → s = .no ∨ (j ∉ vs ∧ env[j]? = some s)
  | [], j, e => .inr ⟨by simp, e⟩
  | v :: vs, j, e => by
    unfold wipeE at e
    by_cases hj : v = j
    · subst hj
      by_cases hl : v < (wipeE env vs).length
      · rw [List.getElem?_set_self hl] at e
        exact .inl (Option.some.inj e).symm
      · rw [List.getElem?_eq_none (by rw [List.length_set]; omega)] at e; cases e
    · rw [List.getElem?_set_ne hj] at e
      rcases wipeE_at e with z | ⟨z1, z2⟩
      · exact .inl z
      · exact .inr ⟨by simp only [List.mem_cons, not_or]; exact ⟨fun h => hj h.symm, z1⟩, z2⟩
theorem restE_at {env0 env : Env} {s : Slot} : ∀ {vs : List Nat} {j : Nat}, (restE env0 env vs)[j]? = some s → (j ∈ vs ∧ s = fzOf env0[j]?) ∨ (j ∉ vs ∧ env[j]? = some s)
  | [], j, e => .inr ⟨by simp, e⟩
  | v :: vs, j, e => by
    unfold restE at e
    by_cases hj : v = j
    · subst hj
      by_cases hl : v < (restE env0 env vs).length
      · rw [List.getElem?_set_self hl] at e
        exact .inl ⟨List.mem_cons_self, (Option.some.inj e).symm⟩
      · rw [List.getElem?_eq_none (by rw [List.length_set]; omega)] at e; cases e
    · rw [List.getElem?_set_ne hj] at e
      rcases restE_at e with ⟨z1, z2⟩ | ⟨z1, z2⟩
      · exact .inl ⟨List.mem_cons_of_mem _ z1, z2⟩
      · exact .inr ⟨by simp only [List.mem_cons, not_or]; exact ⟨fun h => hj h.symm, z1⟩, z2⟩
theorem Rel.wipe {σ : SS} {H S : Hp} {mu : List Addr} {env : Env} {cs : Cells} {vs : List Nat} (r : Rel g F σ H S mu env cs) : Rel g F (wipe σ vs) H S mu (wipeE env vs) cs := by
  have at_ : ∀ (j : Nat), j ∉ vs → (L2.wipe σ vs)[j]? = σ[j]? := fun j hj => by
    rw [wipe_at, if_neg fun h => hj h.1]
  refine ⟨r.hs, r.fi, by rw [wipeE_len, wipe_length]; exact r.len, fun i d e => ?_, fun i d e => ?_, fun i j d d' a e1 e2 h1 h2 => ?_⟩
  · rcases wipeE_at e with z | ⟨z1, z2⟩
    · cases z
    · rw [at_ i z1]; exact r.fz i d z2
  · rcases wipeE_at e with z | ⟨z1, z2⟩
    · cases z
    · rw [at_ i z1]; exact r.ow i d z2
  · rcases wipeE_at e1 with z | ⟨z1, z2⟩
    · cases z
    · rcases wipeE_at e2 with y | ⟨y1, y2⟩
      · cases y
      · rw [at_ i z1] at h1
        rw [at_ j y1] at h2
        exact r.sep i j d d' a z2 y2 h1 h2
/-- out of the block -/
theorem Rel.rest {σ : SS} {H H0 S S0 : Hp} {mu mu0 : List Addr} {env env0 : Env} {cs cs0 : Cells} {vs : List Nat} (r0 : Rel g F σ H0 S0 mu0 env0 cs0) (m : Mo S0 mu0 S mu) (r : Rel g F (L2.wipe σ vs) H S mu env cs) : Rel g F σ H S mu (restE env0 env vs) cs := by
  have at_ : ∀ (j : Nat), j ∉ vs → (L2.wipe σ vs)[j]? = σ[j]? := fun j hj => by
    rw [wipe_at, if_neg fun h => hj h.1]
  have noow : ∀ (o : Option Slot) d, Slot.ow d ≠ fzOf o := fun o d h => by
    cases o with
    | none => cases h
    | some s => cases s <;> cases h
  refine ⟨r.hs, r.fi, by rw [restE_len, r.len, wipe_length], fun i d e => ?_, fun i d e => ?_, fun i j d d' a e1 e2 h1 h2 => ?_⟩
  · rcases restE_at e with ⟨z1, z2⟩ | ⟨z1, z2⟩
    · cases q : env0[i]? with
      | none => rw [q] at z2; cases z2
      | some s =>
        rw [q] at z2
        cases s with
        | no => cases z2
        | ow d' => cases z2
        | fz d' =>
          cases z2
          obtain ⟨v, k1, k2⟩ := r0.fz i d q
          exact ⟨v, k1, k2.mono m⟩
    · obtain ⟨v, k1, k2⟩ := r.fz i d z2
      rw [at_ i z1] at k1
      exact ⟨v, k1, k2⟩
  · rcases restE_at e with ⟨z1, z2⟩ | ⟨z1, z2⟩
    · exact (noow _ _ z2).elim
    · obtain ⟨v, k1, k2⟩ := r.ow i d z2
      rw [at_ i z1] at k1
      exact ⟨v, k1, k2⟩
  · rcases restE_at e1 with ⟨z1, z2⟩ | ⟨z1, z2⟩
    · exact (noow _ _ z2).elim
    · rcases restE_at e2 with ⟨y1, y2⟩ | ⟨y1, y2⟩
      · exact (noow _ _ y2).elim
      · rw [← at_ i z1] at h1
        rw [← at_ j y1] at h2
        exact r.sep i j d d' a z2 y2 h1 h2
end
end EL
namespace EL
open PySem PySem.Spec L2

/-! ### list comprehensions -/
def compM (turn : D → M (Option D)) : List D → M (List D)
  | [] => M.pure []
  | d :: ds => (turn d).bind fun o => (compM turn ds).bind fun xs => M.pure (o.toList ++ xs)
/-- the block's own names forgotten; nothing is raised out of it -/
def mWipe {α : Type} (vs : List Nat) (m : M α) : M α := fun env cs => match m env cs with
  | .ok a e c => .ok a (wipeE e vs) c
  | _ => .stuck
def turnM (vs : List Nat) (tg : Tg) (mt : M Bool) (me : M D) (d : D) : M (Option D) :=
  mWipe vs ((mTg tg d).bind fun _ => mt.bind fun b => if b then me.bind fun x => M.pure (some x) else M.pure none)
/-- in a block: its own names are its own -/
def mBlk {α : Type} (vs : List Nat) (m : M α) : M α := fun env cs => match m (wipeE env vs) cs with
  | .ok a e c => .ok a (restE env e vs) c
  | _ => .stuck
def mComp (mi : M (List D)) (vs : List Nat) (tg : Tg) (mt : M Bool) (me : M D) : M (D × Bool) :=
  mi.bind fun ds => (mBlk vs (compM (turnM vs tg mt me) ds)).bind fun xs => M.pure (.lst xs, true)
abbrev WF : WX := fun _ _ _ _ => False
abbrev KF : Nat → List (Str × D) → Env → Cells → Prop := fun _ _ _ _ => False
theorem post_wipe {α : Type} {vs : List Nat} {m : M α} {env : Env} {cs : Cells} {K : α → Env → Cells → Prop} {KX} (h : Post (mWipe vs m env cs) K KX) : Post (m env cs) (fun a e c => K a (wipeE e vs) c) KF := by
  unfold mWipe at h
  cases e : m env cs with
  | ok a e' c' => rw [e] at h; exact h
  | exc k fs e' c' => rw [e] at h; exact h.elim
  | stuck => rw [e] at h; exact h
theorem post_blk {α : Type} {vs : List Nat} {m : M α} {env : Env} {cs : Cells} {K : α → Env → Cells → Prop} {KX} (h : Post (mBlk vs m env cs) K KX) : Post (m (wipeE env vs) cs) (fun a e c => K a (restE env e vs) c) KF := by
  unfold mBlk at h
  cases e : m (wipeE env vs) cs with
  | ok a e' c' => rw [e] at h; exact h
  | exc k fs e' c' => rw [e] at h; exact h.elim
  | stuck => rw [e] at h; exact h
theorem Post.false {α : Type} {m : R α} {K : α → Env → Cells → Prop} (h : Post m K KF) (KX) : Post m K KX := h.mono (fun _ _ _ z => z) fun _ _ _ _ z => z.elim
section
variable {g : Glob} {F : Ent} {W : WX} {X : Cx}
theorem wipe_wipe {σ : SS} {vs : List Nat} : wipe (wipe σ vs) vs = wipe σ vs := by
  apply List.ext_getElem?
  intro j
  rw [wipe_at, wipe_at, wipe_length]
  by_cases h : j ∈ vs ∧ j < σ.length
  · rw [if_pos h, if_pos h]
  · rw [if_neg h, if_neg h]
theorem Gr.upd {H S mu H' S' mu'} {p : Addr} {o : HO} (gr : Gr H S mu H' S' mu') (hp : H p = none) : Gr H S mu (L2.upd H' p o) S' mu' := ⟨gr.mo, fun b x e hm => by
  have hb : b ≠ p := ne_of_none e hp
  exact (gr.h b x e hm).trans (fun o' h' => .inl (by rw [upd_ne hb]; exact h')) fun _ h => h, gr.n⟩
/-- what a comprehension's run has to end with -/
abbrev CEnd (g : Glob) (F' : Ent) (σ : SS) (H1 S1 : Hp) (mu1 : List Addr) (D0 : Addr) (Q : VK) (zs : List D) (e : Env) (c : Cells) : Prop :=
  ∀ H2 S2 mu2, Gr H1 S1 mu1 H2 S2 mu2 → Rel g F' σ H2 S2 mu2 e c → (∃ accV, H2 D0 = some (.lst accV) ∧ RpL g S2 mu2 accV zs) → Q (.ref D0) H2
theorem sComp {elt tge iter : Expr} {ifs : List Expr} {scope : Scope} {own : List (Str × Nat)} {pos : Pos} {mi : M (List D)} {tg : Tg} {mt : M Bool} {me : M D}
    (hc : X.calm = true) (hN : X.N.Nodup) (hi : PI X tge iter (rdI g F W mi)) (ok : BlkOk X.N X.env.scope scope own)
    (hg : ∀ F (s : Shared) (H : Hp) (C : Addr) (cl : List (Str × Addr)) (fp : List Addr), PG (X.blk s H scope (compEnvC scope cl C X.env) fp) tge (rdG g F WF (own.map (·.2)) (mTg tg)))
    (ht : ∀ F (s : Shared) (H : Hp) (C : Addr) (cl : List (Str × Addr)) (fp : List Addr), PTs (X.blk s H scope (compEnvC scope cl C X.env) fp) ifs (rdT g F WF mt))
    (he : ∀ F (s : Shared) (H : Hp) (C : Addr) (cl : List (Str × Addr)) (fp : List Addr), PE (X.blk s H scope (compEnvC scope cl C X.env) fp) elt (rdZ g F WF me)) (hs : ∀ x, foldedSetIterable iter X.env x = pure x) :
    (∀ σ H Q, rdE g F W (mComp mi (own.map (·.2)) tg mt me) σ H Q → tLc (rdI g F W mi) (fun v σ H Q => ∃ F', rdG g F' WF (own.map (·.2)) (mTg tg) v σ H Q) (fun σ H Q => ∃ F', rdT g F' WF mt σ H Q) (fun σ H Q => ∃ F', rdZ g F' WF me σ H Q) (own.map (·.2)) σ H Q) := by
  intro σ H Q ⟨S, mu, env, cs, r, q⟩
  generalize hv : own.map (·.2) = vs at *
  have turnLen : True := trivial
  unfold mComp at q
  rw [Post.bind] at q
  refine ⟨S, mu, env, cs, r, q.on fun ds env1 cs1 p lk J H1 S1 mu1 hsub gr r1' it D0 hD => ?_⟩
  have r1 := r1'.unlk hsub
  rw [Post.bind] at p
  have p := post_blk p
  obtain ⟨F', hF'⟩ : ∃ F' : Ent, F' = ((F.lks lk).at_ S1 mu1).res D0 := ⟨_, rfl⟩
  have hlk : F'.lk = lk := by rw [hF']
  have hrs : D0 ∈ F'.rs := by rw [hF']; exact List.mem_cons_self
  have f1 := r1'.fi
  -- the end
  have fin : ∀ zs e c, (KOf g F σ H S mu (TRes g F σ) Q (.lst zs, true) (restE env1 e vs) c) → CEnd g F' (wipe σ vs) H1 S1 mu1 D0 Q zs e c := fun zs e c k H2 S2 mu2 gr2 r2 ⟨accV, h1, h2⟩ => by
    rw [hF'] at r2
    obtain ⟨a1, a2, a3, a4⟩ := r2.fi.r D0 List.mem_cons_self
    have r3 : Rel g (F.lks lk) (wipe σ vs) H2 S2 mu2 e c := r2.unres.back f1
    have r4 := (Rel.rest (vs := vs) r1' gr2.mo r3).unlk hsub
    refine k _ H2 S2 mu2 (gr.trans gr2) r4 ⟨D0, rfl, a1, a2, ⟨a3, fun z => ?_⟩, ⟨accV, h1, h2⟩, fun i d' e1 e2 => ?_⟩
    · obtain ⟨_, _, _, o, ho⟩ := r1.fi.r D0 z
      rw [ho] at hD; cases hD
    · rcases restE_at e1 with ⟨z1, z2⟩ | ⟨z1, z2⟩
      · cases q2 : env1[i]? with
        | none => rw [q2] at z2; cases z2
        | some s => rw [q2] at z2; cases s <;> cases z2
      · obtain ⟨a, k1, k2, k3, ⟨k4, k5⟩, k6⟩ := r2.ow i d' z2
        rw [wipe_at, if_neg fun h => z1 h.1, e2] at k1
        cases k1
        exact k5 List.mem_cons_self
  have p0 : Post (compM (turnM vs tg mt me) ds (wipeE env1 vs) cs1) (fun zs e c => CEnd g F' (wipe σ vs) H1 S1 mu1 D0 Q zs e c) KF := p.on fun zs e c k => fin zs e c k
  clear p fin
  have rw0 : Rel g F' (wipe σ vs) (L2.upd H1 D0 (.lst [])) S1 mu1 (wipeE env1 vs) cs1 := by
    have u : Up H1 S1 (L2.upd H1 D0 (.lst [])) S1 := Up.new hD (r1.hs.sNone hD)
    have r2 := (u.rel r1').to (F := F.lks lk) (H1 := H1) f1 .refl
    rw [hF']
    refine Rel.res r2.wipe (r1.hs.sNone hD) (r1.hs.notMu hD) (f1.fresh r1.hs hD) ⟨_, upd_same⟩ fun i d e1 e2 => ?_
    obtain ⟨a, k1, _, _, _, k6⟩ := (r1.wipe (vs := vs)).ow i d e1
    rw [e2] at k1
    cases k1
    obtain ⟨o, ho⟩ := k6.has
    rw [ho] at hD; cases hD
  refine ⟨fun i m H' => m = ds.length - i ∧ i ≤ ds.length ∧ ∃ S' mu' env' cs' acc, acc.length ≤ i ∧ Gr H1 S1 mu1 H' S' mu' ∧ Rel g F' (wipe σ vs) H' S' mu' env' cs' ∧ (∃ accV, H' D0 = some (.lst accV) ∧ RpL g S' mu' accV acc) ∧
      Post (compM (turnM vs tg mt me) (ds.drop i) env' cs') (fun xs e c => CEnd g F' (wipe σ vs) H1 S1 mu1 D0 Q (acc ++ xs) e c) KF,
    ⟨ds.length, by omega, Nat.zero_le _, S1, mu1, _, cs1, [], Nat.le_refl _, Gr.refl.upd hD, rw0, ⟨[], upd_same, .nil⟩, by rw [List.drop_zero]; exact p0.on fun xs e c k => by rw [List.nil_append]; exact k⟩, ?_⟩
  rintro i m H' ⟨rfl, hi', S', mu', env', cs', acc, hacc, gr', r', ⟨accV, ha1, ha2⟩, p'⟩
  by_cases hlt : i < ds.length
  · refine .inr ⟨it.go S' mu' H' i gr'.mo r'.hs.sub (hlk ▸ r'.fi.l) hlt, fun H2 => i + 1 ≤ ds.length ∧ ∃ S' mu' env' cs' acc, acc.length ≤ i + 1 ∧ Gr H1 S1 mu1 H2 S' mu' ∧ Rel g F' (wipe σ vs) H2 S' mu' env' cs' ∧ (∃ accV, H2 D0 = some (.lst accV) ∧ RpL g S' mu' accV acc) ∧
        Post (compM (turnM vs tg mt me) (ds.drop (i + 1)) env' cs') (fun xs e c => CEnd g F' (wipe σ vs) H1 S1 mu1 D0 Q (acc ++ xs) e c) KF,
      fun H2 h => ⟨ds.length - (i + 1), by omega, rfl, h⟩, fun x H2 y => ?_⟩
    have hd : ds.drop i = ds[i] :: ds.drop (i + 1) := by rw [List.drop_eq_getElem_cons hlt]
    rw [hd] at p'
    have p' : Post ((turnM vs tg mt me ds[i]).bind (fun o => (compM (turnM vs tg mt me) (ds.drop (i + 1))).bind fun xs => M.pure (o.toList ++ xs)) env' cs') _ KF := p'
    rw [Post.bind] at p'
    have p' := post_wipe p'
    rw [Post.bind] at p'
    obtain ⟨S2, up, rx⟩ := it.yld S' mu' H' i x H2 ds[i] gr'.mo r'.hs.sub (hlk ▸ r'.fi.l) (List.getElem?_eq_getElem hlt) y
    refine ⟨F', S2, mu', env', cs', ds[i], up.rel r', rx, p'.on fun _ env3 cs3 p3 σ3 on3 r3 => ⟨on3.wipe.trans wipe_wipe, F', S2, mu', env3, cs3, r3, ?_⟩⟩
    have gr2 : Gr H1 S1 mu1 H2 S2 mu' := gr'.trans up.gr
    have ha1' : H2 D0 = some (.lst accV) := up.h _ _ ha1
    have ha2' := ha2.mono up.mo
    rw [Post.bind] at p3
    refine (Post.false p3 _).on fun b env4 cs4 p4 v H4 S4 mu4 gr4 r4 t => ?_
    obtain rfl : v = b := t
    have ha4 : H4 D0 = some (.lst accV) := (gr4.h _ _ ha1' (r3.fi.r D0 hrs).2.1).own (r4.fi.r D0 hrs).1
    have toW : ∀ {H S mu e c}, Rel g F' σ3 H S mu e c → Rel g F' (wipe σ vs) H S mu (wipeE e vs) c := fun r => by
      have := r.wipe (vs := vs)
      rw [on3.wipe, wipe_wipe] at this
      exact this
    cases v with
    | false =>
      rw [if_neg (by decide)]
      rw [if_neg (by decide)] at p4
      refine ⟨hlt, S4, mu4, _, cs4, acc, by omega, gr2.trans gr4, toW r4, ⟨accV, ha4, ha2'.mono gr4.mo⟩, ?_⟩
      have p4 : Post ((compM (turnM vs tg mt me) (ds.drop (i + 1))).bind (fun xs => M.pure ((none : Option D).toList ++ xs)) (wipeE env4 vs) cs4) _ KF := p4
      rw [Post.bind] at p4
      exact p4.on fun xs e c k => k
    | true =>
      rw [if_pos rfl]
      rw [if_pos rfl] at p4
      rw [Post.bind] at p4
      refine ⟨F', S4, mu4, env4, cs4, r4, (Post.false p4 _).on fun z env5 cs5 p5 w H5 S5 mu5 gr5 r5 rz => ?_⟩
      have ha5 : H5 D0 = some (.lst accV) := (gr5.h _ _ ha4 (r4.fi.r D0 hrs).2.1).own (r5.fi.r D0 hrs).1
      have hl5 := ha2'.length
      have hz := it.len
      refine ⟨accV, ha5, by omega, hlt, S5, mu5, wipeE env5 vs, cs5, acc ++ [z], by rw [List.length_append]; simp; omega, ?_, ?_, ⟨accV ++ [w], upd_same, ((ha2'.mono gr4.mo).mono gr5.mo).append (.cons rz .nil)⟩, ?_⟩
      · exact ((gr2.trans gr4).trans gr5).upd hD
      · exact (toW r5).upd hrs fun ob u e => by rw [ha5] at e; cases e
      · have p5 : Post ((compM (turnM vs tg mt me) (ds.drop (i + 1))).bind (fun xs => M.pure ((some z).toList ++ xs)) (wipeE env5 vs) cs5) _ KF := p5
        rw [Post.bind] at p5
        exact p5.on fun xs e c k => by
          rw [List.append_assoc]
          exact k
  · have e : i = ds.length := by omega
    subst e
    refine .inl ⟨it.stop S' mu' H' _ gr'.mo r'.hs.sub (hlk ▸ r'.fi.l) (Nat.le_refl _), ?_⟩
    rw [List.drop_length] at p'
    have p' : CEnd g F' (wipe σ vs) H1 S1 mu1 D0 Q (acc ++ []) env' cs' := p'
    rw [List.append_nil] at p'
    exact p' H' S' mu' gr' r' ⟨accV, ha1, ha2⟩
end
end EL
namespace EL
open PySem PySem.Spec L2

section
variable {g : Glob} {F : Ent} {W : WX} {X : Cx}
theorem PTs.imp {es : List Expr} {t t' : TT} (h : PTs X es t) (i : ∀ σ H Q, t' σ H Q → t σ H Q) : PTs X es t' := ⟨fun pins s σ H Q I q => h.run pins s σ H Q I (i σ H Q q)⟩
theorem sTsNil : PTs X [] (rdT g F W (M.pure true)) := PTs.imp pts_nil fun σ H Q ⟨S, mu, env, cs, ra⟩ => ra.pure rfl
theorem sTsOne {c : Expr} {m : M Bool} (h : PT X c (rdT g F W m)) : PTs X [c] (rdT g F W m) := pts_one h
/-- a list comprehension -/
theorem sLC {elt tge iter : Expr} {ifs : List Expr} {scope : Scope} {own : List (Str × Nat)} {pos : Pos} {mi : M (List D)} {tg : Tg} {mt : M Bool} {me : M D}
    (hc : X.calm = true) (hN : X.N.Nodup) (hi : PI X tge iter (rdI g F W mi)) (ok : BlkOk X.N X.env.scope scope own)
    (hg : ∀ F (s : Shared) (H : Hp) (C : Addr) (cl : List (Str × Addr)) (fp : List Addr), PG (X.blk s H scope (compEnvC scope cl C X.env) fp) tge (rdG g F WF (own.map (·.2)) (mTg tg)))
    (ht : ∀ F (s : Shared) (H : Hp) (C : Addr) (cl : List (Str × Addr)) (fp : List Addr), PTs (X.blk s H scope (compEnvC scope cl C X.env) fp) ifs (rdT g F WF mt))
    (he : ∀ F (s : Shared) (H : Hp) (C : Addr) (cl : List (Str × Addr)) (fp : List Addr), PE (X.blk s H scope (compEnvC scope cl C X.env) fp) elt (rdZ g F WF me)) (hs : ∀ x, foldedSetIterable iter X.env x = pure x) :
    PE X (.ListComp elt [⟨tge, iter, ifs, 0⟩] scope pos) (rdE g F W (mComp mi (own.map (·.2)) tg mt me)) :=
  PE.imp (pe_lc (g := fun v σ H Q => ∃ F', rdG g F' WF (own.map (·.2)) (mTg tg) v σ H Q) (tt := fun σ H Q => ∃ F', rdT g F' WF mt σ H Q) (te := fun σ H Q => ∃ F', rdZ g F' WF me σ H Q) hc hN hi ok
    (fun s H C cl fp => ⟨fun pins s σ H v u Q I r ⟨F', q⟩ => (hg F' _ _ C cl fp).run pins s σ H v u Q I r q⟩) (fun s H C cl fp => ⟨fun pins s σ H Q I ⟨F', q⟩ => (ht F' _ _ C cl fp).run pins s σ H Q I q⟩)
    (fun s H C cl fp => ⟨fun pins s σ H Q I ⟨F', q⟩ => (he F' _ _ C cl fp).run pins s σ H Q I q⟩) hs) (sComp (pos := pos) hc hN hi ok hg ht he hs)
/-- .. given to a local name -/
theorem sSetLC {i : Nat} {y : Str} {py spos : Pos} {elt tge iter : Expr} {ifs : List Expr} {scope : Scope} {own : List (Str × Nat)} {pos : Pos} {mi : M (List D)} {tg : Tg} {mt : M Bool} {me : M D}
    (hc : X.calm = true) (hN : X.N.Nodup) (hy : X.N[i]? = some y) (hyl : X.env.scope.names.lookup y = some .local) (hsw : swapsWith (.ListComp elt [⟨tge, iter, ifs, 0⟩] scope pos) (some (.Name y py)) spos.line X.env = pure true) (hi : PI X tge iter (rdI g F W mi)) (ok : BlkOk X.N X.env.scope scope own)
    (hg : ∀ F (s : Shared) (H : Hp) (C : Addr) (cl : List (Str × Addr)) (fp : List Addr), PG (X.blk s H scope (compEnvC scope cl C X.env) fp) tge (rdG g F WF (own.map (·.2)) (mTg tg)))
    (ht : ∀ F (s : Shared) (H : Hp) (C : Addr) (cl : List (Str × Addr)) (fp : List Addr), PTs (X.blk s H scope (compEnvC scope cl C X.env) fp) ifs (rdT g F WF mt))
    (he : ∀ F (s : Shared) (H : Hp) (C : Addr) (cl : List (Str × Addr)) (fp : List Addr), PE (X.blk s H scope (compEnvC scope cl C X.env) fp) elt (rdZ g F WF me)) (hs : ∀ x, foldedSetIterable iter X.env x = pure x) :
    PS X (.Assign [.Name y py] (.ListComp elt [⟨tge, iter, ifs, 0⟩] scope pos) spos) (rdS g F W (mSet i (mComp mi (own.map (·.2)) tg mt me))) :=
  PS.imp (ps_setLc (g := fun v σ H Q => ∃ F', rdG g F' WF (own.map (·.2)) (mTg tg) v σ H Q) (tt := fun σ H Q => ∃ F', rdT g F' WF mt σ H Q) (te := fun σ H Q => ∃ F', rdZ g F' WF me σ H Q) hc hN hy hyl hsw hi ok
    (fun s H C cl fp => ⟨fun pins s σ H v u Q I r ⟨F', q⟩ => (hg F' _ _ C cl fp).run pins s σ H v u Q I r q⟩) (fun s H C cl fp => ⟨fun pins s σ H Q I ⟨F', q⟩ => (ht F' _ _ C cl fp).run pins s σ H Q I q⟩)
    (fun s H C cl fp => ⟨fun pins s σ H Q I ⟨F', q⟩ => (he F' _ _ C cl fp).run pins s σ H Q I q⟩) hs) fun E σ H q => by
      have q2 := iSet q
      exact sComp (pos := pos) hc hN hi ok hg ht he hs σ H _ q2
end

/-! ### calls -/
inductive RF where
  | ok (d : D) (fr : Bool) (c : Cells)
  | exc (k : Nat) (fs : List (Str × D)) (c : Cells)
  | stuck
abbrev Phi := List D → Cells → RF
@[simp] def startE (n : Nat) (ds : List D) : Env := ds.map .fz ++ List.replicate (n - ds.length) .no
/-- a def's body: n slots -/
@[simp] def runDef (n : Nat) (m : M Fl) : Phi := fun ds cs => match m (startE n ds) cs with
  | .ok (.rt d fr) _ c => .ok d fr c
  | .ok .nx _ c => .ok .non false c
  | .ok _ _ _ => .stuck
  | .exc k fs _ c => .exc k fs c
  | .stuck => .stuck
/-- a call's value -/
def ResF (g : Glob) (H0 H S : Hp) (mu : List Addr) (v : V) (d : D) : Bool → Prop
  | false => Rp g S mu v d
  | true => ∃ a, v = .ref a ∧ H0 a = none ∧ S a = none ∧ a ∉ mu ∧ At g H S mu a d
/-- what a call leaves -/
structure Aft (g : Glob) (H S : Hp) (mu : List Addr) (H' S' : Hp) (mu' : List Addr) (cs' : Cells) : Prop where
  gr : Gr H S mu H' S' mu'
  hs : HS g H' S' mu' cs'
  t : ∀ b u, S' b = some u → S b = some u ∨ H b = none
def PoF (g : Glob) (H S : Hp) (mu : List Addr) (Q : VK) (E : XK) : RF → Prop
  | .ok d fr cs' => ∀ v H' S' mu', Aft g H S mu H' S' mu' cs' → ResF g H H' S' mu' v d fr → Q v H'
  | .exc k fs cs' => ∀ dx H' S' mu', Aft g H S mu H' S' mu' cs' → XcOk g H' S' mu' dx fs → H dx = none → E (.ref (g.ca k)) (some dx) H'
  | .stuck => False
def spF (g : Glob) (n : Nat) (φ : Phi) : Sp := fun vs H Q E => vs.length = n ∧ ∃ S mu cs ds, HS g H S mu cs ∧ RpL g S mu vs ds ∧ PoF g H S mu Q E (φ ds cs)
section
variable {g : Glob} {F : Ent} {W : WX} {X : Cx}
theorem Rel.newX {σ : SS} {H S : Hp} {mu : List Addr} {env : Env} {cs : Cells} {dx : Addr} (r : Rel g F σ H S mu env cs) (h : H dx = none) : F.H dx = none ∧ dx ∉ F.rs := ⟨r.fi.fresh r.hs h, fun z => by
  obtain ⟨_, _, _, o, ho⟩ := r.fi.r _ z
  rw [ho] at h; cases h⟩
/-- behind a call -/
theorem Aft.rel {σ : SS} {H H' S S' : Hp} {mu mu' : List Addr} {env : Env} {cs cs' : Cells} (r : Rel g F σ H S mu env cs) (a : Aft g H S mu H' S' mu' cs') : Rel g F σ H' S' mu' env cs' := by
  have keep : ∀ b o, H b = some o → S b = none → b ∉ mu → S' b = none ∧ b ∉ mu' ∧ H' b = some o := fun b o h hs hm => by
    suffices hS : S' b = none by
      refine ⟨hS, fun z => ?_, (a.gr.h b o h hm).own hS⟩
      rcases a.gr.n b z with y | y
      · exact hm y
      · rw [h] at y; cases y
    · cases e : S' b with
      | none => rfl
      | some u =>
        rcases a.t b u e with z | z
        · rw [hs] at z; cases z
        · rw [h] at z; cases z
  have nofrz : ∀ b ob u, H b = some (.frz ob u) → b ∉ mu := fun b ob u h hm => by
    obtain ⟨i, hi⟩ := List.mem_iff_getElem?.mp hm
    obtain ⟨c, _, _, q⟩ := r.hs.cellAt hi
    cases c <;> first | exact q.elim | skip
    all_goals (first | (obtain ⟨_, e, _⟩ := q; rw [h] at e; cases e; done) | (obtain ⟨_, _, e, _⟩ := q; rw [h] at e; cases e; done) | (obtain ⟨_, _, _, e, _⟩ := q; rw [h] at e; cases e))
  refine ⟨a.hs, ⟨r.fi.mo.trans a.gr.mo, fun b o h hm => ?_, fun b hb => ?_, fun b u e => ?_, fun p hp => ?_, fun b hb => ?_⟩, r.len, fun i d e => ?_, fun i d e => ?_, r.sep⟩
  · refine (r.fi.h b o h hm).trans (fun o' h' => a.gr.h b o' h' fun z => ?_) (a.gr.mo.s b)
    rcases r.fi.n b z with y | y
    · exact hm y
    · rw [h] at y; cases y
  · rcases a.gr.n b hb with z | z
    · exact r.fi.n b z
    · exact .inr (r.fi.fresh r.hs z)
  · rcases a.t b u e with z | z
    · exact r.fi.t b u z
    · exact .inr (r.fi.fresh r.hs z)
  · exact (a.gr.h _ _ (r.fi.l p hp) (nofrz _ _ _ (r.fi.l p hp))).frz
  · obtain ⟨k1, k2, k3, o, k4⟩ := r.fi.r b hb
    obtain ⟨j1, j2, j3⟩ := keep b o k4 k1 k2
    exact ⟨j1, j2, k3, o, j3⟩
  · obtain ⟨v, k1, k2⟩ := r.fz i d e
    exact ⟨v, k1, k2.mono a.gr.mo⟩
  · obtain ⟨b, k1, k2, k3, k4, k5⟩ := r.ow i d e
    obtain ⟨o, ho⟩ := k5.has
    obtain ⟨j1, j2, j3⟩ := keep b o ho k2 k3
    exact ⟨b, k1, j1, j2, k4, k5.keep a.gr.mo fun x hx => (a.gr.h b x hx k3).own j1⟩
theorem ResF.res {σ : SS} {H H' S S' : Hp} {mu mu' : List Addr} {env : Env} {cs cs' : Cells} {v : V} {d : D} {fr : Bool} (r : Rel g F σ H S mu env cs) (x : ResF g H H' S' mu' v d fr) : Res g F σ env H' S' mu' v d fr := by
  cases fr with
  | false => exact x
  | true =>
    obtain ⟨a, e, h1, h2, h3, h4⟩ := x
    refine ⟨a, e, h2, h3, ⟨r.fi.fresh r.hs h1, fun z => ?_⟩, h4, fun i d' q z => ?_⟩
    · obtain ⟨_, _, _, o, ho⟩ := r.fi.r a z
      rw [ho] at h1; cases h1
    · obtain ⟨b, k1, _, _, _, k5⟩ := r.ow i d' q
      rw [k1] at z
      cases z
      obtain ⟨o, ho⟩ := k5.has
      rw [ho] at h1; cases h1
def mPhi (φ : Phi) (ds : List D) : M (D × Bool) := fun env cs => match φ ds cs with
  | .ok d fr c => .ok (d, fr) env c
  | .exc k fs c => .exc k fs env c
  | .stuck => .stuck
/-- the call's wish about exceptions -/
abbrev EOf (W : WX) (σ : SS) : XK := fun cls d H => W cls d σ H
theorem RA.call {φ : Phi} {ds : List D} {vs : List V} {σ : SS} {H S : Hp} {mu : List Addr} {env : Env} {cs : Cells} {Q : VK} {n : Nat}
    (h : RA g F W (TRes g F) (mPhi φ ds) σ H S mu env cs Q) (rl : RpL g S mu vs ds) (hn : vs.length = n) : spF g n φ vs H Q (EOf W σ) := by
  obtain ⟨r, q⟩ := h
  refine ⟨hn, S, mu, cs, ds, r.hs, rl, ?_⟩
  unfold mPhi at q
  cases e : φ ds cs with
  | stuck => simp only [e] at q; exact q
  | ok d fr c =>
    simp only [e] at q
    exact fun v H' S' mu' a x => q v H' S' mu' a.gr (a.rel r) (ResF.res (cs' := c) r x)
  | exc k fs c =>
    simp only [e] at q
    exact fun dx H' S' mu' a x hn => q dx H' S' mu' (a.rel r) x (r.newX hn)

/-! ### arguments put in order -/
inductive Src where
  | p (i : Nat)
  | k (i : Nat)
  | d (v : V) (x : D)
def arrV (sh : List Src) (vs zs : List V) : List V := sh.map fun
  | .p i => vs.getD i .non
  | .k i => zs.getD i .non
  | .d v _ => v
@[simp] def arrD (sh : List Src) (ds es : List D) : List D := sh.map fun
  | .p i => ds.getD i .non
  | .k i => es.getD i .non
  | .d _ x => x
theorem RpL.getD {S : Hp} {mu : List Addr} : ∀ {vs : List V} {ds : List D} (i : Nat), RpL g S mu vs ds → Rp g S mu (vs.getD i .non) (ds.getD i .non)
  | _, _, _, .nil => .non
  | _, _, 0, .cons h _ => h
  | _, _, i + 1, .cons _ r => RpL.getD i r
def DflOk (g : Glob) (sh : List Src) : Prop := ∀ v x, Src.d v x ∈ sh → ∀ S mu, Rp g S mu v x
theorem arr_rp {S : Hp} {mu : List Addr} {vs zs : List V} {ds es : List D} (h1 : RpL g S mu vs ds) (h2 : RpL g S mu zs es) : ∀ (sh : List Src), DflOk g sh → RpL g S mu (arrV sh vs zs) (arrD sh ds es)
  | [], _ => .nil
  | .p i :: sh, h => .cons (h1.getD i) (arr_rp h1 h2 sh fun v x m => h v x (List.mem_cons_of_mem _ m))
  | .k i :: sh, h => .cons (h2.getD i) (arr_rp h1 h2 sh fun v x m => h v x (List.mem_cons_of_mem _ m))
  | .d v x :: sh, h => .cons (h v x List.mem_cons_self S mu) (arr_rp h1 h2 sh fun v x m => h v x (List.mem_cons_of_mem _ m))
def mCall (φ : Phi) (sh : List Src) (mp mk : M (List D)) : M (D × Bool) := mp.bind fun ds => mk.bind fun es => mPhi φ (arrD sh ds es)
/-- what a callee lets out is welcome, by the slots as they stand -/
def PassAt (X : Cx) (σ : SS) (E : XK) : Prop := ∀ (pins : List (Addr × Obj)) (H : Hp) (s : Shared) (e : Value) (s' : Shared), L2.Inv X pins σ H s → L2.CX X.prog X.w X.stack H s E e s' → X.xe e s'
theorem pass_at {σ : SS} (tk : Takes X W) : PassAt X σ (EOf W σ) := fun _ _ _ e s' I c => tk e s' (XE.of_call I (fun _ _ _ h => h) c)
/-- a def's promise, where nothing that guards against recursion is under way -/
structure FnG (P : Program) (w : World) (K : PySem.W.Frag) (mg : Str → Option Value) (base : Heap) (C : CXT) (k : Nat) (f : Addr) (fd : FuncData) (ps : List Str) (sp : Sp) : Prop where
  len : ∀ vs H Q E, sp vs H Q E → vs.length = ps.length
  run : ∀ (A : Around) (outer : List PySem.Env) (s : Shared) (H : Hp) (ar : Args) (us : List Value) (vs : List V) (Q : VK) (E : XK), Room k A → A.guards = some [] → Env0 P w K mg base A outer s H → BindsTo s fd ar (ps.zip us) → Vals vs us → sp vs H Q E →
    codeAny (model P w) A (.call (.ref f) ar) (CR C outer P w H s Q E) s
theorem FnOk.toG {P : Program} {w : World} {K : PySem.W.Frag} {mg : Str → Option Value} {base : Heap} {C : CXT} {k : Nat} {f : Addr} {fd : FuncData} {ps : List Str} {sp : Sp} (G : FnOk P w K mg base C k f fd ps sp) : FnG P w K mg base C k f fd ps sp :=
  ⟨G.len, fun A o s H ar us vs Q E hr _ => G.run A o s H ar us vs Q E hr⟩
theorem FnG.mono {P : Program} {w : World} {K : PySem.W.Frag} {mg : Str → Option Value} {base : Heap} {C : CXT} {j k : Nat} {f : Addr} {fd : FuncData} {ps : List Str} {sp : Sp} (G : FnG P w K mg base C j f fd ps sp) (h : j ≤ k) : FnG P w K mg base C k f fd ps sp :=
  ⟨G.len, fun A o s H ar us vs Q E hr hg => G.run A o s H ar us vs Q E (hr.mono h) hg⟩
theorem run_at {k n : Nat} {f : Addr} {fd : FuncData} {ps ks : List Str} {sp : Sp} {E : XK} {gU : List Value → List Value → List Value} {gV : List V → List V → List V} {pins : List (Addr × Obj)} {σ : SS} {H : Hp} {s : Shared} {Q : VK} {us ws : List Value} {vs zs : List V}
    (G : FnG X.prog X.w X.K X.mg X.base (L2.CX X.prog X.w) k f fd ps sp) (hr : Room k X.A) (hgd : X.A.guards = some []) (hb : KBn X.K fd ps n ks gU gV) (hx : PassAt X σ E) (I : L2.Inv X pins σ H s) (r : Vals vs us) (rz : Vals zs ws) (l1 : vs.length = n) (l2 : zs.length = ks.length)
    (h : sp (gV vs zs) H Q E) : wpAny (model X.prog X.w) X.A (call (.ref f) us (ks.zip ws)) (EP X pins σ Q) X.xe s := by
  refine wpAny_call (codeAny_mono (G.run X.A X.stack s H ⟨us, ks.zip ws⟩ (gU us ws) (gV vs zs) Q E hr hgd I.env0 (hb.to s us ws I.kIn (r.length.symm.trans l1) (rz.length.symm.trans l2)) (hb.rel r rz) h) fun res s' hq => ?_)
  match res, hq with
  | .error e, hq => exact hx pins H s e s' I hq
  | .ok (.ret u), hq => exact I.after hq
/-- f(e, .., k = v, ..) -/
theorem pe_callG {k n : Nat} {f : Addr} {fd : FuncData} {ps ks : List Str} {sp : Sp} {x : Str} {p pos : Pos} {e : Expr} {es : List Expr} {kws : List Keyword} {t tk : TA} {gU : List Value → List Value → List Value} {gV : List V → List V → List V}
    (G : FnG X.prog X.w X.K X.mg X.base (L2.CX X.prog X.w) k f fd ps sp) (hr : Room k X.A) (hgd : X.A.guards = some []) (hg : Gl X x) (hm : X.mg x = some (.ref f)) (hk : PySem.W.keepIn X.K (.ref f) = true) (hb : KBn X.K fd ps n ks gU gV)
    (ha : PA X (e :: es) t) (hkw : PK X kws tk) (hall : (backToKw pos (keywordEach kws X.env)).all (·.1.isSome) = true) (hks : (backToKw pos (keywordEach kws X.env)).filterMap (·.1) = ks)
    (hdb : (x == ("__debug__" : Str)) = false) (hst : ∀ x p, e ≠ .Starred x p) (hpl : ((backTo pos (starEach (e :: es) X.env)).any (·.1) || (backToKw pos (keywordEach kws X.env)).any (·.1.isNone)) = false) :
    PE X (.Call (.Name x p) (e :: es) kws pos) (fun σ H Q => t σ H fun vs H1 => tk σ H1 fun zs H2 => vs.length = n ∧ zs.length = ks.length ∧ ∃ E, PassAt X σ E ∧ sp (gV vs zs) H2 Q E) := by
  refine ⟨fun pins s σ H Q I h => ?_⟩
  refine wpAny_Call_Name_kw (ld_glob I hg hm ?_ hdb)
  refine PySem.W.callWith_KW (h₀ := X.base) I.ok.mod.kin hk hall (thn (ha.run pos pins s σ H _ I h) fun us s1 ⟨vs, H1, I1, r, q⟩ => ?_) hpl (starEach_cons hst)
  refine thn (hkw.run pos pins s1 σ H1 _ I1 q) fun ws s2 ⟨zs, H2, I2, rz, l1, l2, E, hx, q2⟩ => ⟨I2.kIn, ?_⟩
  rw [hks]
  exact run_at G hr hgd hb hx I2 r rz l1 l2 q2
/-- f(k = v, ..) -/
theorem pe_callG0 {k : Nat} {f : Addr} {fd : FuncData} {ps ks : List Str} {sp : Sp} {x : Str} {p pos : Pos} {kws : List Keyword} {tk : TA} {gU : List Value → List Value → List Value} {gV : List V → List V → List V}
    (G : FnG X.prog X.w X.K X.mg X.base (L2.CX X.prog X.w) k f fd ps sp) (hr : Room k X.A) (hgd : X.A.guards = some []) (hg : Gl X x) (hm : X.mg x = some (.ref f)) (hk : PySem.W.keepIn X.K (.ref f) = true) (hb : KBn X.K fd ps 0 ks gU gV)
    (hkw : PK X kws tk) (hall : (backToKw pos (keywordEach kws X.env)).all (·.1.isSome) = true) (hks : (backToKw pos (keywordEach kws X.env)).filterMap (·.1) = ks)
    (hdb : (x == ("__debug__" : Str)) = false) (hpl : ((backTo pos (starEach [] X.env)).any (·.1) || (backToKw pos (keywordEach kws X.env)).any (·.1.isNone)) = false) :
    PE X (.Call (.Name x p) [] kws pos) (fun σ H Q => tk σ H fun zs H2 => zs.length = ks.length ∧ ∃ E, PassAt X σ E ∧ sp (gV [] zs) H2 Q E) := by
  refine ⟨fun pins s σ H Q I h => ?_⟩
  refine wpAny_Call_Name_kw (ld_glob I hg hm ?_ hdb)
  refine PySem.W.callWith_KW0 (h₀ := X.base) I.ok.mod.kin hk hall (thn (hkw.run pos pins s σ H _ I h) fun ws s2 ⟨zs, H2, I2, rz, l2, E, hx, q2⟩ => ⟨I2.kIn, ?_⟩) hpl
  rw [hks]
  exact run_at (us := []) G hr hgd hb hx I2 .nil rz rfl l2 q2
/-! ### keywords' values -/
theorem PK.imp {kws : List Keyword} {t t' : TA} (h : PK X kws t) (i : ∀ σ H Q, t' σ H Q → t σ H Q) : PK X kws t' := ⟨fun pos pins s σ H Q I q => h.run pos pins s σ H Q I (i σ H Q q)⟩
theorem sKNil : PK X [] (rdA g F W (M.pure [])) := PK.imp pk_nil fun σ H Q ⟨S, mu, env, cs, ra⟩ => ra.pure .nil
theorem sKCons {e : Expr} {nm : Option Str} {kpos : Pos} {kws : List Keyword} {ma : M D} {mr : M (List D)} (h1 : PE X e (rdZ g F W ma)) (h2 : PK X kws (rdA g F W mr)) : PK X (⟨nm, e, kpos⟩ :: kws) (rdA g F W (mCons ma mr)) :=
  PK.imp (pk_cons h1 h2) fun σ H Q q => rd_bind q fun d env1 cs1 v H1 S1 mu1 t r1 =>
    (r1.bind fun ds env2 cs2 vs H2 S2 mu2 gr t2 r2 => r2.pure (.cons (t.mono gr.mo) t2)).rd
/-- so many -/
def Many {α : Type} (n : Nat) (m : M (List α)) : Prop := ∀ env cs ds env' cs', m env cs = .ok ds env' cs' → ds.length = n
theorem Many.nil : Many (α := D) 0 (M.pure []) := fun env cs ds env' cs' e => by cases e; rfl
theorem Many.cons {n : Nat} {ma : M D} {mr : M (List D)} (h : Many n mr) : Many (n + 1) (mCons ma mr) := fun env cs ds env' cs' e => by
  unfold mCons M.bind M.pure at e
  cases e1 : ma env cs with
  | stuck => rw [e1] at e; cases e
  | exc => rw [e1] at e; cases e
  | ok d e2 c2 =>
    rw [e1] at e
    cases e3 : mr e2 c2 with
    | stuck => simp only [e3] at e; cases e
    | exc => simp only [e3] at e; cases e
    | ok ds' e4 c4 =>
      simp only [e3] at e
      cases e
      rw [List.length_cons, h _ _ _ _ _ e3]
theorem Many.short {α : Type} {n : Nat} {m : M (List α)} (h : Many n m) (hn : n ≤ 1000) : Short m := fun env cs ds env' cs' e => by
  rw [h _ _ _ _ _ e]
  exact Nat.le_trans hn (by decide)
theorem RA.many {α : Type} {n : Nat} {T : SS → Env → Hp → Hp → List Addr → List V → List α → Prop} {α' β' : Type} {T' : SS → Env → Hp → Hp → List Addr → β' → α' → Prop} {m : M (List α)} {f : List α → M α'} {σ : SS} {H S : Hp} {mu : List Addr} {env : Env} {cs : Cells} {Q : β' → Hp → Prop} {Q1 : List V → Hp → Prop} (sh : Many n m)
    (h : RA g F W T' (m.bind f) σ H S mu env cs Q) (i : ∀ a env1 cs1 v H1 S1 mu1, Gr H S mu H1 S1 mu1 → T σ env1 H1 S1 mu1 v a → a.length = n → RA g F W T' (f a) σ H1 S1 mu1 env1 cs1 Q → Q1 v H1) : RA g F W T m σ H S mu env cs Q1 := by
  obtain ⟨r, q⟩ := h
  rw [Post.bind] at q
  refine ⟨r, ?_⟩
  cases e1 : m env cs with
  | stuck => rw [e1] at q; exact q
  | exc k fs e c => rw [e1] at q; exact q
  | ok a env1 cs1 =>
    rw [e1] at q
    exact fun v H1 S1 mu1 gr rl t => i a env1 cs1 v H1 S1 mu1 gr t (sh _ _ _ _ _ e1) ⟨rl, Post.on q fun b e c k v' H' S' mu' gr' => k v' H' S' mu' (gr.trans gr')⟩
/-- a call of an own def -/
theorem sCall {k n : Nat} {f : Addr} {fd : FuncData} {ps ks : List Str} {x : Str} {p pos : Pos} {e : Expr} {es : List Expr} {kws : List Keyword} {mp mk : M (List D)} {sh : List Src} {φ : Phi} {gU : List Value → List Value → List Value}
    (G : FnG X.prog X.w X.K X.mg X.base (L2.CX X.prog X.w) k f fd ps (spF g ps.length φ)) (hr : Room k X.A) (hgd : X.A.guards = some []) (tk : Takes X W) (hg : Gl X x) (hm : X.mg x = some (.ref f)) (hk : PySem.W.keepIn X.K (.ref f) = true) (hb : KBn X.K fd ps n ks gU (arrV sh)) (hsh : sh.length = ps.length) (hd : DflOk g sh)
    (ha : PA X (e :: es) (rdA g F W mp)) (hkw : PK X kws (rdA g F W mk)) (hp : Many n mp) (hq : Many ks.length mk) (hall : (backToKw pos (keywordEach kws X.env)).all (·.1.isSome) = true) (hks : (backToKw pos (keywordEach kws X.env)).filterMap (·.1) = ks)
    (hdb : (x == ("__debug__" : Str)) = false) (hst : ∀ x p, e ≠ .Starred x p) (hpl : ((backTo pos (starEach (e :: es) X.env)).any (·.1) || (backToKw pos (keywordEach kws X.env)).any (·.1.isNone)) = false) :
    PE X (.Call (.Name x p) (e :: es) kws pos) (rdE g F W (mCall φ sh mp mk)) :=
  PE.imp (pe_callG G hr hgd hg hm hk hb ha hkw hall hks hdb hst hpl) fun σ H Q ⟨S, mu, env, cs, ra⟩ => by
    refine (RA.many (T := TRl g) hp ra fun ds env1 cs1 vs H1 S1 mu1 gr t l1 r1 => (RA.many (T := TRl g) hq r1 fun es env2 cs2 zs H2 S2 mu2 gr2 t2 l2 r2 => ?_).rd).rd
    refine ⟨by rw [t.length, l1], by rw [t2.length, l2], EOf W σ, pass_at tk, ?_⟩
    exact RA.call r2 (arr_rp (t.mono gr2.mo) t2 sh hd) (by unfold arrV; rw [List.length_map, hsh])
theorem sCall0 {k : Nat} {f : Addr} {fd : FuncData} {ps ks : List Str} {x : Str} {p pos : Pos} {kws : List Keyword} {mk : M (List D)} {sh : List Src} {φ : Phi} {gU : List Value → List Value → List Value}
    (G : FnG X.prog X.w X.K X.mg X.base (L2.CX X.prog X.w) k f fd ps (spF g ps.length φ)) (hr : Room k X.A) (hgd : X.A.guards = some []) (tk : Takes X W) (hg : Gl X x) (hm : X.mg x = some (.ref f)) (hk : PySem.W.keepIn X.K (.ref f) = true) (hb : KBn X.K fd ps 0 ks gU (arrV sh)) (hsh : sh.length = ps.length) (hd : DflOk g sh)
    (hkw : PK X kws (rdA g F W mk)) (hq : Many ks.length mk) (hall : (backToKw pos (keywordEach kws X.env)).all (·.1.isSome) = true) (hks : (backToKw pos (keywordEach kws X.env)).filterMap (·.1) = ks)
    (hdb : (x == ("__debug__" : Str)) = false) (hpl : ((backTo pos (starEach [] X.env)).any (·.1) || (backToKw pos (keywordEach kws X.env)).any (·.1.isNone)) = false) :
    PE X (.Call (.Name x p) [] kws pos) (rdE g F W (mCall φ sh (M.pure []) mk)) :=
  PE.imp (pe_callG0 G hr hgd hg hm hk hb hkw hall hks hdb hpl) fun σ H Q ⟨S, mu, env, cs, ra⟩ => by
    refine (RA.many (T := TRl g) (f := fun es => mPhi φ (arrD sh [] es)) hq ra fun es env2 cs2 zs H2 S2 mu2 gr2 t2 l2 r2 => ?_).rd
    refine ⟨by rw [t2.length, l2], EOf W σ, pass_at tk, ?_⟩
    exact RA.call r2 (arr_rp .nil t2 sh hd) (by unfold arrV; rw [List.length_map, hsh])

/-! ### a def's body -/
theorem start_get {vs : List V} {N : List Str} {i : Nat} {v : V} (h : vs[i]? = some v) : (L2.start N vs)[i]? = some (some v) := by
  have hi : i < vs.length := (List.getElem?_eq_some_iff.mp h).1
  unfold L2.start
  rw [List.getElem?_append_left (by simpa using hi), List.getElem?_map, h]
  rfl
theorem startE_at {n : Nat} {ds : List D} {i : Nat} {s : Slot} (h : (startE n ds)[i]? = some s) : s = .no ∨ ∃ d, ds[i]? = some d ∧ s = .fz d := by
  unfold startE at h
  by_cases hi : i < ds.length
  · rw [List.getElem?_append_left (by simpa using hi), List.getElem?_map, List.getElem?_eq_getElem hi] at h
    exact .inr ⟨_, List.getElem?_eq_getElem hi, (Option.some.inj h).symm⟩
  · rw [List.getElem?_append_right (by simpa using hi), List.getElem?_replicate] at h
    split at h
    · exact .inl (Option.some.inj h).symm
    · cases h
theorem rel_start {H S : Hp} {mu : List Addr} {cs : Cells} {vs : List V} {ds : List D} {N : List Str} (hs : HS g H S mu cs) (rl : RpL g S mu vs ds) : Rel g ⟨H, S, mu, [], []⟩ (start N vs) H S mu (startE N.length ds) cs := by
  refine ⟨hs, ⟨.refl, fun _ _ h _ => .inl h, fun _ h => .inl h, fun _ _ h => .inl h, (fun _ h => nomatch h), (fun _ h => nomatch h)⟩, ?_, fun i d e => ?_, fun i d e => ?_, fun i j d d' a e => ?_⟩
  · unfold startE L2.start
    rw [List.length_append, List.length_append, List.length_map, List.length_map, List.length_replicate, List.length_replicate, rl.length]
  · rcases startE_at e with z | ⟨d', h1, h2⟩
    · cases z
    · cases h2
      obtain ⟨v, hv, rv⟩ := rl.get h1
      exact ⟨v, start_get hv, rv⟩
  · rcases startE_at e with z | ⟨d', h1, h2⟩
    · cases z
    · cases h2
  · rcases startE_at e with z | ⟨d', h1, h2⟩
    · cases z
    · cases h2
theorem rel_aft {H S : Hp} {mu : List Addr} {σ : SS} {H' S' : Hp} {mu' : List Addr} {env : Env} {cs : Cells} (r : Rel g ⟨H, S, mu, [], []⟩ σ H' S' mu' env cs) : Aft g H S mu H' S' mu' cs := ⟨⟨r.fi.mo, r.fi.h, r.fi.n⟩, r.hs, r.fi.t⟩
theorem res_F {H S : Hp} {mu : List Addr} {σ : SS} {H' S' : Hp} {mu' : List Addr} {env : Env} {v : V} {d : D} {fr : Bool} (x : Res g ⟨H, S, mu, [], []⟩ σ env H' S' mu' v d fr) : ResF g H H' S' mu' v d fr := by
  cases fr with
  | false => exact x
  | true =>
    obtain ⟨a, e, h1, h2, h3, h4, _⟩ := x
    exact ⟨a, e, h3.1, h1, h2, h4⟩
/-- the body's reading at the entry -/
theorem run_start {m : M Fl} {N : List Str} {vs : List V} {H : Hp} {Q : VK} {E : XK} {n : Nat} (h : spF g n (runDef N.length m) vs H Q E) :
    ∃ F, rdS g F (fun cls d _ H => E cls d H) m { nx := fun _ H' => Q .non H', rt := Q } (start N vs) H := by
  obtain ⟨hn, S, mu, cs, ds, hs, rl, p⟩ := h
  refine ⟨⟨H, S, mu, [], []⟩, S, mu, startE N.length ds, cs, rel_start hs rl, ?_⟩
  unfold runDef at p
  unfold PoS
  cases e : m (startE N.length ds) cs with
  | stuck => rw [e] at p; exact p
  | exc k fs e' c' =>
    rw [e] at p
    exact fun σ dx H' S' mu' r x hn => p dx H' S' mu' (rel_aft r) x hn.1
  | ok fl e' c' =>
    rw [e] at p
    cases fl with
    | nx => exact fun σ' H' S' mu' r => p .non H' S' mu' (rel_aft r) .non
    | bk => exact p.elim
    | ct => exact p.elim
    | rt d fr => exact fun v σ' H' S' mu' r t => p v H' S' mu' (rel_aft r) (res_F t)
end
end EL
namespace EL
open PySem PySem.Spec L2

/-! ### < <= > >= -/
@[simp] def cmpI (p : Int → Int → Bool) (q : Str → Str → Bool) : F2
  | .int i, .int j => some (.bl (p i j), false)
  | .str x, .str y => some (.bl (q x y), false)
  | _, _ => none
theorem cmpI_eq {p q} : cmpI p q = orF (intF (fun _ _ => true) fun i j => .bl (p i j)) (strF (fun _ _ => true) fun x y => .bl (q x y)) := by
  funext a b
  cases a <;> cases b <;> rfl
theorem v_cmp {g : Glob} {p : Int → Int → Bool} {q : Str → Str → Bool} {r : R2} (h : ∀ i j H Q, Q (.bl (q i j)) H → r (.str i) (.str j) H Q) : OpV g (cmpI p q) (fun x y H Q => rI0 (fun i j => .bl (p i j)) x y H Q ∨ r x y H Q) := by
  rw [cmpI_eq]
  exact OpV.or (OpV.int0 fun _ _ _ _ => .bl _) (OpV.str (fV := fun x y => .bl (q x y)) (fun _ _ _ _ => .bl _) fun i j H Q _ k => h i j H Q k)
def strLt (x y : Str) : Bool := decide (x.cps.toList < y.cps.toList)
def opLt : F2 := cmpI (fun i j => decide (i < j)) strLt
def opLe : F2 := cmpI (fun i j => decide (i ≤ j)) fun x y => !strLt y x
def opGt : F2 := cmpI (fun i j => decide (j < i)) fun x y => strLt y x
def opGe : F2 := cmpI (fun i j => decide (j ≤ i)) fun x y => !strLt x y
section
variable {g : Glob}
theorem s_lt : OpS g (compareOp .Lt) opLt := fun X hK _ => ⟨_, op_lt.or op_lt_str, v_cmp fun i j H Q k => ⟨i, j, rfl, rfl, k⟩⟩
theorem s_le : OpS g (compareOp .LtE) opLe := fun X hK _ => ⟨_, op_le.or op_le_str, v_cmp fun i j H Q k => ⟨i, j, rfl, rfl, k⟩⟩
theorem s_gt : OpS g (compareOp .Gt) opGt := fun X hK _ => ⟨_, op_gt.or op_gt_str, v_cmp fun i j H Q k => ⟨i, j, rfl, rfl, k⟩⟩
theorem s_ge : OpS g (compareOp .GtE) opGe := fun X hK _ => ⟨_, op_ge.or op_ge_str, v_cmp fun i j H Q k => ⟨i, j, rfl, rfl, k⟩⟩
end

/-! ### is, is not: None, True, False on the right -/
@[simp] def isNonD : D → Bool
  | .non => true
  | _ => false
@[simp] def isBlD (b : Bool) : D → Bool
  | .bl c => c == b
  | _ => false
@[simp] def isF (n : Bool) : F2
  | a, .non => some (.bl (n != isNonD a), false)
  | a, .bl b => some (.bl (n != isBlD b a), false)
  | _, _ => none
def rIsS (n : Bool) : R2 := fun x y H Q => (y = .non ∨ ∃ b, y = .bl b) ∧ Q (.bl (n != decide (x = y))) H
theorem plain_is {x y : V} {v u : Value} (rx : RelV x v) (ry : RelV y u) (h : y = .non ∨ ∃ b, y = .bl b) : plainIs v u = true ∧ (v == u) = decide (x = y) := by
  rcases h with rfl | ⟨b, rfl⟩
  · cases (show u = Value.none from ry)
    cases x <;> first | (cases (show _ = _ from rx); exact ⟨rfl, rfl⟩) | (obtain ⟨t, rfl⟩ := rx; exact ⟨rfl, rfl⟩)
  · cases (show u = Value.bool b from ry)
    cases x <;> first | (obtain ⟨t, rfl⟩ := rx; exact ⟨rfl, rfl⟩) | (cases (show _ = _ from rx); exact ⟨rfl, rfl⟩) | skip
    cases (show v = Value.bool _ from rx)
    refine ⟨rfl, ?_⟩
    rename_i c
    cases b <;> cases c <;> rfl
theorem op_isS {X : Cx} : OpR X (compareOp .Is) (rIsS false) := by
  intro pins s σ H x y v u Q I rx ry ⟨h, q⟩
  obtain ⟨h1, h2⟩ := plain_is rx ry h
  exact wpAny_is_plain h1 ⟨.bl _, H, I, rfl, by rw [h2]; simpa using q⟩
theorem op_notS {X : Cx} : OpR X (compareOp .IsNot) (rIsS true) := by
  intro pins s σ H x y v u Q I rx ry ⟨h, q⟩
  obtain ⟨h1, h2⟩ := plain_is rx ry h
  exact wpAny_isNot_plain h1 ⟨.bl _, H, I, rfl, by rw [h2]; simpa using q⟩
section
variable {g : Glob}
theorem v_is {n : Bool} : OpV g (isF n) (rIsS n) := fun H S mu cs v w a b x Q hs va vb e k => by
  cases b <;> first | (simp [isF] at e; done) | skip
  · cases vb.non
    cases e
    refine ⟨.inl rfl, ?_⟩
    have : decide (v = .non) = isNonD a := by
      cases a <;> first | (cases va.non; rfl) | (cases va.bl; rfl) | (cases va.int; rfl) | (cases va.str; rfl) | skip
      · obtain ⟨_, _, rfl, _⟩ := va.lst hs; rfl
      · obtain ⟨_, _, rfl, _⟩ := va.tup hs; rfl
      · obtain ⟨_, _, rfl, _⟩ := va.dct hs; rfl
      · obtain ⟨_, _, _, rfl, _⟩ := va.ins hs; rfl
      all_goals
        rcases va with z | ⟨_, rfl, _⟩
        · cases z; rfl
        · rfl
    rw [this]
    exact k _ _ _ (.val (.bl _))
  · rename_i b
    cases vb.bl
    cases e
    refine ⟨.inr ⟨b, rfl⟩, ?_⟩
    have : decide (v = .bl b) = isBlD b a := by
      cases a <;> first | (cases va.non; rfl) | (cases va.int; rfl) | (cases va.str; rfl) | skip
      · rename_i c
        cases va.bl
        cases b <;> cases c <;> rfl
      · obtain ⟨_, _, rfl, _⟩ := va.lst hs; rfl
      · obtain ⟨_, _, rfl, _⟩ := va.tup hs; rfl
      · obtain ⟨_, _, rfl, _⟩ := va.dct hs; rfl
      · obtain ⟨_, _, _, rfl, _⟩ := va.ins hs; rfl
      all_goals
        rcases va with z | ⟨_, rfl, _⟩
        · cases z; rfl
        · rfl
    rw [this]
    exact k _ _ _ (.val (.bl _))
theorem s_is : OpS g (compareOp .Is) (isF false) := fun X hK _ => ⟨_, op_isS, v_is⟩
theorem s_nis : OpS g (compareOp .IsNot) (isF true) := fun X hK _ => ⟨_, op_notS, v_is⟩
end

/-! ### == of data -/
def eqZ (f : D → D → Option Bool) : List D → List D → Option Bool
  | x :: xs, y :: ys => match f x y with
    | some a => (eqZ f xs ys).map fun b => a && b
    | none => none
  | _, _ => some true
def eqD : Nat → D → D → Option Bool
  | 0, _, _ => none
  | n + 1, a, b => match a, b with
    | .lst xs, .lst ys => if xs.length = ys.length then eqZ (eqD n) xs ys else some false
    | .tup xs, .tup ys => (eqZ (eqD n) xs ys).map fun b => b && xs.length == ys.length
    | .non, .non => some true
    | .bl a, .bl b => some (a == b)
    | .bl a, .int j => some ((if a then 1 else 0) == j)
    | .int i, .bl b => some (i == (if b then 1 else 0))
    | .int i, .int j => some (i == j)
    | .str x, .str y => some (x == y)
    | .dct _, _ => none
    | _, .dct _ => none
    | .ins _ _, _ => none
    | _, .ins _ _ => none
    | .cell _, _ => none
    | _, .cell _ => none
    | .slf _ _ _, _ => none
    | _, .slf _ _ _ => none
    | .adr _, _ => none
    | _, .adr _ => none
    | .tab _, _ => none
    | _, .tab _ => none
    | _, _ => some false

theorem eqZ_true {f : D → D → Option Bool} {P : D → D → Prop} (h : ∀ x y b, P x y → f x y = some b → b = true) : ∀ {xs ys : List D} {b : Bool}, (∀ (j : Nat) x y, xs[j]? = some x → ys[j]? = some y → P x y) → eqZ f xs ys = some b → b = true
  | [], ys, b, _, e => by cases ys <;> (cases e; rfl)
  | _ :: _, [], b, _, e => by cases e; rfl
  | x :: xs, y :: ys, b, hp, e => by
    unfold eqZ at e
    cases e1 : f x y with
    | none => rw [e1] at e; cases e
    | some a =>
      rw [e1] at e
      cases e2 : eqZ f xs ys with
      | none => rw [e2] at e; cases e
      | some c =>
        rw [e2] at e
        cases e
        rw [h x y a (hp 0 x y rfl rfl) e1, eqZ_true h (fun j x y h1 h2 => hp (j + 1) x y h1 h2) e2]
        rfl
/-- the pairs' answers, and theirs together -/
theorem eqZ_all {f : D → D → Option Bool} : ∀ {xs ys : List D} {b : Bool}, eqZ f xs ys = some b → ∃ q : Nat → Bool, (∀ (j : Nat) x y, xs[j]? = some x → ys[j]? = some y → f x y = some (q j)) ∧ b = (List.range (min xs.length ys.length)).all q
  | [], ys, b, e => by
    refine ⟨fun _ => true, (fun j x y h => by simp at h), ?_⟩
    cases ys <;> (cases e; simp)
  | _ :: _, [], b, e => by
    refine ⟨fun _ => true, (fun j x y _ h => by simp at h), ?_⟩
    cases e
    simp
  | x :: xs, y :: ys, b, e => by
    unfold eqZ at e
    cases e1 : f x y with
    | none => rw [e1] at e; cases e
    | some a =>
      rw [e1] at e
      cases e2 : eqZ f xs ys with
      | none => rw [e2] at e; cases e
      | some c =>
        rw [e2] at e
        cases e
        obtain ⟨q, h1, h2⟩ := eqZ_all e2
        refine ⟨fun j => match j with
          | 0 => a
          | j + 1 => q j, fun j x' y' k1 k2 => ?_, ?_⟩
        · cases j with
          | zero => cases k1; cases k2; exact e1
          | succ j => exact h1 j x' y' k1 k2
        · have el : min (x :: xs).length (y :: ys).length = min xs.length ys.length + 1 := by simp only [List.length_cons]; omega
          rw [el, List.range_succ_eq_map, List.all_cons, List.all_map, h2]
          rfl
section
variable {g : Glob} {X : Cx} {pins : List (Addr × Obj)} {σ : SS} {H S : Hp} {s : Shared} {mu : List Addr} {cs : Cells}
theorem not_both {a : Addr} {xs ys : List V} (I : L2.Inv X pins σ H s) (h1 : SqL X.K H a xs) (h2 : SqT X.K H a ys) : False := by
  obtain ⟨_, _, ⟨o, n, e, c, _⟩, _⟩ := I.list h1
  obtain ⟨_, _, ⟨o', e', c', _⟩, _⟩ := I.tuple h2
  rw [e] at e'
  cases e'
  rw [c] at c'
  exact absurd c' (by decide)
theorem eqD_same (I : L2.Inv X pins σ H s) (hs : HS g H S mu cs) (hK : X.K = g.K) : ∀ (n : Nat) (a b : D) (r : Bool), eqD n a b = some r → ∀ v, Rp g S mu v a → Rp g S mu v b → r = true
  | 0, _, _, _, e => nomatch e
  | n + 1, a, b, r, e => fun v ra rb => by
    have wa : Vw g H S mu v a := .inl ra
    have wb : Vw g H S mu v b := .inl rb
    cases a <;> cases b <;> first | (simp [eqD] at e; done) | skip
    · cases e; rfl
    · cases ra <;> cases rb
    · cases ra <;> cases rb
    · cases ra <;> cases rb
    · cases ra <;> cases rb
    · cases ra <;> cases rb
    · cases ra <;> cases rb
    · cases wa.bl; cases wb.bl; simp only [eqD, beq_self_eq_true] at e; cases e; rfl
    · cases ra <;> cases rb
    · cases ra <;> cases rb
    · cases ra <;> cases rb
    · cases ra <;> cases rb
    · cases ra <;> cases rb
    · cases ra <;> cases rb
    · cases wa.int; cases wb.int; simp only [eqD, beq_self_eq_true] at e; cases e; rfl
    · cases ra <;> cases rb
    · cases ra <;> cases rb
    · cases ra <;> cases rb
    · cases ra <;> cases rb
    · cases ra <;> cases rb
    · cases ra <;> cases rb
    · cases wa.str; cases wb.str; simp only [eqD, beq_self_eq_true] at e; cases e; rfl
    · cases ra <;> cases rb
    · cases ra <;> cases rb
    · cases ra <;> cases rb
    · cases ra <;> cases rb
    · cases ra <;> cases rb
    · cases ra <;> cases rb
    · obtain ⟨p, vs, rfl, h1, h2⟩ := wa.lst hs
      obtain ⟨p', ws, e', h3, h4⟩ := wb.lst hs
      cases e'
      have := I.list_inj (hK.symm ▸ h1) (hK.symm ▸ h3)
      subst this
      simp only [eqD] at e
      rw [if_pos (h2.length.symm.trans h4.length)] at e
      refine eqZ_true (P := fun x y => ∃ v, Rp g S mu v x ∧ Rp g S mu v y) (fun x y b ⟨v, k1, k2⟩ k => eqD_same I hs hK n x y b k v k1 k2) (fun j x y k1 k2 => ?_) e
      obtain ⟨v, j1, j2⟩ := h2.get k1
      obtain ⟨w, j3, j4⟩ := h4.get k2
      rw [j1] at j3; cases j3
      exact ⟨v, j2, j4⟩
    · obtain ⟨p, vs, rfl, h1, h2⟩ := wa.lst hs
      obtain ⟨p', ws, e', h3, h4⟩ := wb.tup hs
      cases e'
      exact (not_both I (hK.symm ▸ h1) (hK.symm ▸ h3)).elim
    · cases ra <;> cases rb
    · cases ra <;> cases rb
    · cases ra <;> cases rb
    · cases ra <;> cases rb
    · obtain ⟨p, vs, rfl, h1, h2⟩ := wa.tup hs
      obtain ⟨p', ws, e', h3, h4⟩ := wb.lst hs
      cases e'
      exact (not_both I (hK.symm ▸ h3) (hK.symm ▸ h1)).elim
    · obtain ⟨p, vs, rfl, h1, h2⟩ := wa.tup hs
      obtain ⟨p', ws, e', h3, h4⟩ := wb.tup hs
      cases e'
      have := I.tuple_inj (hK.symm ▸ h1) (hK.symm ▸ h3)
      subst this
      simp only [eqD] at e
      rename_i xs ys
      cases q : eqZ (eqD n) xs ys with
      | none => rw [q] at e; cases e
      | some c =>
        rw [q] at e
        cases e
        have hl : xs.length = ys.length := h2.length.symm.trans h4.length
        rw [eqZ_true (P := fun x y => ∃ v, Rp g S mu v x ∧ Rp g S mu v y) (fun x y b ⟨v, k1, k2⟩ k => eqD_same I hs hK n x y b k v k1 k2) (fun j x y k1 k2 => ?_) q, hl]
        · simp
        · obtain ⟨v, j1, j2⟩ := h2.get k1
          obtain ⟨w, j3, j4⟩ := h4.get k2
          rw [j1] at j3; cases j3
          exact ⟨v, j2, j4⟩
theorem items_eq {n : Nat} {xs ys : List D} {vs ws : List V} {is js : List Value} {q : Nat → Bool} (I : L2.Inv X pins σ H s) (hs : HS g H S mu cs) (hK : X.K = g.K) (r1 : RpL g S mu vs xs) (r2 : RpL g S mu ws ys) (v1 : Vals vs is) (v2 : Vals ws js)
    (ih : ∀ (a b : D) (r : Bool), eqD n a b = some r → ∀ x y u v (A : Around), Rp g S mu x a → Rp g S mu y b → RelV x u → RelV y v → A.units + n < cLine → SeqAt.EqAt A s u v r)
    (hq : ∀ (j : Nat) x y, xs[j]? = some x → ys[j]? = some y → eqD n x y = some (q j)) (A : Around) (hu : A.units + n < cLine) (j : Nat) (j1 : j < is.toArray.size) (j2 : j < js.toArray.size) : SeqAt.EqAt A s is.toArray[j] js.toArray[j] (q j) := by
  have k1 : j < is.length := by simpa using j1
  have k2 : j < js.length := by simpa using j2
  obtain ⟨x, hx, rx⟩ := r1.getV (v := vs[j]'(by rw [v1.length]; exact k1)) (List.getElem?_eq_getElem _)
  obtain ⟨y, hy, ry⟩ := r2.getV (v := ws[j]'(by rw [v2.length]; exact k2)) (List.getElem?_eq_getElem _)
  obtain ⟨u, hu1, ru⟩ := v1.get (List.getElem?_eq_getElem (by rw [v1.length]; exact k1))
  obtain ⟨w, hw1, rw'⟩ := v2.get (List.getElem?_eq_getElem (by rw [v2.length]; exact k2))
  rw [List.getElem?_eq_getElem k1] at hu1
  rw [List.getElem?_eq_getElem k2] at hw1
  have e1 : is.toArray[j] = u := by simpa using hu1
  have e2 : js.toArray[j] = w := by simpa using hw1
  rw [e1, e2]
  exact ih x y _ (hq j x y hx hy) _ _ _ _ A rx ry ru rw' hu
theorem eqAt_D (I : L2.Inv X pins σ H s) (hs : HS g H S mu cs) (hK : X.K = g.K) : ∀ (n : Nat) (a b : D) (r : Bool), eqD n a b = some r → ∀ x y u v (A : Around), Rp g S mu x a → Rp g S mu y b → RelV x u → RelV y v → A.units + n < cLine → SeqAt.EqAt A s u v r
  | 0, _, _, _, e => nomatch e
  | n + 1, a, b, r, e => fun x y u v A rpa rpb ru rv hu => by
    have wx : Vw g H S mu x a := .inl rpa
    have wy : Vw g H S mu y b := .inl rpb
    have ih := eqAt_D I hs hK n
    have e0 := e
    cases a <;> cases b <;> first | (simp [eqD] at e; done) | skip
    · cases wx.non
      cases (show u = Value.none from ru)
      cases wy.non
      cases (show v = Value.none from rv)
      cases e
      exact SeqAt.EqAt.same _
    · cases wx.non
      cases (show u = Value.none from ru)
      cases wy.bl
      cases (show v = Value.bool _ from rv)
      cases e
      exact SeqAt.EqAt.none_bool _
    · cases wx.non
      cases (show u = Value.none from ru)
      cases wy.int
      obtain ⟨_, rfl⟩ := rv
      cases e
      exact SeqAt.EqAt.none_int _ _
    · cases wx.non
      cases (show u = Value.none from ru)
      cases wy.str
      obtain ⟨_, rfl⟩ := rv
      cases e
      exact SeqAt.EqAt.none_str _ _
    · cases wx.non
      cases (show u = Value.none from ru)
      obtain ⟨ma, mv, rfl, mq, mr⟩ := wy.lst hs
      cases (show v = Value.ref _ from rv)
      obtain ⟨mi, mw, mp, mz⟩ := I.list (hK.symm ▸ mq)
      have m := mp.isList
      cases e
      exact SeqAt.EqAt.none_list  m (by omega)
    · cases wx.non
      cases (show u = Value.none from ru)
      obtain ⟨ma, mv, rfl, mq, mr⟩ := wy.tup hs
      cases (show v = Value.ref _ from rv)
      obtain ⟨mi, mw, mp, mz⟩ := I.tuple (hK.symm ▸ mq)
      have m : s.heap.IsTuple ma mi.toArray := mp
      cases e
      exact SeqAt.EqAt.none_tuple  m (by omega)
    · cases wx.bl
      cases (show u = Value.bool _ from ru)
      cases wy.non
      cases (show v = Value.none from rv)
      cases e
      exact SeqAt.EqAt.bool_none _
    · cases wx.bl
      cases (show u = Value.bool _ from ru)
      cases wy.bl
      cases (show v = Value.bool _ from rv)
      cases e
      exact SeqAt.EqAt.bool_bool _ _
    · cases wx.bl
      cases (show u = Value.bool _ from ru)
      cases wy.int
      obtain ⟨_, rfl⟩ := rv
      cases e
      exact SeqAt.EqAt.bool_int _ _ _
    · cases wx.bl
      cases (show u = Value.bool _ from ru)
      cases wy.str
      obtain ⟨_, rfl⟩ := rv
      cases e
      exact SeqAt.EqAt.bool_str _ _ _
    · cases wx.bl
      cases (show u = Value.bool _ from ru)
      obtain ⟨ma, mv, rfl, mq, mr⟩ := wy.lst hs
      cases (show v = Value.ref _ from rv)
      obtain ⟨mi, mw, mp, mz⟩ := I.list (hK.symm ▸ mq)
      have m := mp.isList
      cases e
      exact SeqAt.EqAt.bool_list _ m (by omega)
    · cases wx.bl
      cases (show u = Value.bool _ from ru)
      obtain ⟨ma, mv, rfl, mq, mr⟩ := wy.tup hs
      cases (show v = Value.ref _ from rv)
      obtain ⟨mi, mw, mp, mz⟩ := I.tuple (hK.symm ▸ mq)
      have m : s.heap.IsTuple ma mi.toArray := mp
      cases e
      exact SeqAt.EqAt.bool_tuple _ m (by omega)
    · cases wx.int
      obtain ⟨_, rfl⟩ := ru
      cases wy.non
      cases (show v = Value.none from rv)
      cases e
      exact SeqAt.EqAt.int_none _ _
    · cases wx.int
      obtain ⟨_, rfl⟩ := ru
      cases wy.bl
      cases (show v = Value.bool _ from rv)
      cases e
      exact SeqAt.EqAt.int_bool _ _ _
    · cases wx.int
      obtain ⟨_, rfl⟩ := ru
      cases wy.int
      obtain ⟨_, rfl⟩ := rv
      cases e
      exact SeqAt.EqAt.int_int _ _ _ _
    · cases wx.int
      obtain ⟨_, rfl⟩ := ru
      cases wy.str
      obtain ⟨_, rfl⟩ := rv
      cases e
      exact SeqAt.EqAt.int_str _ _ _ _
    · cases wx.int
      obtain ⟨_, rfl⟩ := ru
      obtain ⟨ma, mv, rfl, mq, mr⟩ := wy.lst hs
      cases (show v = Value.ref _ from rv)
      obtain ⟨mi, mw, mp, mz⟩ := I.list (hK.symm ▸ mq)
      have m := mp.isList
      cases e
      exact SeqAt.EqAt.int_list _ _ m (by omega)
    · cases wx.int
      obtain ⟨_, rfl⟩ := ru
      obtain ⟨ma, mv, rfl, mq, mr⟩ := wy.tup hs
      cases (show v = Value.ref _ from rv)
      obtain ⟨mi, mw, mp, mz⟩ := I.tuple (hK.symm ▸ mq)
      have m : s.heap.IsTuple ma mi.toArray := mp
      cases e
      exact SeqAt.EqAt.int_tuple _ _ m (by omega)
    · cases wx.str
      obtain ⟨_, rfl⟩ := ru
      cases wy.non
      cases (show v = Value.none from rv)
      cases e
      exact SeqAt.EqAt.str_none _ _
    · cases wx.str
      obtain ⟨_, rfl⟩ := ru
      cases wy.bl
      cases (show v = Value.bool _ from rv)
      cases e
      exact SeqAt.EqAt.str_bool _ _ _
    · cases wx.str
      obtain ⟨_, rfl⟩ := ru
      cases wy.int
      obtain ⟨_, rfl⟩ := rv
      cases e
      exact SeqAt.EqAt.str_int _ _ _ _
    · cases wx.str
      obtain ⟨_, rfl⟩ := ru
      cases wy.str
      obtain ⟨_, rfl⟩ := rv
      cases e
      exact SeqAt.EqAt.str_str _ _ _ _
    · cases wx.str
      obtain ⟨_, rfl⟩ := ru
      obtain ⟨ma, mv, rfl, mq, mr⟩ := wy.lst hs
      cases (show v = Value.ref _ from rv)
      obtain ⟨mi, mw, mp, mz⟩ := I.list (hK.symm ▸ mq)
      have m := mp.isList
      cases e
      exact SeqAt.EqAt.str_list _ _ m (by omega)
    · cases wx.str
      obtain ⟨_, rfl⟩ := ru
      obtain ⟨ma, mv, rfl, mq, mr⟩ := wy.tup hs
      cases (show v = Value.ref _ from rv)
      obtain ⟨mi, mw, mp, mz⟩ := I.tuple (hK.symm ▸ mq)
      have m : s.heap.IsTuple ma mi.toArray := mp
      cases e
      exact SeqAt.EqAt.str_tuple _ _ m (by omega)
    · obtain ⟨ka, kv, rfl, kq, kr⟩ := wx.lst hs
      cases (show u = Value.ref _ from ru)
      obtain ⟨ki, kw, kp, kz⟩ := I.list (hK.symm ▸ kq)
      have k := kp.isList
      cases wy.non
      cases (show v = Value.none from rv)
      cases e
      exact SeqAt.EqAt.list_none  k (by omega)
    · obtain ⟨ka, kv, rfl, kq, kr⟩ := wx.lst hs
      cases (show u = Value.ref _ from ru)
      obtain ⟨ki, kw, kp, kz⟩ := I.list (hK.symm ▸ kq)
      have k := kp.isList
      cases wy.bl
      cases (show v = Value.bool _ from rv)
      cases e
      exact SeqAt.EqAt.list_bool _ k (by omega)
    · obtain ⟨ka, kv, rfl, kq, kr⟩ := wx.lst hs
      cases (show u = Value.ref _ from ru)
      obtain ⟨ki, kw, kp, kz⟩ := I.list (hK.symm ▸ kq)
      have k := kp.isList
      cases wy.int
      obtain ⟨_, rfl⟩ := rv
      cases e
      exact SeqAt.EqAt.list_int _ _ k (by omega)
    · obtain ⟨ka, kv, rfl, kq, kr⟩ := wx.lst hs
      cases (show u = Value.ref _ from ru)
      obtain ⟨ki, kw, kp, kz⟩ := I.list (hK.symm ▸ kq)
      have k := kp.isList
      cases wy.str
      obtain ⟨_, rfl⟩ := rv
      cases e
      exact SeqAt.EqAt.list_str _ _ k (by omega)
    · obtain ⟨ka, kv, rfl, kq, kr⟩ := wx.lst hs
      cases (show u = Value.ref _ from ru)
      obtain ⟨ki, kw, kp, kz⟩ := I.list (hK.symm ▸ kq)
      have k := kp.isList
      rename_i xs ys
      obtain ⟨ma, mv, rfl, mq, mr⟩ := wy.lst hs
      cases (show v = Value.ref _ from rv)
      obtain ⟨mi, mw, mp, mz⟩ := I.list (hK.symm ▸ mq)
      have m := mp.isList
      simp only [eqD] at e
      have z1 : ki.toArray.size = xs.length := (by rw [List.size_toArray]; exact kw.length.symm.trans kr.length)
      have z2 : mi.toArray.size = ys.length := (by rw [List.size_toArray]; exact mw.length.symm.trans mr.length)
      split at e
      · rename_i hl
        obtain ⟨q, q1, q2⟩ := eqZ_all e
        have he : ∀ j (j1 : j < ki.toArray.size) (j2 : j < mi.toArray.size), SeqAt.EqAt A.in1 s ki.toArray[j] mi.toArray[j] (q j) := fun j j1 j2 => items_eq I hs hK kr mr kw mw ih q1 A.in1 (by show A.units + 1 + n < cLine; omega) j j1 j2
        have er : r = (List.range ki.toArray.size).all q := by rw [q2, z1, ← hl, Nat.min_self]
        rw [er]
        by_cases hll : ka = ma
        · subst hll
          rw [← er]
          have := eqD_same I hs hK (n + 1) _ _ r e0 _ (rpa) (rpb)
          rw [this]
          exact SeqAt.EqAt.same _
        · exact SeqAt.EqAt.of_refs hll (SeqAt.RcAt.lists k m (by rw [z1, z2, hl]) (by omega) he)
      · rename_i hl
        cases e
        by_cases hll : ka = ma
        · subst hll
          exact absurd (eqD_same I hs hK (n + 1) _ _ false e0 _ rpa rpb) (by decide)
        · exact SeqAt.EqAt.of_refs hll (SeqAt.RcAt.lists_lengths k m (by rw [z1, z2]; simpa using hl) (by omega))
    · obtain ⟨ka, kv, rfl, kq, kr⟩ := wx.lst hs
      cases (show u = Value.ref _ from ru)
      obtain ⟨ki, kw, kp, kz⟩ := I.list (hK.symm ▸ kq)
      have k := kp.isList
      obtain ⟨ma, mv, rfl, mq, mr⟩ := wy.tup hs
      cases (show v = Value.ref _ from rv)
      obtain ⟨mi, mw, mp, mz⟩ := I.tuple (hK.symm ▸ mq)
      have m : s.heap.IsTuple ma mi.toArray := mp
      cases e
      exact SeqAt.EqAt.list_tuple k m (by omega)
    · obtain ⟨ka, kv, rfl, kq, kr⟩ := wx.tup hs
      cases (show u = Value.ref _ from ru)
      obtain ⟨ki, kw, kp, kz⟩ := I.tuple (hK.symm ▸ kq)
      have k : s.heap.IsTuple ka ki.toArray := kp
      cases wy.non
      cases (show v = Value.none from rv)
      cases e
      exact SeqAt.EqAt.tuple_none  k (by omega)
    · obtain ⟨ka, kv, rfl, kq, kr⟩ := wx.tup hs
      cases (show u = Value.ref _ from ru)
      obtain ⟨ki, kw, kp, kz⟩ := I.tuple (hK.symm ▸ kq)
      have k : s.heap.IsTuple ka ki.toArray := kp
      cases wy.bl
      cases (show v = Value.bool _ from rv)
      cases e
      exact SeqAt.EqAt.tuple_bool _ k (by omega)
    · obtain ⟨ka, kv, rfl, kq, kr⟩ := wx.tup hs
      cases (show u = Value.ref _ from ru)
      obtain ⟨ki, kw, kp, kz⟩ := I.tuple (hK.symm ▸ kq)
      have k : s.heap.IsTuple ka ki.toArray := kp
      cases wy.int
      obtain ⟨_, rfl⟩ := rv
      cases e
      exact SeqAt.EqAt.tuple_int _ _ k (by omega)
    · obtain ⟨ka, kv, rfl, kq, kr⟩ := wx.tup hs
      cases (show u = Value.ref _ from ru)
      obtain ⟨ki, kw, kp, kz⟩ := I.tuple (hK.symm ▸ kq)
      have k : s.heap.IsTuple ka ki.toArray := kp
      cases wy.str
      obtain ⟨_, rfl⟩ := rv
      cases e
      exact SeqAt.EqAt.tuple_str _ _ k (by omega)
    · obtain ⟨ka, kv, rfl, kq, kr⟩ := wx.tup hs
      cases (show u = Value.ref _ from ru)
      obtain ⟨ki, kw, kp, kz⟩ := I.tuple (hK.symm ▸ kq)
      have k : s.heap.IsTuple ka ki.toArray := kp
      obtain ⟨ma, mv, rfl, mq, mr⟩ := wy.lst hs
      cases (show v = Value.ref _ from rv)
      obtain ⟨mi, mw, mp, mz⟩ := I.list (hK.symm ▸ mq)
      have m := mp.isList
      cases e
      exact SeqAt.EqAt.tuple_list k m (by omega)
    · obtain ⟨ka, kv, rfl, kq, kr⟩ := wx.tup hs
      cases (show u = Value.ref _ from ru)
      obtain ⟨ki, kw, kp, kz⟩ := I.tuple (hK.symm ▸ kq)
      have k : s.heap.IsTuple ka ki.toArray := kp
      obtain ⟨ma, mv, rfl, mq, mr⟩ := wy.tup hs
      cases (show v = Value.ref _ from rv)
      obtain ⟨mi, mw, mp, mz⟩ := I.tuple (hK.symm ▸ mq)
      have m : s.heap.IsTuple ma mi.toArray := mp
      rename_i xs ys
      simp only [eqD] at e
      have z1 : ki.toArray.size = xs.length := (by rw [List.size_toArray]; exact kw.length.symm.trans kr.length)
      have z2 : mi.toArray.size = ys.length := (by rw [List.size_toArray]; exact mw.length.symm.trans mr.length)
      cases e1 : eqZ (eqD n) xs ys with
      | none => rw [e1] at e; cases e
      | some c =>
        rw [e1] at e
        obtain ⟨q, q1, q2⟩ := eqZ_all e1
        have he : ∀ j (j1 : j < ki.toArray.size) (j2 : j < mi.toArray.size), SeqAt.EqAt A.in1 s ki.toArray[j] mi.toArray[j] (q j) := fun j j1 j2 => items_eq I hs hK kr mr kw mw ih q1 A.in1 (by show A.units + 1 + n < cLine; omega) j j1 j2
        have er : r = ((List.range (min ki.toArray.size mi.toArray.size)).all q && ki.toArray.size == mi.toArray.size) := by rw [z1, z2, ← q2]; exact (Option.some.inj e).symm
        rw [er]
        by_cases hll : ka = ma
        · subst hll
          rw [← er]
          rw [eqD_same I hs hK (n + 1) _ _ r e0 _ rpa rpb]
          exact SeqAt.EqAt.same _
        · exact SeqAt.EqAt.of_refs hll (SeqAt.RcAt.tuples k m (by omega) he)
theorem rcAt_D (I : L2.Inv X pins σ H s) (hs : HS g H S mu cs) (hK : X.K = g.K) {n : Nat} {a b : D} {r : Bool} (e : eqD (n + 1) a b = some r) {x y u v} {A : Around} (wx : Vw g H S mu x a) (wy : Vw g H S mu y b) (ru : RelV x u) (rv : RelV y v) (hu : A.units + (n + 1) < cLine) : SeqAt.RcAt A s u v r := by
    have ih := eqAt_D I hs hK n
    cases a <;> cases b <;> first | (simp [eqD] at e; done) | skip
    · cases wx.non
      cases (show u = Value.none from ru)
      cases wy.non
      cases (show v = Value.none from rv)
      cases e
      exact SeqAt.RcAt.none_none
    · cases wx.non
      cases (show u = Value.none from ru)
      cases wy.bl
      cases (show v = Value.bool _ from rv)
      cases e
      exact SeqAt.RcAt.none_bool _
    · cases wx.non
      cases (show u = Value.none from ru)
      cases wy.int
      obtain ⟨_, rfl⟩ := rv
      cases e
      exact SeqAt.RcAt.none_int _ _
    · cases wx.non
      cases (show u = Value.none from ru)
      cases wy.str
      obtain ⟨_, rfl⟩ := rv
      cases e
      exact SeqAt.RcAt.none_str _ _
    · cases wx.non
      cases (show u = Value.none from ru)
      obtain ⟨ma, mv, rfl, mq, mr⟩ := wy.lst hs
      cases (show v = Value.ref _ from rv)
      obtain ⟨mi, mw, mp, mz⟩ := I.list (hK.symm ▸ mq)
      have m := mp.isList
      cases e
      exact SeqAt.RcAt.none_list  m (by omega)
    · cases wx.non
      cases (show u = Value.none from ru)
      obtain ⟨ma, mv, rfl, mq, mr⟩ := wy.tup hs
      cases (show v = Value.ref _ from rv)
      obtain ⟨mi, mw, mp, mz⟩ := I.tuple (hK.symm ▸ mq)
      have m : s.heap.IsTuple ma mi.toArray := mp
      cases e
      exact SeqAt.RcAt.none_tuple  m (by omega)
    · cases wx.bl
      cases (show u = Value.bool _ from ru)
      cases wy.non
      cases (show v = Value.none from rv)
      cases e
      exact SeqAt.RcAt.bool_none _
    · cases wx.bl
      cases (show u = Value.bool _ from ru)
      cases wy.bl
      cases (show v = Value.bool _ from rv)
      cases e
      exact SeqAt.RcAt.bool_bool _ _
    · cases wx.bl
      cases (show u = Value.bool _ from ru)
      cases wy.int
      obtain ⟨_, rfl⟩ := rv
      cases e
      exact SeqAt.RcAt.bool_int _ _ _
    · cases wx.bl
      cases (show u = Value.bool _ from ru)
      cases wy.str
      obtain ⟨_, rfl⟩ := rv
      cases e
      exact SeqAt.RcAt.bool_str _ _ _
    · cases wx.bl
      cases (show u = Value.bool _ from ru)
      obtain ⟨ma, mv, rfl, mq, mr⟩ := wy.lst hs
      cases (show v = Value.ref _ from rv)
      obtain ⟨mi, mw, mp, mz⟩ := I.list (hK.symm ▸ mq)
      have m := mp.isList
      cases e
      exact SeqAt.RcAt.bool_list _ m (by omega)
    · cases wx.bl
      cases (show u = Value.bool _ from ru)
      obtain ⟨ma, mv, rfl, mq, mr⟩ := wy.tup hs
      cases (show v = Value.ref _ from rv)
      obtain ⟨mi, mw, mp, mz⟩ := I.tuple (hK.symm ▸ mq)
      have m : s.heap.IsTuple ma mi.toArray := mp
      cases e
      exact SeqAt.RcAt.bool_tuple _ m (by omega)
    · cases wx.int
      obtain ⟨_, rfl⟩ := ru
      cases wy.non
      cases (show v = Value.none from rv)
      cases e
      exact SeqAt.RcAt.int_none _ _
    · cases wx.int
      obtain ⟨_, rfl⟩ := ru
      cases wy.bl
      cases (show v = Value.bool _ from rv)
      cases e
      exact SeqAt.RcAt.int_bool _ _ _
    · cases wx.int
      obtain ⟨_, rfl⟩ := ru
      cases wy.int
      obtain ⟨_, rfl⟩ := rv
      cases e
      exact SeqAt.RcAt.int_int _ _ _ _
    · cases wx.int
      obtain ⟨_, rfl⟩ := ru
      cases wy.str
      obtain ⟨_, rfl⟩ := rv
      cases e
      exact SeqAt.RcAt.int_str _ _ _ _
    · cases wx.int
      obtain ⟨_, rfl⟩ := ru
      obtain ⟨ma, mv, rfl, mq, mr⟩ := wy.lst hs
      cases (show v = Value.ref _ from rv)
      obtain ⟨mi, mw, mp, mz⟩ := I.list (hK.symm ▸ mq)
      have m := mp.isList
      cases e
      exact SeqAt.RcAt.int_list _ _ m (by omega)
    · cases wx.int
      obtain ⟨_, rfl⟩ := ru
      obtain ⟨ma, mv, rfl, mq, mr⟩ := wy.tup hs
      cases (show v = Value.ref _ from rv)
      obtain ⟨mi, mw, mp, mz⟩ := I.tuple (hK.symm ▸ mq)
      have m : s.heap.IsTuple ma mi.toArray := mp
      cases e
      exact SeqAt.RcAt.int_tuple _ _ m (by omega)
    · cases wx.str
      obtain ⟨_, rfl⟩ := ru
      cases wy.non
      cases (show v = Value.none from rv)
      cases e
      exact SeqAt.RcAt.str_none _ _
    · cases wx.str
      obtain ⟨_, rfl⟩ := ru
      cases wy.bl
      cases (show v = Value.bool _ from rv)
      cases e
      exact SeqAt.RcAt.str_bool _ _ _
    · cases wx.str
      obtain ⟨_, rfl⟩ := ru
      cases wy.int
      obtain ⟨_, rfl⟩ := rv
      cases e
      exact SeqAt.RcAt.str_int _ _ _ _
    · cases wx.str
      obtain ⟨_, rfl⟩ := ru
      cases wy.str
      obtain ⟨_, rfl⟩ := rv
      cases e
      exact SeqAt.RcAt.str_str _ _ _ _
    · cases wx.str
      obtain ⟨_, rfl⟩ := ru
      obtain ⟨ma, mv, rfl, mq, mr⟩ := wy.lst hs
      cases (show v = Value.ref _ from rv)
      obtain ⟨mi, mw, mp, mz⟩ := I.list (hK.symm ▸ mq)
      have m := mp.isList
      cases e
      exact SeqAt.RcAt.str_list _ _ m (by omega)
    · cases wx.str
      obtain ⟨_, rfl⟩ := ru
      obtain ⟨ma, mv, rfl, mq, mr⟩ := wy.tup hs
      cases (show v = Value.ref _ from rv)
      obtain ⟨mi, mw, mp, mz⟩ := I.tuple (hK.symm ▸ mq)
      have m : s.heap.IsTuple ma mi.toArray := mp
      cases e
      exact SeqAt.RcAt.str_tuple _ _ m (by omega)
    · obtain ⟨ka, kv, rfl, kq, kr⟩ := wx.lst hs
      cases (show u = Value.ref _ from ru)
      obtain ⟨ki, kw, kp, kz⟩ := I.list (hK.symm ▸ kq)
      have k := kp.isList
      cases wy.non
      cases (show v = Value.none from rv)
      cases e
      exact SeqAt.RcAt.list_none  k (by omega)
    · obtain ⟨ka, kv, rfl, kq, kr⟩ := wx.lst hs
      cases (show u = Value.ref _ from ru)
      obtain ⟨ki, kw, kp, kz⟩ := I.list (hK.symm ▸ kq)
      have k := kp.isList
      cases wy.bl
      cases (show v = Value.bool _ from rv)
      cases e
      exact SeqAt.RcAt.list_bool _ k (by omega)
    · obtain ⟨ka, kv, rfl, kq, kr⟩ := wx.lst hs
      cases (show u = Value.ref _ from ru)
      obtain ⟨ki, kw, kp, kz⟩ := I.list (hK.symm ▸ kq)
      have k := kp.isList
      cases wy.int
      obtain ⟨_, rfl⟩ := rv
      cases e
      exact SeqAt.RcAt.list_int _ _ k (by omega)
    · obtain ⟨ka, kv, rfl, kq, kr⟩ := wx.lst hs
      cases (show u = Value.ref _ from ru)
      obtain ⟨ki, kw, kp, kz⟩ := I.list (hK.symm ▸ kq)
      have k := kp.isList
      cases wy.str
      obtain ⟨_, rfl⟩ := rv
      cases e
      exact SeqAt.RcAt.list_str _ _ k (by omega)
    · obtain ⟨ka, kv, rfl, kq, kr⟩ := wx.lst hs
      cases (show u = Value.ref _ from ru)
      obtain ⟨ki, kw, kp, kz⟩ := I.list (hK.symm ▸ kq)
      have k := kp.isList
      rename_i xs ys
      obtain ⟨ma, mv, rfl, mq, mr⟩ := wy.lst hs
      cases (show v = Value.ref _ from rv)
      obtain ⟨mi, mw, mp, mz⟩ := I.list (hK.symm ▸ mq)
      have m := mp.isList
      simp only [eqD] at e
      have z1 : ki.toArray.size = xs.length := (by rw [List.size_toArray]; exact kw.length.symm.trans kr.length)
      have z2 : mi.toArray.size = ys.length := (by rw [List.size_toArray]; exact mw.length.symm.trans mr.length)
      split at e
      · rename_i hl
        obtain ⟨q, q1, q2⟩ := eqZ_all e
        have he : ∀ j (j1 : j < ki.toArray.size) (j2 : j < mi.toArray.size), SeqAt.EqAt A.in1 s ki.toArray[j] mi.toArray[j] (q j) := fun j j1 j2 => items_eq I hs hK kr mr kw mw ih q1 A.in1 (by show A.units + 1 + n < cLine; omega) j j1 j2
        have er : r = (List.range ki.toArray.size).all q := by rw [q2, z1, ← hl, Nat.min_self]
        rw [er]
        exact SeqAt.RcAt.lists k m (by rw [z1, z2, hl]) (by omega) he
      · rename_i hl
        cases e
        exact SeqAt.RcAt.lists_lengths k m (by rw [z1, z2]; simpa using hl) (by omega)
    · obtain ⟨ka, kv, rfl, kq, kr⟩ := wx.lst hs
      cases (show u = Value.ref _ from ru)
      obtain ⟨ki, kw, kp, kz⟩ := I.list (hK.symm ▸ kq)
      have k := kp.isList
      obtain ⟨ma, mv, rfl, mq, mr⟩ := wy.tup hs
      cases (show v = Value.ref _ from rv)
      obtain ⟨mi, mw, mp, mz⟩ := I.tuple (hK.symm ▸ mq)
      have m : s.heap.IsTuple ma mi.toArray := mp
      cases e
      exact SeqAt.RcAt.list_tuple k m (by omega)
    · obtain ⟨ka, kv, rfl, kq, kr⟩ := wx.tup hs
      cases (show u = Value.ref _ from ru)
      obtain ⟨ki, kw, kp, kz⟩ := I.tuple (hK.symm ▸ kq)
      have k : s.heap.IsTuple ka ki.toArray := kp
      cases wy.non
      cases (show v = Value.none from rv)
      cases e
      exact SeqAt.RcAt.tuple_none  k (by omega)
    · obtain ⟨ka, kv, rfl, kq, kr⟩ := wx.tup hs
      cases (show u = Value.ref _ from ru)
      obtain ⟨ki, kw, kp, kz⟩ := I.tuple (hK.symm ▸ kq)
      have k : s.heap.IsTuple ka ki.toArray := kp
      cases wy.bl
      cases (show v = Value.bool _ from rv)
      cases e
      exact SeqAt.RcAt.tuple_bool _ k (by omega)
    · obtain ⟨ka, kv, rfl, kq, kr⟩ := wx.tup hs
      cases (show u = Value.ref _ from ru)
      obtain ⟨ki, kw, kp, kz⟩ := I.tuple (hK.symm ▸ kq)
      have k : s.heap.IsTuple ka ki.toArray := kp
      cases wy.int
      obtain ⟨_, rfl⟩ := rv
      cases e
      exact SeqAt.RcAt.tuple_int _ _ k (by omega)
    · obtain ⟨ka, kv, rfl, kq, kr⟩ := wx.tup hs
      cases (show u = Value.ref _ from ru)
      obtain ⟨ki, kw, kp, kz⟩ := I.tuple (hK.symm ▸ kq)
      have k : s.heap.IsTuple ka ki.toArray := kp
      cases wy.str
      obtain ⟨_, rfl⟩ := rv
      cases e
      exact SeqAt.RcAt.tuple_str _ _ k (by omega)
    · obtain ⟨ka, kv, rfl, kq, kr⟩ := wx.tup hs
      cases (show u = Value.ref _ from ru)
      obtain ⟨ki, kw, kp, kz⟩ := I.tuple (hK.symm ▸ kq)
      have k : s.heap.IsTuple ka ki.toArray := kp
      obtain ⟨ma, mv, rfl, mq, mr⟩ := wy.lst hs
      cases (show v = Value.ref _ from rv)
      obtain ⟨mi, mw, mp, mz⟩ := I.list (hK.symm ▸ mq)
      have m := mp.isList
      cases e
      exact SeqAt.RcAt.tuple_list k m (by omega)
    · obtain ⟨ka, kv, rfl, kq, kr⟩ := wx.tup hs
      cases (show u = Value.ref _ from ru)
      obtain ⟨ki, kw, kp, kz⟩ := I.tuple (hK.symm ▸ kq)
      have k : s.heap.IsTuple ka ki.toArray := kp
      obtain ⟨ma, mv, rfl, mq, mr⟩ := wy.tup hs
      cases (show v = Value.ref _ from rv)
      obtain ⟨mi, mw, mp, mz⟩ := I.tuple (hK.symm ▸ mq)
      have m : s.heap.IsTuple ma mi.toArray := mp
      rename_i xs ys
      simp only [eqD] at e
      have z1 : ki.toArray.size = xs.length := (by rw [List.size_toArray]; exact kw.length.symm.trans kr.length)
      have z2 : mi.toArray.size = ys.length := (by rw [List.size_toArray]; exact mw.length.symm.trans mr.length)
      cases e1 : eqZ (eqD n) xs ys with
      | none => rw [e1] at e; cases e
      | some c =>
        rw [e1] at e
        obtain ⟨q, q1, q2⟩ := eqZ_all e1
        have he : ∀ j (j1 : j < ki.toArray.size) (j2 : j < mi.toArray.size), SeqAt.EqAt A.in1 s ki.toArray[j] mi.toArray[j] (q j) := fun j j1 j2 => items_eq I hs hK kr mr kw mw ih q1 A.in1 (by show A.units + 1 + n < cLine; omega) j j1 j2
        have er : r = ((List.range (min ki.toArray.size mi.toArray.size)).all q && ki.toArray.size == mi.toArray.size) := by rw [z1, z2, ← q2]; exact (Option.some.inj e).symm
        rw [er]
        exact SeqAt.RcAt.tuples k m (by omega) he
theorem rcNeAt_D (I : L2.Inv X pins σ H s) (hs : HS g H S mu cs) (hK : X.K = g.K) {n : Nat} {a b : D} {r : Bool} (e : eqD (n + 1) a b = some r) {x y u v} {A : Around} (wx : Vw g H S mu x a) (wy : Vw g H S mu y b) (ru : RelV x u) (rv : RelV y v) (hu : A.units + (n + 1) < cLine) : SeqAt.RcNeAt A s u v (!r) := by
    have ih := eqAt_D I hs hK n
    cases a <;> cases b <;> first | (simp [eqD] at e; done) | skip
    · cases wx.non
      cases (show u = Value.none from ru)
      cases wy.non
      cases (show v = Value.none from rv)
      cases e
      exact SeqAt.RcNeAt.none_none
    · cases wx.non
      cases (show u = Value.none from ru)
      cases wy.bl
      cases (show v = Value.bool _ from rv)
      cases e
      exact SeqAt.RcNeAt.none_bool _
    · cases wx.non
      cases (show u = Value.none from ru)
      cases wy.int
      obtain ⟨_, rfl⟩ := rv
      cases e
      exact SeqAt.RcNeAt.none_int _ _
    · cases wx.non
      cases (show u = Value.none from ru)
      cases wy.str
      obtain ⟨_, rfl⟩ := rv
      cases e
      exact SeqAt.RcNeAt.none_str _ _
    · cases wx.non
      cases (show u = Value.none from ru)
      obtain ⟨ma, mv, rfl, mq, mr⟩ := wy.lst hs
      cases (show v = Value.ref _ from rv)
      obtain ⟨mi, mw, mp, mz⟩ := I.list (hK.symm ▸ mq)
      have m := mp.isList
      cases e
      exact SeqAt.RcNeAt.none_list  m (by omega)
    · cases wx.non
      cases (show u = Value.none from ru)
      obtain ⟨ma, mv, rfl, mq, mr⟩ := wy.tup hs
      cases (show v = Value.ref _ from rv)
      obtain ⟨mi, mw, mp, mz⟩ := I.tuple (hK.symm ▸ mq)
      have m : s.heap.IsTuple ma mi.toArray := mp
      cases e
      exact SeqAt.RcNeAt.none_tuple  m (by omega)
    · cases wx.bl
      cases (show u = Value.bool _ from ru)
      cases wy.non
      cases (show v = Value.none from rv)
      cases e
      exact SeqAt.RcNeAt.bool_none _
    · cases wx.bl
      cases (show u = Value.bool _ from ru)
      cases wy.bl
      cases (show v = Value.bool _ from rv)
      cases e
      exact SeqAt.RcNeAt.bool_bool _ _
    · cases wx.bl
      cases (show u = Value.bool _ from ru)
      cases wy.int
      obtain ⟨_, rfl⟩ := rv
      cases e
      exact SeqAt.RcNeAt.bool_int _ _ _
    · cases wx.bl
      cases (show u = Value.bool _ from ru)
      cases wy.str
      obtain ⟨_, rfl⟩ := rv
      cases e
      exact SeqAt.RcNeAt.bool_str _ _ _
    · cases wx.bl
      cases (show u = Value.bool _ from ru)
      obtain ⟨ma, mv, rfl, mq, mr⟩ := wy.lst hs
      cases (show v = Value.ref _ from rv)
      obtain ⟨mi, mw, mp, mz⟩ := I.list (hK.symm ▸ mq)
      have m := mp.isList
      cases e
      exact SeqAt.RcNeAt.bool_list _ m (by omega)
    · cases wx.bl
      cases (show u = Value.bool _ from ru)
      obtain ⟨ma, mv, rfl, mq, mr⟩ := wy.tup hs
      cases (show v = Value.ref _ from rv)
      obtain ⟨mi, mw, mp, mz⟩ := I.tuple (hK.symm ▸ mq)
      have m : s.heap.IsTuple ma mi.toArray := mp
      cases e
      exact SeqAt.RcNeAt.bool_tuple _ m (by omega)
    · cases wx.int
      obtain ⟨_, rfl⟩ := ru
      cases wy.non
      cases (show v = Value.none from rv)
      cases e
      exact SeqAt.RcNeAt.int_none _ _
    · cases wx.int
      obtain ⟨_, rfl⟩ := ru
      cases wy.bl
      cases (show v = Value.bool _ from rv)
      cases e
      exact SeqAt.RcNeAt.int_bool _ _ _
    · cases wx.int
      obtain ⟨_, rfl⟩ := ru
      cases wy.int
      obtain ⟨_, rfl⟩ := rv
      cases e
      exact SeqAt.RcNeAt.int_int _ _ _ _
    · cases wx.int
      obtain ⟨_, rfl⟩ := ru
      cases wy.str
      obtain ⟨_, rfl⟩ := rv
      cases e
      exact SeqAt.RcNeAt.int_str _ _ _ _
    · cases wx.int
      obtain ⟨_, rfl⟩ := ru
      obtain ⟨ma, mv, rfl, mq, mr⟩ := wy.lst hs
      cases (show v = Value.ref _ from rv)
      obtain ⟨mi, mw, mp, mz⟩ := I.list (hK.symm ▸ mq)
      have m := mp.isList
      cases e
      exact SeqAt.RcNeAt.int_list _ _ m (by omega)
    · cases wx.int
      obtain ⟨_, rfl⟩ := ru
      obtain ⟨ma, mv, rfl, mq, mr⟩ := wy.tup hs
      cases (show v = Value.ref _ from rv)
      obtain ⟨mi, mw, mp, mz⟩ := I.tuple (hK.symm ▸ mq)
      have m : s.heap.IsTuple ma mi.toArray := mp
      cases e
      exact SeqAt.RcNeAt.int_tuple _ _ m (by omega)
    · cases wx.str
      obtain ⟨_, rfl⟩ := ru
      cases wy.non
      cases (show v = Value.none from rv)
      cases e
      exact SeqAt.RcNeAt.str_none _ _
    · cases wx.str
      obtain ⟨_, rfl⟩ := ru
      cases wy.bl
      cases (show v = Value.bool _ from rv)
      cases e
      exact SeqAt.RcNeAt.str_bool _ _ _
    · cases wx.str
      obtain ⟨_, rfl⟩ := ru
      cases wy.int
      obtain ⟨_, rfl⟩ := rv
      cases e
      exact SeqAt.RcNeAt.str_int _ _ _ _
    · cases wx.str
      obtain ⟨_, rfl⟩ := ru
      cases wy.str
      obtain ⟨_, rfl⟩ := rv
      cases e
      exact SeqAt.RcNeAt.str_str _ _ _ _
    · cases wx.str
      obtain ⟨_, rfl⟩ := ru
      obtain ⟨ma, mv, rfl, mq, mr⟩ := wy.lst hs
      cases (show v = Value.ref _ from rv)
      obtain ⟨mi, mw, mp, mz⟩ := I.list (hK.symm ▸ mq)
      have m := mp.isList
      cases e
      exact SeqAt.RcNeAt.str_list _ _ m (by omega)
    · cases wx.str
      obtain ⟨_, rfl⟩ := ru
      obtain ⟨ma, mv, rfl, mq, mr⟩ := wy.tup hs
      cases (show v = Value.ref _ from rv)
      obtain ⟨mi, mw, mp, mz⟩ := I.tuple (hK.symm ▸ mq)
      have m : s.heap.IsTuple ma mi.toArray := mp
      cases e
      exact SeqAt.RcNeAt.str_tuple _ _ m (by omega)
    · obtain ⟨ka, kv, rfl, kq, kr⟩ := wx.lst hs
      cases (show u = Value.ref _ from ru)
      obtain ⟨ki, kw, kp, kz⟩ := I.list (hK.symm ▸ kq)
      have k := kp.isList
      cases wy.non
      cases (show v = Value.none from rv)
      cases e
      exact SeqAt.RcNeAt.list_none  k (by omega)
    · obtain ⟨ka, kv, rfl, kq, kr⟩ := wx.lst hs
      cases (show u = Value.ref _ from ru)
      obtain ⟨ki, kw, kp, kz⟩ := I.list (hK.symm ▸ kq)
      have k := kp.isList
      cases wy.bl
      cases (show v = Value.bool _ from rv)
      cases e
      exact SeqAt.RcNeAt.list_bool _ k (by omega)
    · obtain ⟨ka, kv, rfl, kq, kr⟩ := wx.lst hs
      cases (show u = Value.ref _ from ru)
      obtain ⟨ki, kw, kp, kz⟩ := I.list (hK.symm ▸ kq)
      have k := kp.isList
      cases wy.int
      obtain ⟨_, rfl⟩ := rv
      cases e
      exact SeqAt.RcNeAt.list_int _ _ k (by omega)
    · obtain ⟨ka, kv, rfl, kq, kr⟩ := wx.lst hs
      cases (show u = Value.ref _ from ru)
      obtain ⟨ki, kw, kp, kz⟩ := I.list (hK.symm ▸ kq)
      have k := kp.isList
      cases wy.str
      obtain ⟨_, rfl⟩ := rv
      cases e
      exact SeqAt.RcNeAt.list_str _ _ k (by omega)
    · obtain ⟨ka, kv, rfl, kq, kr⟩ := wx.lst hs
      cases (show u = Value.ref _ from ru)
      obtain ⟨ki, kw, kp, kz⟩ := I.list (hK.symm ▸ kq)
      have k := kp.isList
      rename_i xs ys
      obtain ⟨ma, mv, rfl, mq, mr⟩ := wy.lst hs
      cases (show v = Value.ref _ from rv)
      obtain ⟨mi, mw, mp, mz⟩ := I.list (hK.symm ▸ mq)
      have m := mp.isList
      simp only [eqD] at e
      have z1 : ki.toArray.size = xs.length := (by rw [List.size_toArray]; exact kw.length.symm.trans kr.length)
      have z2 : mi.toArray.size = ys.length := (by rw [List.size_toArray]; exact mw.length.symm.trans mr.length)
      split at e
      · rename_i hl
        obtain ⟨q, q1, q2⟩ := eqZ_all e
        have he : ∀ j (j1 : j < ki.toArray.size) (j2 : j < mi.toArray.size), SeqAt.EqAt A.in1 s ki.toArray[j] mi.toArray[j] (q j) := fun j j1 j2 => items_eq I hs hK kr mr kw mw ih q1 A.in1 (by show A.units + 1 + n < cLine; omega) j j1 j2
        have er : r = (List.range ki.toArray.size).all q := by rw [q2, z1, ← hl, Nat.min_self]
        rw [er]
        exact SeqAt.RcNeAt.lists k m (by rw [z1, z2, hl]) (by omega) he
      · rename_i hl
        cases e
        exact SeqAt.RcNeAt.lists_lengths k m (by rw [z1, z2]; simpa using hl) (by omega)
    · obtain ⟨ka, kv, rfl, kq, kr⟩ := wx.lst hs
      cases (show u = Value.ref _ from ru)
      obtain ⟨ki, kw, kp, kz⟩ := I.list (hK.symm ▸ kq)
      have k := kp.isList
      obtain ⟨ma, mv, rfl, mq, mr⟩ := wy.tup hs
      cases (show v = Value.ref _ from rv)
      obtain ⟨mi, mw, mp, mz⟩ := I.tuple (hK.symm ▸ mq)
      have m : s.heap.IsTuple ma mi.toArray := mp
      cases e
      exact SeqAt.RcNeAt.list_tuple k m (by omega)
    · obtain ⟨ka, kv, rfl, kq, kr⟩ := wx.tup hs
      cases (show u = Value.ref _ from ru)
      obtain ⟨ki, kw, kp, kz⟩ := I.tuple (hK.symm ▸ kq)
      have k : s.heap.IsTuple ka ki.toArray := kp
      cases wy.non
      cases (show v = Value.none from rv)
      cases e
      exact SeqAt.RcNeAt.tuple_none  k (by omega)
    · obtain ⟨ka, kv, rfl, kq, kr⟩ := wx.tup hs
      cases (show u = Value.ref _ from ru)
      obtain ⟨ki, kw, kp, kz⟩ := I.tuple (hK.symm ▸ kq)
      have k : s.heap.IsTuple ka ki.toArray := kp
      cases wy.bl
      cases (show v = Value.bool _ from rv)
      cases e
      exact SeqAt.RcNeAt.tuple_bool _ k (by omega)
    · obtain ⟨ka, kv, rfl, kq, kr⟩ := wx.tup hs
      cases (show u = Value.ref _ from ru)
      obtain ⟨ki, kw, kp, kz⟩ := I.tuple (hK.symm ▸ kq)
      have k : s.heap.IsTuple ka ki.toArray := kp
      cases wy.int
      obtain ⟨_, rfl⟩ := rv
      cases e
      exact SeqAt.RcNeAt.tuple_int _ _ k (by omega)
    · obtain ⟨ka, kv, rfl, kq, kr⟩ := wx.tup hs
      cases (show u = Value.ref _ from ru)
      obtain ⟨ki, kw, kp, kz⟩ := I.tuple (hK.symm ▸ kq)
      have k : s.heap.IsTuple ka ki.toArray := kp
      cases wy.str
      obtain ⟨_, rfl⟩ := rv
      cases e
      exact SeqAt.RcNeAt.tuple_str _ _ k (by omega)
    · obtain ⟨ka, kv, rfl, kq, kr⟩ := wx.tup hs
      cases (show u = Value.ref _ from ru)
      obtain ⟨ki, kw, kp, kz⟩ := I.tuple (hK.symm ▸ kq)
      have k : s.heap.IsTuple ka ki.toArray := kp
      obtain ⟨ma, mv, rfl, mq, mr⟩ := wy.lst hs
      cases (show v = Value.ref _ from rv)
      obtain ⟨mi, mw, mp, mz⟩ := I.list (hK.symm ▸ mq)
      have m := mp.isList
      cases e
      exact SeqAt.RcNeAt.tuple_list k m (by omega)
    · obtain ⟨ka, kv, rfl, kq, kr⟩ := wx.tup hs
      cases (show u = Value.ref _ from ru)
      obtain ⟨ki, kw, kp, kz⟩ := I.tuple (hK.symm ▸ kq)
      have k : s.heap.IsTuple ka ki.toArray := kp
      obtain ⟨ma, mv, rfl, mq, mr⟩ := wy.tup hs
      cases (show v = Value.ref _ from rv)
      obtain ⟨mi, mw, mp, mz⟩ := I.tuple (hK.symm ▸ mq)
      have m : s.heap.IsTuple ma mi.toArray := mp
      rename_i xs ys
      simp only [eqD] at e
      have z1 : ki.toArray.size = xs.length := (by rw [List.size_toArray]; exact kw.length.symm.trans kr.length)
      have z2 : mi.toArray.size = ys.length := (by rw [List.size_toArray]; exact mw.length.symm.trans mr.length)
      cases e1 : eqZ (eqD n) xs ys with
      | none => rw [e1] at e; cases e
      | some c =>
        rw [e1] at e
        obtain ⟨q, q1, q2⟩ := eqZ_all e1
        have he : ∀ j (j1 : j < ki.toArray.size) (j2 : j < mi.toArray.size), SeqAt.EqAt A.in1 s ki.toArray[j] mi.toArray[j] (q j) := fun j j1 j2 => items_eq I hs hK kr mr kw mw ih q1 A.in1 (by show A.units + 1 + n < cLine; omega) j j1 j2
        have er : r = ((List.range (min ki.toArray.size mi.toArray.size)).all q && ki.toArray.size == mi.toArray.size) := by rw [z1, z2, ← q2]; exact (Option.some.inj e).symm
        rw [er]
        exact SeqAt.RcNeAt.tuples k m (by omega) he
end

/-- room for == -/
abbrev eqFuel : Nat := 60
@[simp] def opEq : F2 := fun a b => (eqD eqFuel a b).map fun r => (.bl r, false)
@[simp] def opNe : F2 := fun a b => (eqD eqFuel a b).map fun r => (.bl (!r), false)
def rEqG (g : Glob) (n : Bool) : R2 := fun x y H Q => ∃ S mu cs a b r, HS g H S mu cs ∧ Vw g H S mu x a ∧ Vw g H S mu y b ∧ eqD eqFuel a b = some r ∧ Q (.bl (n != r)) H
section
variable {g : Glob}
theorem op_eqG {X : Cx} (hK : X.K = g.K) (hu : X.A.units + 64 < cLine) : OpR X (compareOp .Eq) (rEqG g false) := by
  intro pins s σ H x y v u Q I rx ry ⟨S, mu, cs, a, b, r, hs, va, vb, e, q⟩
  exact rcAt_D I hs hK e va vb rx ry (by omega) X.prog X.w _ _ ⟨.bl r, H, I, rfl, by simpa using q⟩
theorem v_eqG : OpV g opEq (rEqG g false) := fun H S mu cs v w a b x Q hs va vb e k => by
  unfold opEq at e
  cases e1 : eqD eqFuel a b with
  | none => rw [e1] at e; cases e
  | some r =>
    rw [e1] at e
    cases e
    exact ⟨S, mu, cs, a, b, r, hs, va, vb, e1, by simpa using k _ _ _ (.val (.bl r))⟩
theorem s_eq : OpS g (compareOp .Eq) opEq := fun X hK hu => ⟨_, op_eqG hK hu, v_eqG⟩
theorem op_neG {X : Cx} (hK : X.K = g.K) (hu : X.A.units + 64 < cLine) : OpR X (compareOp .NotEq) (rEqG g true) := by
  intro pins s σ H x y v u Q I rx ry ⟨S, mu, cs, a, b, r, hs, va, vb, e, q⟩
  exact rcNeAt_D I hs hK e va vb rx ry (by omega) X.prog X.w _ _ ⟨.bl (!r), H, I, rfl, by simpa using q⟩
theorem v_neG : OpV g opNe (rEqG g true) := fun H S mu cs v w a b x Q hs va vb e k => by
  unfold opNe at e
  cases e1 : eqD eqFuel a b with
  | none => rw [e1] at e; cases e
  | some r =>
    rw [e1] at e
    cases e
    exact ⟨S, mu, cs, a, b, r, hs, va, vb, e1, by simpa using k _ _ _ (.val (.bl (!r)))⟩
theorem s_ne : OpS g (compareOp .NotEq) opNe := fun X hK hu => ⟨_, op_neG hK hu, v_neG⟩
end
end EL
namespace EL
open PySem PySem.Spec L2

/-! ### in, not in -/
def inL (d : D) : List D → Option Bool
  | [] => some false
  | x :: xs => match eqD eqFuel x d with
    | some a => (inL d xs).map fun b => a || b
    | none => none
def inS (x y : Str) : Bool := !(Builtin.Str.occurrences y x 0 y.length 1).isEmpty
@[simp] def opIn (n : Bool) : F2
  | .str x, .str y => some (.bl (n != inS x y), false)
  | d, .lst ds => (inL d ds).map fun r => (.bl (n != r), false)
  | d, .tup ds => (inL d ds).map fun r => (.bl (n != r), false)
  | _, _ => none
theorem inL_all {d : D} : ∀ {xs : List D} {r : Bool}, inL d xs = some r → (∀ x ∈ xs, ∃ b, eqD eqFuel x d = some b) ∧ (r = true ↔ ∃ x ∈ xs, eqD eqFuel x d = some true)
  | [], r, e => by cases e; simp
  | x :: xs, r, e => by
    unfold inL at e
    cases e1 : eqD eqFuel x d with
    | none => rw [e1] at e; cases e
    | some a =>
      rw [e1] at e
      cases e2 : inL d xs with
      | none => rw [e2] at e; cases e
      | some b =>
        rw [e2] at e
        cases e
        obtain ⟨h1, h2⟩ := inL_all e2
        refine ⟨fun y hy => ?_, ?_⟩
        · rcases List.mem_cons.mp hy with rfl | hy
          · exact ⟨a, e1⟩
          · exact h1 y hy
        · constructor
          · intro h
            cases a with
            | true => exact ⟨x, List.mem_cons_self, e1⟩
            | false =>
              obtain ⟨y, hy, q⟩ := h2.mp (by simpa using h)
              exact ⟨y, List.mem_cons_of_mem _ hy, q⟩
          · rintro ⟨y, hy, q⟩
            rcases List.mem_cons.mp hy with rfl | hy
            · rw [e1] at q
              cases q
              rfl
            · have hb := h2.mpr ⟨y, hy, q⟩
              show (a || b) = true
              rw [hb, Bool.or_true]
section
variable {g : Glob} {X : Cx} {pins : List (Addr × Obj)} {σ : SS} {H S : Hp} {s : Shared} {mu : List Addr} {cs : Cells}
/-- whether an item's object stands for one that is equal -/
theorem in_core (I : L2.Inv X pins σ H s) (hs : HS g H S mu cs) (hK : X.K = g.K) {xs : List D} {vs : List V} {is : List Value} {d : D} {v : V} {u : Value} {r : Bool} (r1 : RpL g S mu vs xs) (v1 : Vals vs is) (rd : Rp g S mu v d) (ru : RelV v u) (e : inL d xs = some r) {A : Around} (hu : A.units + eqFuel < cLine) :
    ∃ f : Value → Bool, (∀ y ∈ is, SeqAt.EqAt A s y u (f y)) ∧ is.any f = r := by
  classical
  obtain ⟨h1, h2⟩ := inL_all e
  have at_ : ∀ y ∈ is, ∃ x w, x ∈ xs ∧ Rp g S mu w x ∧ RelV w y := fun y hy => by
    obtain ⟨j, hj⟩ := List.mem_iff_getElem?.mp hy
    have hl : j < vs.length := by rw [v1.length]; exact (List.getElem?_eq_some_iff.mp hj).1
    obtain ⟨x, hx, rx⟩ := r1.getV (List.getElem?_eq_getElem hl)
    obtain ⟨y', hy', ry⟩ := v1.get (List.getElem?_eq_getElem hl)
    rw [hj] at hy'
    cases hy'
    exact ⟨x, _, List.mem_of_getElem? hx, rx, ry⟩
  refine ⟨fun y => decide (∃ x w, x ∈ xs ∧ Rp g S mu w x ∧ RelV w y ∧ eqD eqFuel x d = some true), fun y hy => ?_, ?_⟩
  · by_cases hc : ∃ x w, x ∈ xs ∧ Rp g S mu w x ∧ RelV w y ∧ eqD eqFuel x d = some true
    · show SeqAt.EqAt A s y u (decide (∃ x w, x ∈ xs ∧ Rp g S mu w x ∧ RelV w y ∧ eqD eqFuel x d = some true))
      rw [decide_eq_true hc]
      obtain ⟨x, w, _, rx, rw', ex⟩ := hc
      exact eqAt_D I hs hK _ x d true ex w v y u A rx rd rw' ru hu
    · show SeqAt.EqAt A s y u (decide (∃ x w, x ∈ xs ∧ Rp g S mu w x ∧ RelV w y ∧ eqD eqFuel x d = some true))
      rw [decide_eq_false hc]
      obtain ⟨x, w, hx, rx, rw'⟩ := at_ y hy
      obtain ⟨b, hb⟩ := h1 x hx
      cases b with
      | true => exact (hc ⟨x, w, hx, rx, rw', hb⟩).elim
      | false => exact eqAt_D I hs hK _ x d false hb w v y u A rx rd rw' ru hu
  · rw [Bool.eq_iff_iff, h2, List.any_eq_true]
    constructor
    · rintro ⟨y, hy, hc⟩
      obtain ⟨x, w, hx, _, _, ex⟩ := of_decide_eq_true hc
      exact ⟨x, hx, ex⟩
    · rintro ⟨x, hx, ex⟩
      obtain ⟨j, hj⟩ := List.mem_iff_getElem?.mp hx
      obtain ⟨w, hw, rx⟩ := r1.get hj
      obtain ⟨y, hy, ry⟩ := v1.get hw
      exact ⟨y, List.mem_of_getElem? hy, decide_eq_true ⟨x, w, hx, rx, ry, ex⟩⟩
end
def rInG (g : Glob) (n : Bool) : R2 := fun x y H Q => ∃ S mu cs d ds r, HS g H S mu cs ∧ Rp g S mu x d ∧ (Vw g H S mu y (.lst ds) ∨ Vw g H S mu y (.tup ds)) ∧ inL d ds = some r ∧ Q (.bl (n != r)) H
section
variable {g : Glob}
theorem op_inG {X : Cx} (hK : X.K = g.K) (hu : X.A.units + 64 < cLine) : OpR X (compareOp .In) (rInG g false) := by
  intro pins s σ H x y v u Q I rx ry ⟨S, mu, cs, d, ds, r, hs, rd, w, e, q⟩
  have hu1 : X.A.in1.units + eqFuel < cLine := by show X.A.units + 1 + 60 < cLine; omega
  rcases w with w | w
  · obtain ⟨a, vs, rfl, h1, h2⟩ := w.lst hs
    cases ry
    obtain ⟨is, rv, pl, _⟩ := I.list (hK.symm ▸ h1)
    obtain ⟨f, f1, f2⟩ := in_core I hs hK h2 rv rd rx e hu1
    exact SeqAt.in_listAt f pl.isList (fun z hz => f1 z (by simpa using hz)) ⟨.bl _, H, I, rfl, by simpa [f2] using q⟩
  · obtain ⟨a, vs, rfl, h1, h2⟩ := w.tup hs
    cases ry
    obtain ⟨is, rv, pl, _⟩ := I.tuple (hK.symm ▸ h1)
    obtain ⟨f, f1, f2⟩ := in_core I hs hK h2 rv rd rx e hu1
    exact SeqAt.in_tupleAt f pl (fun z hz => f1 z (by simpa using hz)) ⟨.bl _, H, I, rfl, by simpa [f2] using q⟩
theorem op_ninG {X : Cx} (hK : X.K = g.K) (hu : X.A.units + 64 < cLine) : OpR X (compareOp .NotIn) (rInG g true) := by
  intro pins s σ H x y v u Q I rx ry ⟨S, mu, cs, d, ds, r, hs, rd, w, e, q⟩
  have hu1 : X.A.in1.units + eqFuel < cLine := by show X.A.units + 1 + 60 < cLine; omega
  rcases w with w | w
  · obtain ⟨a, vs, rfl, h1, h2⟩ := w.lst hs
    cases ry
    obtain ⟨is, rv, pl, _⟩ := I.list (hK.symm ▸ h1)
    obtain ⟨f, f1, f2⟩ := in_core I hs hK h2 rv rd rx e hu1
    exact SeqAt.notIn_listAt f pl.isList (fun z hz => f1 z (by simpa using hz)) ⟨.bl _, H, I, rfl, by simpa [f2] using q⟩
  · obtain ⟨a, vs, rfl, h1, h2⟩ := w.tup hs
    cases ry
    obtain ⟨is, rv, pl, _⟩ := I.tuple (hK.symm ▸ h1)
    obtain ⟨f, f1, f2⟩ := in_core I hs hK h2 rv rd rx e hu1
    exact SeqAt.notIn_tupleAt f pl (fun z hz => f1 z (by simpa using hz)) ⟨.bl _, H, I, rfl, by simpa [f2] using q⟩
end

/-! ### operations where the left one is frozen -/
/-- as OpOk, the left operand frozen -/
def OpOkL (g : Glob) (f : OpF2) (r : R2) : Prop := ∀ (H S : Hp) (mu : List Addr) (cs : Cells) (v w : V) (a b : D) (x : D × Bool) (Q : VK), HS g H S mu cs → Rp g S mu v a → Vo g H S mu w b → f cs a b = some x →
  (∀ u H' S', OpRes g H S mu H' S' u x.1 x.2 → Q u H') → r v w H Q
/-- the right one's content alone is looked up -/
@[simp] def drR (f : F2) : OpF2 := fun cs a b => (dr cs b).bind fun y => f a y
theorem v_in {g : Glob} {n : Bool} : OpOkL g (drR (opIn n)) (fun x y H Q => rInG g n x y H Q ∨ ∃ i j, x = .str i ∧ y = .str j ∧ Q (.bl (n != inS i j)) H) := fun H S mu cs v w a b x Q hs va vb e k => by
  unfold drR at e
  cases e2 : dr cs b with
  | none => rw [e2] at e; cases e
  | some b' =>
    rw [e2] at e
    have wb := vb.dr hs e2
    have e : opIn n a b' = some x := e
    cases b' <;> first | (simp [opIn] at e; done) | skip
    · cases a <;> first | (simp [opIn] at e; done) | skip
      cases e
      refine .inr ⟨_, _, Vw.str (H := H) (.inl va), wb.str, k _ _ _ (.val (.bl _))⟩
    · rename_i ds e0
      have e' : (inL a ds).map (fun r => (D.bl (n != r), false)) = some x := by
        cases a <;> exact e
      cases e1 : inL a ds with
      | none => rw [e1] at e'; cases e'
      | some r =>
        rw [e1] at e'
        cases e'
        exact .inl ⟨S, mu, cs, a, ds, r, hs, va, .inl wb, e1, k _ _ _ (.val (.bl _))⟩
    · rename_i ds e0
      have e' : (inL a ds).map (fun r => (D.bl (n != r), false)) = some x := by
        cases a <;> exact e
      cases e1 : inL a ds with
      | none => rw [e1] at e'; cases e'
      | some r =>
        rw [e1] at e'
        cases e'
        exact .inl ⟨S, mu, cs, a, ds, r, hs, va, .inr wb, e1, k _ _ _ (.val (.bl _))⟩
theorem op_in_all {g : Glob} {X : Cx} (hK : X.K = g.K) (hu : X.A.units + 64 < cLine) : OpR X (compareOp .In) (fun x y H Q => rInG g false x y H Q ∨ ∃ i j, x = .str i ∧ y = .str j ∧ Q (.bl (false != inS i j)) H) := by
  refine (op_inG hK hu).or fun pins s σ H x y v u Q I rx ry ⟨i, j, e1, e2, q⟩ => op_in_str pins s σ H x y v u Q I rx ry ⟨i, j, e1, e2, ?_⟩
  simpa [inS] using q
theorem op_nin_all {g : Glob} {X : Cx} (hK : X.K = g.K) (hu : X.A.units + 64 < cLine) : OpR X (compareOp .NotIn) (fun x y H Q => rInG g true x y H Q ∨ ∃ i j, x = .str i ∧ y = .str j ∧ Q (.bl (true != inS i j)) H) := by
  refine (op_ninG hK hu).or fun pins s σ H x y v u Q I rx ry ⟨i, j, e1, e2, q⟩ => op_notIn_str pins s σ H x y v u Q I rx ry ⟨i, j, e1, e2, ?_⟩
  simpa [inS] using q
section
variable {g : Glob} {F : Ent} {W : WX}
theorem iOp2L {f : OpF2} {r : R2} {ma mb : M D} (h : OpOkL g f r) (σ : SS) (H : Hp) (Q : VK) (q : rdE g F W (mOp2 f ma mb) σ H Q) : tOp r (rdZ g F W ma) (rdO g F W mb) σ H Q :=
  rd_bind q fun a env1 cs1 v H1 S1 mu1 va r1 => (r1.bind fun b env2 cs2 w H2 S2 mu2 gr2 vb r2 => by
    obtain ⟨y, e, k⟩ := r2.cs
    exact h _ _ _ _ _ _ _ _ _ _ r2.1.hs (va.mono gr2.mo) vb e k).rd
end

/-! ### items and slices -/
@[simp] def opIdx : F2
  | .lst ds, .int i => (atI ds i).map fun d => (d, false)
  | .tup ds, .int i => (atI ds i).map fun d => (d, false)
  | .str x, .int i => if x.length ≤ sizeLine then (atI x.cps.toList i).map fun c => (.str ⟨#[c]⟩, false) else none
  | _, _ => none
theorem RpL.atI {g : Glob} {S mu} {vs : List V} {ds : List D} {i : Int} {d : D} (r : RpL g S mu vs ds) (e : atI ds i = some d) : ∃ v, L2.atI vs i = some v ∧ Rp g S mu v d := by
  unfold L2.atI at e ⊢
  rw [r.length]
  cases q : ixN ds.length i with
  | none => rw [q] at e; cases e
  | some j =>
    rw [q] at e
    obtain ⟨v, h1, h2⟩ := r.get e
    exact ⟨v, h1, h2⟩
theorem v_idx {g : Glob} : OpV g opIdx (rIx g.K) := fun H S mu cs v w a b x Q hs va vb e k => by
  cases a <;> cases b <;> first | (simp [opIdx] at e; done) | skip
  · simp only [opIdx] at e
    split at e
    · rename_i hl
      rename_i z i
      cases q : atI z.cps.toList i with
      | none => rw [q] at e; cases e
      | some c =>
        rw [q] at e
        cases e
        exact .inr (.inr ⟨_, _, c, va.str, vb.int, hl, q, k _ _ _ (.val (.str _))⟩)
    · cases e
  · simp only [opIdx] at e
    rename_i ds i
    cases q : atI ds i with
    | none => rw [q] at e; cases e
    | some d =>
      rw [q] at e
      cases e
      obtain ⟨p, vs, rfl, h1, h2⟩ := va.lst hs
      obtain ⟨z, h3, h4⟩ := h2.atI q
      exact .inl ⟨p, vs, i, z, rfl, vb.int, h1, h3, k _ _ _ (.val h4)⟩
  · simp only [opIdx] at e
    rename_i ds i
    cases q : atI ds i with
    | none => rw [q] at e; cases e
    | some d =>
      rw [q] at e
      cases e
      obtain ⟨p, vs, rfl, h1, h2⟩ := va.tup hs
      obtain ⟨z, h3, h4⟩ := h2.atI q
      exact .inr (.inl ⟨p, vs, i, z, rfl, vb.int, h1, h3, k _ _ _ (.val h4)⟩)
theorem plainIx_ok {b : Expr} (h : ∀ l u s p, b ≠ .Slice l u s p) : PlainIx b := by
  intro o i
  cases b <;> first | rfl | exact absurd rfl (h _ _ _ _)
section
variable {g : Glob} {F : Ent} {W : WX} {X : Cx} {a b : Expr} {pos : Pos}
theorem sIdx {ma mb : M D} (hK : X.K = g.K) (ha : PE X a (rdO g F W ma)) (hb : PE X b (rdO g F W mb)) (h : ∀ l u s p, b ≠ .Slice l u s p) : PE X (.Subscript a b pos) (rdE g F W (mOp2 (dr2 opIdx) ma mb)) :=
  PE.imp (pe_ix ix_seq ha hb (plainIx_ok h)) (by rw [hK]; exact iOp2 (OpV.ok v_idx))
end
/-- xs[lo:hi] -/
def cutD (xs : List D) (lo hi : Option Int) : List D := (xs.drop (HT.sIx xs.length 0 lo)).take (HT.sIx xs.length xs.length hi - HT.sIx xs.length 0 lo)
theorem RpL.cut {g : Glob} {S mu} {vs : List V} {ds : List D} (r : RpL g S mu vs ds) (lo hi : Option Int) : RpL g S mu (cutV vs lo hi) (cutD ds lo hi) := by
  unfold cutV cutD
  rw [r.length]
  exact (r.drop _).take _
@[simp] def slD (d : D) (lo hi : Option Int) : Option (D × Bool) := match d with
  | .lst ds => some (.lst (cutD ds lo hi), true)
  | .tup ds => some (.tup (cutD ds lo hi), false)
  | .str x => if x.length ≤ sizeLine then some (.str (cutS x lo hi), false) else none
  | _ => none
end EL
namespace EL
open PySem PySem.Spec L2

section
variable {g : Glob} {F : Ent} {W : WX} {X : Cx} {a b c e : Expr} {es : List Expr} {pos : Pos}
/-! ### operators -/
theorem sBin {op : Operator} {f : F2} {ma mb : M D} (hK : X.K = g.K) (hu : X.A.units + 64 < cLine) (h : OpS g (binaryOp op) f) (ha : PE X a (rdO g F W ma)) (hb : PE X b (rdO g F W mb)) : PE X (.BinOp a op b pos) (rdE g F W (mOp2 (dr2 f) ma mb)) := by
  obtain ⟨r, h1, h2⟩ := h X hK hu
  exact PE.imp (pe_op h1 ha hb) (iOp2 h2.ok)
theorem sCmp {op : CmpOp} {f : F2} {ma mb : M D} (hK : X.K = g.K) (hu : X.A.units + 64 < cLine) (h : OpS g (compareOp op) f) (ha : PE X a (rdO g F W ma)) (hb : PE X b (rdO g F W mb)) (hm : behindInMarks op b = false) : PE X (.Compare a [op] [b] pos) (rdE g F W (mOp2 (dr2 f) ma mb)) := by
  obtain ⟨r, h1, h2⟩ := h X hK hu
  exact PE.imp (pe_cmpR h1 ha hb hm) (iOp2 h2.ok)
theorem sCmpT {op : CmpOp} {f : F2} {ma mb : M D} (hK : X.K = g.K) (hu : X.A.units + 64 < cLine) (h : OpS g (compareOp op) f) (ha : PE X a (rdO g F W ma)) (hb : PE X b (rdO g F W mb)) (hm : behindInMarks op b = false) : PT X (.Compare a [op] [b] pos) (rdT g F W (mBl (mOp2 (dr2 f) ma mb))) := by
  obtain ⟨r, h1, h2⟩ := h X hK hu
  exact PT.imp (pt_cmpR h1 ha hb hm) fun σ H Q q => iOp2 h2.ok σ H _ (iBl q)
/-- in, not in -/
theorem sIn {ma mb : M D} (hK : X.K = g.K) (hu : X.A.units + 64 < cLine) (ha : PE X a (rdZ g F W ma)) (hb : PE X b (rdO g F W mb)) (hm : behindInMarks .In b = false) : PE X (.Compare a [.In] [b] pos) (rdE g F W (mOp2 (drR (opIn false)) ma mb)) :=
  PE.imp (pe_cmpR (op_in_all hK hu) ha hb hm) (iOp2L v_in)
theorem sInT {ma mb : M D} (hK : X.K = g.K) (hu : X.A.units + 64 < cLine) (ha : PE X a (rdZ g F W ma)) (hb : PE X b (rdO g F W mb)) (hm : behindInMarks .In b = false) : PT X (.Compare a [.In] [b] pos) (rdT g F W (mBl (mOp2 (drR (opIn false)) ma mb))) :=
  PT.imp (pt_cmpR (op_in_all hK hu) ha hb hm) fun σ H Q q => iOp2L v_in σ H _ (iBl q)
theorem sNin {ma mb : M D} (hK : X.K = g.K) (hu : X.A.units + 64 < cLine) (ha : PE X a (rdZ g F W ma)) (hb : PE X b (rdO g F W mb)) (hm : behindInMarks .NotIn b = false) : PE X (.Compare a [.NotIn] [b] pos) (rdE g F W (mOp2 (drR (opIn true)) ma mb)) :=
  PE.imp (pe_cmpR (op_nin_all hK hu) ha hb hm) (iOp2L v_in)
theorem sNinT {ma mb : M D} (hK : X.K = g.K) (hu : X.A.units + 64 < cLine) (ha : PE X a (rdZ g F W ma)) (hb : PE X b (rdO g F W mb)) (hm : behindInMarks .NotIn b = false) : PT X (.Compare a [.NotIn] [b] pos) (rdT g F W (mBl (mOp2 (drR (opIn true)) ma mb))) :=
  PT.imp (pt_cmpR (op_nin_all hK hu) ha hb hm) fun σ H Q q => iOp2L v_in σ H _ (iBl q)
/-- a op b op' c -/
def mChain (f f' : OpF2) (ma mb mc : M D) : M (D × Bool) := ma.bind fun x => mb.bind fun y => (mCs fun cs => (f cs x y).bind blD).bind fun k =>
  if k then mc.bind fun z => mCs fun cs => f' cs y z else M.pure (.bl false, false)
theorem RA.csO {α' β' : Type} {T' : SS → Env → Hp → Hp → List Addr → β' → α' → Prop} {f : Cells → Option (D × Bool)} {kk : Bool → M α'} {σ : SS} {H S : Hp} {mu : List Addr} {env : Env} {cs : Cells} {Q : β' → Hp → Prop}
    (h : RA g F W T' ((mCs fun cs => (f cs).bind blD).bind kk) σ H S mu env cs Q) : ∃ y k, f cs = some y ∧ blD y = some k ∧ RA g F W T' (kk k) σ H S mu env cs Q := by
  obtain ⟨k, e, r⟩ := h.csB
  cases e1 : f cs with
  | none => rw [e1] at e; cases e
  | some y =>
    rw [e1] at e
    exact ⟨y, k, rfl, e, r⟩
theorem RA.up {α β : Type} {T : SS → Env → Hp → Hp → List Addr → β → α → Prop} {m : M α} {σ : SS} {H S H' S' : Hp} {mu : List Addr} {env : Env} {cs : Cells} {Q : β → Hp → Prop} (h : RA g F W T m σ H S mu env cs Q) (u : Up H S H' S') : RA g F W T m σ H' S' mu env cs Q :=
  ⟨u.rel h.1, h.2.on fun a e c k v H2 S2 mu2 gr => k v H2 S2 mu2 (u.gr.trans gr)⟩
theorem iChain {f f' : OpF2} {r r' : R2} {ma mb mc : M D} (h : OpOk g f r) (h' : OpOk g f' r') (σ : SS) (H : Hp) (Q : VK) (q : rdE g F W (mChain f f' ma mb mc) σ H Q) : tChain r r' (rdO g F W ma) (rdO g F W mb) (rdO g F W mc) σ H Q :=
  rd_bind q fun x env1 cs1 v H1 S1 mu1 va r1 => (r1.bind fun y env2 cs2 w H2 S2 mu2 gr2 vb r2 => by
    obtain ⟨z, k, e, e2, r3⟩ := r2.csO
    refine h _ _ _ _ _ _ _ _ _ _ r2.1.hs (Vo.keep va gr2 r1.1.hs) vb e fun u H3 S3 or => ?_
    obtain ⟨rl, gr3, res⟩ := or.rel r2.1
    refine ⟨k, res_bl res e2, ?_⟩
    have r4 := r3.up or.up
    cases k with
    | false =>
      rw [if_neg (by decide)] at r4
      rw [if_neg (by decide)]
      exact RA.pure (T := TRes g F) r4 (Rp.bl false)
    | true =>
      rw [if_pos rfl] at r4
      rw [if_pos rfl]
      exact (r4.bind fun t env5 cs5 w5 H5 S5 mu5 gr5 vc r5 => by
        obtain ⟨y5, e5, k5⟩ := r5.cs
        exact h' _ _ _ _ _ _ _ _ _ _ r5.1.hs (Vo.keep vb (gr3.trans gr5) r2.1.hs) vc e5 k5).rd).rd
theorem sChain {op op' : CmpOp} {f f' : F2} {ma mb mc : M D} (hK : X.K = g.K) (hu : X.A.units + 64 < cLine) (h : OpS g (compareOp op) f) (h' : OpS g (compareOp op') f') (ha : PE X a (rdO g F W ma)) (hb : PE X b (rdO g F W mb)) (hc : PE X c (rdO g F W mc)) (hm : lastMarks [op, op'] [b, c] = false) :
    PE X (.Compare a [op, op'] [b, c] pos) (rdE g F W (mChain (dr2 f) (dr2 f') ma mb mc)) := by
  obtain ⟨r, h1, h2⟩ := h X hK hu
  obtain ⟨r', h3, h4⟩ := h' X hK hu
  exact PE.imp (pe_chain h1 h3 ha hb hc hm) (iChain h2.ok h4.ok)
theorem sChainT {op op' : CmpOp} {f f' : F2} {ma mb mc : M D} (hK : X.K = g.K) (hu : X.A.units + 64 < cLine) (h : OpS g (compareOp op) f) (h' : OpS g (compareOp op') f') (ha : PE X a (rdO g F W ma)) (hb : PE X b (rdO g F W mb)) (hc : PE X c (rdO g F W mc)) (hm : lastMarks [op, op'] [b, c] = false) :
    PT X (.Compare a [op, op'] [b, c] pos) (rdT g F W (mBl (mChain (dr2 f) (dr2 f') ma mb mc))) := by
  obtain ⟨r, h1, h2⟩ := h X hK hu
  obtain ⟨r', h3, h4⟩ := h' X hK hu
  exact PT.imp (pt_chain h1 h3 ha hb hc hm) fun σ H Q q => iChain h2.ok h4.ok σ H _ (iBl q)

/-! ### operands in a row -/
inductive VoL (g : Glob) (H S : Hp) (mu : List Addr) : List V → List D → Prop
  | nil : VoL g H S mu [] []
  | cons {v : V} {vs : List V} {d : D} {ds : List D} : Vo g H S mu v d → VoL g H S mu vs ds → VoL g H S mu (v :: vs) (d :: ds)
abbrev TVos (g : Glob) : SS → Env → Hp → Hp → List Addr → List V → List D → Prop := fun _ _ H S mu v d => VoL g H S mu v d
abbrev rdOs (g : Glob) (F : Ent) (W : WX) (m : M (List D)) : TA := rd g F W (TVos g) m
theorem sONil : PA X [] (rdOs g F W (M.pure [])) := PA.imp pa_nil fun σ H Q ⟨S, mu, env, cs, ra⟩ => ra.pure .nil
theorem sOCons {ma : M D} {mr : M (List D)} (h1 : PE X e (rdO g F W ma)) (h2 : PA X es (rdOs g F W mr)) (hs : ∀ x p, e ≠ .Starred x p) : PA X (e :: es) (rdOs g F W (mCons ma mr)) :=
  PA.imp (pa_cons h1 h2 (starEach_cons hs)) fun σ H Q q => rd_bind q fun d env1 cs1 v H1 S1 mu1 t r1 =>
    (r1.bind fun ds env2 cs2 vs H2 S2 mu2 gr t2 r2 => r2.pure (.cons (Vo.keep t gr r1.1.hs) t2)).rd
abbrev OpFn := Cells → List D → Option (D × Bool)
def OpOkN (g : Glob) (f : OpFn) (r : List V → Hp → VK → Prop) : Prop := ∀ (H S : Hp) (mu : List Addr) (cs : Cells) (vs : List V) (ds : List D) (x : D × Bool) (Q : VK), HS g H S mu cs → VoL g H S mu vs ds → f cs ds = some x →
  (∀ u H' S', OpRes g H S mu H' S' u x.1 x.2 → Q u H') → r vs H Q
def mOpN (f : OpFn) (ma : M (List D)) : M (D × Bool) := ma.bind fun ds => mCs fun cs => f cs ds
theorem iOpN {f : OpFn} {r : List V → Hp → VK → Prop} {ma : M (List D)} (h : OpOkN g f r) (σ : SS) (H : Hp) (Q : VK) (q : rdE g F W (mOpN f ma) σ H Q) : tCB r (rdOs g F W ma) σ H Q :=
  rd_bind q fun ds env1 cs1 vs H1 S1 mu1 va r1 => by
    obtain ⟨y, e, k⟩ := r1.cs
    exact h _ _ _ _ _ _ _ _ r1.1.hs va e k
/-- a built-in function told by f -/
def CallS (g : Glob) (u : Value) (f : OpFn) : Prop := ∀ X : Cx, X.K = g.K → X.A.units + 64 < cLine → X.calm = true → ∃ r, CallR X u r ∧ OpOkN g f r
theorem sB {id : String} {f : OpFn} {x : Str} {p : Pos} {m : M (List D)} (hK : X.K = g.K) (hu : X.A.units + 64 < cLine) (hc : X.calm = true) (h : CallS g (.builtin id) f) (hg : Gl X x) (hm : X.mg x = none) (hv : bootBuiltins x = some (.builtin id)) (ha : PA X (e :: es) (rdOs g F W m)) (hst : ∀ x p, e ≠ .Starred x p) (hn : x ≠ "__name__") (hdb : (x == ("__debug__" : Str)) = false)
    (hpl : (backTo pos (starEach es X.env)).any (·.1) = false) : PE X (.Call (.Name x p) (e :: es) [] pos) (rdE g F W (mOpN f m)) := by
  obtain ⟨r, h1, h2⟩ := h X hK hu hc
  exact PE.imp (pe_callB h1 hg hm hv ha hn hdb (starEach_cons hst) hpl) (iOpN h2)
theorem sTy {T : String} {f : OpFn} {x : Str} {p : Pos} {m : M (List D)} (hK : X.K = g.K) (hu : X.A.units + 64 < cLine) (hc : X.calm = true) (h : CallS g (.type T) f) (hg : Gl X x) (hm : X.mg x = none) (hv : bootBuiltins x = some (.type T)) (ha : PA X (e :: es) (rdOs g F W m)) (hst : ∀ x p, e ≠ .Starred x p) (hn : x ≠ "__name__") (hdb : (x == ("__debug__" : Str)) = false)
    (hpl : (backTo pos (starEach es X.env)).any (·.1) = false) : PE X (.Call (.Name x p) (e :: es) [] pos) (rdE g F W (mOpN f m)) := by
  obtain ⟨r, h1, h2⟩ := h X hK hu hc
  exact PE.imp (pe_callTy h1 hg hm hv ha hn hdb (starEach_cons hst) hpl) (iOpN h2)
end

/-! ### by what the operands are -/
@[simp] def drL (cs : Cells) : List D → Option (List D)
  | [] => some []
  | d :: ds => (dr cs d).bind fun x => (drL cs ds).map fun xs => x :: xs
inductive VwL (g : Glob) (H S : Hp) (mu : List Addr) : List V → List D → Prop
  | nil : VwL g H S mu [] []
  | cons {v : V} {vs : List V} {d : D} {ds : List D} : Vw g H S mu v d → VwL g H S mu vs ds → VwL g H S mu (v :: vs) (d :: ds)
section
variable {g : Glob} {H S : Hp} {mu : List Addr} {cs : Cells}
theorem VoL.dr (h : HS g H S mu cs) : ∀ {vs : List V} {ds xs : List D}, VoL g H S mu vs ds → drL cs ds = some xs → VwL g H S mu vs xs
  | _, _, _, .nil, e => by cases e; exact .nil
  | _, _, _, .cons (d := d) (ds := ds) a r, e => by
    unfold drL at e
    cases e1 : EL.dr cs d with
    | none => rw [e1] at e; cases e
    | some y =>
      rw [e1] at e
      cases e2 : drL cs ds with
      | none => simp [e2] at e
      | some ys =>
        have e : (drL cs ds).map (fun xs => y :: xs) = some _ := e
        rw [e2] at e
        cases e
        exact .cons (a.dr h e1) (VoL.dr h r e2)
end
abbrev Fn := List D → Option (D × Bool)
@[simp] def drN (f : Fn) : OpFn := fun cs ds => (drL cs ds).bind f
def OpVN (g : Glob) (f : Fn) (r : List V → Hp → VK → Prop) : Prop := ∀ (H S : Hp) (mu : List Addr) (cs : Cells) (vs : List V) (ds : List D) (x : D × Bool) (Q : VK), HS g H S mu cs → VwL g H S mu vs ds → f ds = some x →
  (∀ u H' S', OpRes g H S mu H' S' u x.1 x.2 → Q u H') → r vs H Q
theorem OpVN.ok {g : Glob} {f : Fn} {r : List V → Hp → VK → Prop} (h : OpVN g f r) : OpOkN g (drN f) r := fun H S mu cs vs ds x Q hs va e k => by
  unfold drN at e
  cases e1 : drL cs ds with
  | none => rw [e1] at e; cases e
  | some ys =>
    rw [e1] at e
    exact h _ _ _ _ _ _ _ _ hs (va.dr hs e1) e k
@[simp] def orN (f f' : Fn) : Fn := fun ds => match f ds with
  | some x => some x
  | none => f' ds
theorem OpVN.or {g : Glob} {f f' : Fn} {r r' : List V → Hp → VK → Prop} (h : OpVN g f r) (h' : OpVN g f' r') : OpVN g (orN f f') (fun xs H Q => r xs H Q ∨ r' xs H Q) := fun H S mu cs vs ds x Q hs va e k => by
  unfold orN at e
  cases e1 : f ds with
  | some y => rw [e1] at e; cases e; exact .inl (h _ _ _ _ _ _ _ _ hs va e1 k)
  | none => rw [e1] at e; exact .inr (h' _ _ _ _ _ _ _ _ hs va e k)
section
variable {g : Glob} {H S : Hp} {mu : List Addr} {cs : Cells}
theorem VwL.one {vs : List V} {d : D} (h : VwL g H S mu vs [d]) : ∃ v, vs = [v] ∧ Vw g H S mu v d := by
  cases h with
  | cons a r => cases r; exact ⟨_, rfl, a⟩
theorem VwL.two {vs : List V} {d d' : D} (h : VwL g H S mu vs [d, d']) : ∃ v v', vs = [v, v'] ∧ Vw g H S mu v d ∧ Vw g H S mu v' d' := by
  cases h with
  | cons a r =>
    cases r with
    | cons b r => cases r; exact ⟨_, _, rfl, a, b⟩
end
/-! ### len, abs, max, min, int, divmod .. -/
@[simp] def fLen : Fn
  | [.lst ds] => some (.int ds.length, false)
  | [.tup ds] => some (.int ds.length, false)
  | [.str x] => if x.length ≤ sizeLine then some (.int x.length, false) else none
  | _ => none
theorem s_len {g : Glob} : CallS g (.builtin "len") (drN fLen) := fun X hK hu hc => ⟨_, call_len, OpVN.ok fun H S mu cs vs ds x Q hs va e k => by
  rcases ds with _ | ⟨d, _ | ⟨d', ds⟩⟩ <;> first | (cases e; done) | skip
  · obtain ⟨v, rfl, w⟩ := va.one
    cases d <;> first | (simp [fLen] at e; done) | skip
    · simp only [fLen] at e
      split at e
      · rename_i hl
        cases e
        cases w.str
        exact ⟨_, _, rfl, ⟨hl, rfl⟩, k _ _ _ (.val (.int _))⟩
      · cases e
    · cases e
      obtain ⟨a, xs, rfl, h1, h2⟩ := w.lst hs
      refine ⟨_, _, rfl, .inl ⟨xs, hK.symm ▸ h1, rfl⟩, ?_⟩
      rw [h2.length]
      exact k _ _ _ (.val (.int _))
    · cases e
      obtain ⟨a, xs, rfl, h1, h2⟩ := w.tup hs
      refine ⟨_, _, rfl, .inr ⟨xs, hK.symm ▸ h1, rfl⟩, ?_⟩
      rw [h2.length]
      exact k _ _ _ (.val (.int _))
  · cases d <;> cases e⟩
@[simp] def fAbs : Fn
  | [.int i] => some (.int (if i < 0 then -i else i), false)
  | _ => none
theorem s_abs {g : Glob} : CallS g (.builtin "abs") (drN fAbs) := fun X hK hu hc => ⟨_, call_abs, OpVN.ok fun H S mu cs vs ds x Q hs va e k => by
  rcases ds with _ | ⟨d, _ | ⟨d', ds⟩⟩ <;> first | (cases e; done) | skip
  · obtain ⟨v, rfl, w⟩ := va.one
    cases d <;> first | (simp [fAbs] at e; done) | skip
    cases e
    cases w.int
    exact ⟨_, rfl, k _ _ _ (.val (.int _))⟩
  · cases d <;> cases e⟩
@[simp] def fInt : Fn
  | [.int i] => some (.int i, false)
  | [.bl b] => some (.int (if b then 1 else 0), false)
  | _ => none
theorem s_int {g : Glob} : CallS g (.type "int") (drN fInt) := fun X hK hu hc => ⟨_, call_int1, OpVN.ok fun H S mu cs vs ds x Q hs va e k => by
  rcases ds with _ | ⟨d, _ | ⟨d', ds⟩⟩ <;> first | (cases e; done) | skip
  · obtain ⟨v, rfl, w⟩ := va.one
    cases d <;> first | (simp [fInt] at e; done) | skip
    · cases e
      cases w.bl
      exact .inr ⟨_, rfl, k _ _ _ (.val (.int _))⟩
    · cases e
      cases w.int
      exact .inl ⟨_, rfl, k _ _ _ (.val (.int _))⟩
  · cases d <;> cases e⟩
/-- ints alone -/
def intsD : List D → Option (List Int)
  | [] => some []
  | .int i :: ds => (intsD ds).map fun is => i :: is
  | _ => none
theorem RpL.ints {g : Glob} {S mu} : ∀ {vs : List V} {ds : List D} {is : List Int}, RpL g S mu vs ds → intsD ds = some is → vs = is.map V.int
  | _, [], _, .nil, e => by cases e; rfl
  | _, d :: ds, _, .cons h r, e => by
    cases d <;> first | (simp [intsD] at e; done) | skip
    unfold intsD at e
    cases e1 : intsD ds with
    | none => rw [e1] at e; cases e
    | some is =>
      rw [e1] at e
      cases e
      cases h
      rw [RpL.ints r e1, List.map_cons]
def blsD : List D → Option (List Bool)
  | [] => some []
  | .bl i :: ds => (blsD ds).map fun is => i :: is
  | _ => none
theorem RpL.bls {g : Glob} {S mu} : ∀ {vs : List V} {ds : List D} {is : List Bool}, RpL g S mu vs ds → blsD ds = some is → vs = is.map V.bl
  | _, [], _, .nil, e => by cases e; rfl
  | _, d :: ds, _, .cons h r, e => by
    cases d <;> first | (simp [blsD] at e; done) | skip
    unfold blsD at e
    cases e1 : blsD ds with
    | none => rw [e1] at e; cases e
    | some is =>
      rw [e1] at e
      cases e
      cases h
      rw [RpL.bls r e1, List.map_cons]
/-- the greatest, the least -/
def maxI : Int → List Int → Int
  | m, [] => m
  | m, i :: is => maxI (if m < i then i else m) is
def minI : Int → List Int → Int
  | m, [] => m
  | m, i :: is => minI (if i < m then i else m) is
theorem maxI_spec : ∀ (is : List Int) (m : Int), (maxI m is = m ∨ maxI m is ∈ is) ∧ m ≤ maxI m is ∧ ∀ y ∈ is, y ≤ maxI m is
  | [], m => ⟨.inl rfl, Int.le_refl _, fun _ h => nomatch h⟩
  | i :: is, m => by
    obtain ⟨h1, h2, h3⟩ := maxI_spec is (if m < i then i else m)
    unfold maxI
    refine ⟨?_, ?_, fun y hy => ?_⟩
    · rcases h1 with h | h
      · rw [h]
        split
        · exact .inr List.mem_cons_self
        · exact .inl rfl
      · exact .inr (List.mem_cons_of_mem _ h)
    · have : m ≤ if m < i then i else m := by split <;> omega
      omega
    · rcases List.mem_cons.mp hy with rfl | hy
      · have : y ≤ if m < y then y else m := by split <;> omega
        omega
      · exact h3 y hy
theorem minI_spec : ∀ (is : List Int) (m : Int), (minI m is = m ∨ minI m is ∈ is) ∧ minI m is ≤ m ∧ ∀ y ∈ is, minI m is ≤ y
  | [], m => ⟨.inl rfl, Int.le_refl _, fun _ h => nomatch h⟩
  | i :: is, m => by
    obtain ⟨h1, h2, h3⟩ := minI_spec is (if i < m then i else m)
    unfold minI
    refine ⟨?_, ?_, fun y hy => ?_⟩
    · rcases h1 with h | h
      · rw [h]
        split
        · exact .inr List.mem_cons_self
        · exact .inl rfl
      · exact .inr (List.mem_cons_of_mem _ h)
    · have : (if i < m then i else m) ≤ m := by split <;> omega
      omega
    · rcases List.mem_cons.mp hy with rfl | hy
      · have : (if y < m then y else m) ≤ y := by split <;> omega
        omega
      · exact h3 y hy
@[simp] def fMaxL : Fn
  | [.lst ds] => match intsD ds with
    | some (i :: is) => some (.int (maxI i is), false)
    | _ => none
  | _ => none
@[simp] def fMax2 : Fn
  | [.int i, .int j] => some (.int (if j > i then j else i), false)
  | _ => none
@[simp] def fMinL : Fn
  | [.lst ds] => match intsD ds with
    | some (i :: is) => some (.int (minI i is), false)
    | _ => none
  | _ => none
@[simp] def fMin2 : Fn
  | [.int i, .int j] => some (.int (if j < i then j else i), false)
  | _ => none
theorem v_maxL {g : Glob} : OpVN g fMaxL (rMax g.K) := fun H S mu cs vs ds x Q hs va e k => by
  rcases ds with _ | ⟨d, _ | ⟨d', ds⟩⟩ <;> first | (cases e; done) | skip
  · obtain ⟨v, rfl, w⟩ := va.one
    cases d <;> first | (simp [fMaxL] at e; done) | skip
    rename_i zs
    simp only [fMaxL] at e
    cases e1 : intsD zs with
    | none => rw [e1] at e; cases e
    | some is =>
      rw [e1] at e
      cases is with
      | nil => cases e
      | cons i is =>
        cases e
        obtain ⟨a, xs, rfl, h1, h2⟩ := w.lst hs
        have hx := h2.ints e1
        subst hx
        obtain ⟨m1, m2, m3⟩ := maxI_spec is i
        refine ⟨a, _, rfl, h1, by simp, fun m hm hy => ?_⟩
        have : m = maxI i is := by
          have a1 : maxI i is ≤ m := hy _ (by rcases m1 with h | h <;> simp [h])
          have a2 : m ≤ maxI i is := by
            rcases List.mem_cons.mp hm with rfl | hm
            · exact m2
            · exact m3 m hm
          omega
        subst this
        exact k _ _ _ (.val (.int _))
  · cases d <;> cases e
theorem v_minL {g : Glob} : OpVN g fMinL (rMin g.K) := fun H S mu cs vs ds x Q hs va e k => by
  rcases ds with _ | ⟨d, _ | ⟨d', ds⟩⟩ <;> first | (cases e; done) | skip
  · obtain ⟨v, rfl, w⟩ := va.one
    cases d <;> first | (simp [fMinL] at e; done) | skip
    rename_i zs
    simp only [fMinL] at e
    cases e1 : intsD zs with
    | none => rw [e1] at e; cases e
    | some is =>
      rw [e1] at e
      cases is with
      | nil => cases e
      | cons i is =>
        cases e
        obtain ⟨a, xs, rfl, h1, h2⟩ := w.lst hs
        have hx := h2.ints e1
        subst hx
        obtain ⟨m1, m2, m3⟩ := minI_spec is i
        refine ⟨a, _, rfl, h1, by simp, fun m hm hy => ?_⟩
        have : m = minI i is := by
          have a1 : m ≤ minI i is := hy _ (by rcases m1 with h | h <;> simp [h])
          have a2 : minI i is ≤ m := by
            rcases List.mem_cons.mp hm with rfl | hm
            · exact m2
            · exact m3 m hm
          omega
        subst this
        exact k _ _ _ (.val (.int _))
  · cases d <;> cases e
theorem v_int2 {g : Glob} {f : Fn} {h : Int → Int → Int} (hf : ∀ ds x, f ds = some x → ∃ i j, ds = [.int i, .int j] ∧ x = (.int (h i j), false)) : OpVN g f (fun xs H Q => ∃ i j, xs = [V.int i, .int j] ∧ Q (.int (h i j)) H) := fun H S mu cs vs ds x Q hs va e k => by
  obtain ⟨i, j, rfl, rfl⟩ := hf _ _ e
  obtain ⟨v, w, rfl, h1, h2⟩ := va.two
  cases h1.int
  cases h2.int
  exact ⟨i, j, rfl, k _ _ _ (.val (.int _))⟩
def fMax : Fn := orN fMaxL fMax2
def fMin : Fn := orN fMinL fMin2
theorem s_max {g : Glob} : CallS g (.builtin "max") (drN fMax) := fun X hK hu hc => ⟨_, (cr_max hc).or (call_max2 hc), OpVN.ok (hK.symm ▸ v_maxL.or (v_int2 (h := fun i j => if j > i then j else i) fun ds x e => by
  rcases ds with _ | ⟨d, _ | ⟨d', _ | ⟨d'', ds⟩⟩⟩ <;> first | (cases e; done) | (cases d <;> cases e; done) | skip
  · cases d <;> cases d' <;> cases e
    exact ⟨_, _, rfl, rfl⟩
  · cases d <;> cases d' <;> cases e))⟩
theorem s_min {g : Glob} : CallS g (.builtin "min") (drN fMin) := fun X hK hu hc => ⟨_, (cr_min hc).or (call_min2 hc), OpVN.ok (hK.symm ▸ v_minL.or (v_int2 (h := fun i j => if j < i then j else i) fun ds x e => by
  rcases ds with _ | ⟨d, _ | ⟨d', _ | ⟨d'', ds⟩⟩⟩ <;> first | (cases e; done) | (cases d <;> cases e; done) | skip
  · cases d <;> cases d' <;> cases e
    exact ⟨_, _, rfl, rfl⟩
  · cases d <;> cases d' <;> cases e))⟩
@[simp] def fSum : Fn
  | [.lst ds] => (intsD ds).map fun is => (.int is.sum, false)
  | _ => none
theorem s_sum {g : Glob} : CallS g (.builtin "sum") (drN fSum) := fun X hK hu hc => ⟨_, cr_sum hc, OpVN.ok fun H S mu cs vs ds x Q hs va e k => by
  rcases ds with _ | ⟨d, _ | ⟨d', ds⟩⟩ <;> first | (cases e; done) | skip
  · obtain ⟨v, rfl, w⟩ := va.one
    cases d <;> first | (simp [fSum] at e; done) | skip
    rename_i zs
    simp only [fSum] at e
    cases e1 : intsD zs with
    | none => rw [e1] at e; cases e
    | some is =>
      rw [e1] at e
      cases e
      obtain ⟨a, xs, rfl, h1, h2⟩ := w.lst hs
      have hx := h2.ints e1
      subst hx
      exact ⟨a, is, rfl, hK.symm ▸ h1, k _ _ _ (.val (.int _))⟩
  · cases d <;> cases e⟩
@[simp] def fAll : Fn
  | [.lst ds] => (blsD ds).map fun is => (.bl (is.all id), false)
  | _ => none
@[simp] def fAny : Fn
  | [.lst ds] => (blsD ds).map fun is => (.bl (is.any id), false)
  | _ => none
theorem s_all {g : Glob} : CallS g (.builtin "all") (drN fAll) := fun X hK hu hc => ⟨_, cr_all hc, OpVN.ok fun H S mu cs vs ds x Q hs va e k => by
  rcases ds with _ | ⟨d, _ | ⟨d', ds⟩⟩ <;> first | (cases e; done) | skip
  · obtain ⟨v, rfl, w⟩ := va.one
    cases d <;> first | (simp [fAll] at e; done) | skip
    rename_i zs
    simp only [fAll] at e
    cases e1 : blsD zs with
    | none => rw [e1] at e; cases e
    | some is =>
      rw [e1] at e
      cases e
      obtain ⟨a, xs, rfl, h1, h2⟩ := w.lst hs
      have hx := h2.bls e1
      subst hx
      exact ⟨a, is, rfl, hK.symm ▸ h1, k _ _ _ (.val (.bl _))⟩
  · cases d <;> cases e⟩
theorem s_any {g : Glob} : CallS g (.builtin "any") (drN fAny) := fun X hK hu hc => ⟨_, cr_any hc, OpVN.ok fun H S mu cs vs ds x Q hs va e k => by
  rcases ds with _ | ⟨d, _ | ⟨d', ds⟩⟩ <;> first | (cases e; done) | skip
  · obtain ⟨v, rfl, w⟩ := va.one
    cases d <;> first | (simp [fAny] at e; done) | skip
    rename_i zs
    simp only [fAny] at e
    cases e1 : blsD zs with
    | none => rw [e1] at e; cases e
    | some is =>
      rw [e1] at e
      cases e
      obtain ⟨a, xs, rfl, h1, h2⟩ := w.lst hs
      have hx := h2.bls e1
      subst hx
      exact ⟨a, is, rfl, hK.symm ▸ h1, k _ _ _ (.val (.bl _))⟩
  · cases d <;> cases e⟩
@[simp] def fDivmod : Fn
  | [.int i, .int j] => if divFit j then some (.tup [.int (i / j), .int (i % j)], false) else none
  | _ => none
theorem divFit_ok {i j : Int} (h : divFit j = true) : CDivP i j := by
  obtain ⟨h1, h2⟩ := of_decide_eq_true h
  exact ⟨h1, PyProof.noPylong_of_log2 h2⟩
theorem s_divmod {g : Glob} : CallS g (.builtin "divmod") (drN fDivmod) := fun X hK hu hc => ⟨_, call_divmodW, OpVN.ok fun H S mu cs vs ds x Q hs va e k => by
  rcases ds with _ | ⟨d, _ | ⟨d', _ | ⟨d'', ds⟩⟩⟩ <;> first | (cases e; done) | (cases d <;> cases e; done) | skip
  · cases d <;> cases d' <;> first | (simp [fDivmod] at e; done) | skip
    simp only [fDivmod] at e
    split at e
    · rename_i hd
      cases e
      obtain ⟨v, w, rfl, h1, h2⟩ := va.two
      cases h1.int
      cases h2.int
      exact ⟨_, _, rfl, divFit_ok hd, fun p hp => k _ _ _ (OpRes.tup hs hp (.cons (.int _) (.cons (.int _) .nil)))⟩
    · cases e
  · cases d <;> cases d' <;> cases e⟩
@[simp] def fTuple : Fn
  | [.lst ds] => some (.tup ds, false)
  | [.tup ds] => some (.tup ds, false)
  | _ => none
theorem s_tuple {g : Glob} : CallS g (.type "tuple") (drN fTuple) := fun X hK hu hc => ⟨_, call_tuple_of, OpVN.ok fun H S mu cs vs ds x Q hs va e k => by
  rcases ds with _ | ⟨d, _ | ⟨d', ds⟩⟩ <;> first | (cases e; done) | skip
  · obtain ⟨v, rfl, w⟩ := va.one
    cases d <;> first | (simp [fTuple] at e; done) | skip
    · cases e
      obtain ⟨a, xs, rfl, h1, h2⟩ := w.lst hs
      exact ⟨a, xs, rfl, .inl ⟨hK.symm ▸ h1, fun l hl => k _ _ _ (OpRes.tup hs hl h2)⟩⟩
    · cases e
      rename_i ds
      have rp : Rp g S mu v (.tup ds) := by
        rcases w with z | ⟨_, _, z⟩
        · exact z
        · exact z.elim
      obtain ⟨a, xs, rfl, h1, h2⟩ := w.tup hs
      exact ⟨a, xs, rfl, .inr ⟨hK.symm ▸ h1, k _ _ _ (.val rp)⟩⟩
  · cases d <;> cases e⟩
@[simp] def fList : Fn
  | [.lst ds] => some (.lst ds, true)
  | [.tup ds] => some (.lst ds, true)
  | _ => none
theorem s_list {g : Glob} : CallS g (.type "list") (drN fList) := fun X hK hu hc => ⟨_, call_list_of, OpVN.ok fun H S mu cs vs ds x Q hs va e k => by
  rcases ds with _ | ⟨d, _ | ⟨d', ds⟩⟩ <;> first | (cases e; done) | skip
  · obtain ⟨v, rfl, w⟩ := va.one
    cases d <;> first | (simp [fList] at e; done) | skip
    · cases e
      obtain ⟨a, xs, rfl, h1, h2⟩ := w.lst hs
      exact ⟨a, xs, rfl, .inl (hK.symm ▸ h1), fun l hl => k _ _ _ (OpRes.lst hs hl h2)⟩
    · cases e
      obtain ⟨a, xs, rfl, h1, h2⟩ := w.tup hs
      exact ⟨a, xs, rfl, .inr (hK.symm ▸ h1), fun l hl => k _ _ _ (OpRes.lst hs hl h2)⟩
  · cases d <;> cases e⟩
end EL
namespace EL
open PySem PySem.Spec L2

theorem Vw.up {g : Glob} {H S H' S' : Hp} {mu : List Addr} {v : V} {d : D} (w : Vw g H S mu v d) (u : Up H S H' S') : Vw g H' S' mu v d := by
  rcases w with w | ⟨a, e, w⟩
  · exact .inl (w.mono u.mo)
  · exact .inr ⟨a, e, w.keep u.mo (u.h a)⟩
/-! ### isinstance -/
@[simp] def tyN : D → Option String
  | .non => some "NoneType"
  | .bl _ => some "bool"
  | .int _ => some "int"
  | .str _ => some "str"
  | .lst _ => some "list"
  | .tup _ => some "tuple"
  | .dct _ => some "dict"
  | _ => none
theorem tyx_of {g : Glob} {H S : Hp} {mu : List Addr} {cs : Cells} {v : V} {d : D} {n : String} (hs : HS g H S mu cs) (w : Vw g H S mu v d) (e : tyN d = some n) : TyX g.K H v (.type n) := by
  have rdl : ∀ a vs, SqL g.K H a vs → TyX g.K H (.ref a) (.type "list") := fun a vs h => by
    rcases h with (h | ⟨o, h⟩) | ⟨o, its, n, h1, h2, _⟩
    · exact .base (.lst h)
    · exact .base (.frz h)
    · exact .kList h1 h2
  have rdt : ∀ a vs, SqT g.K H a vs → TyX g.K H (.ref a) (.type "tuple") := fun a vs h => by
    rcases h with (h | ⟨o, h⟩) | ⟨o, its, n, h1, h2, _⟩
    · exact .base (.tup h)
    · exact .fTuple h
    · exact .kTuple h1 h2
  cases d <;> first | (simp [tyN] at e; done) | skip
  · cases e; cases w.non; exact .base .non
  · cases e; cases w.bl; exact .base (.bl _)
  · cases e; cases w.int; exact .base (.int _)
  · cases e; cases w.str; exact .base (.str _)
  · cases e
    obtain ⟨a, xs, rfl, h1, h2⟩ := w.lst hs
    exact rdl _ _ h1
  · cases e
    obtain ⟨a, xs, rfl, h1, h2⟩ := w.tup hs
    exact rdt _ _ h1
  · cases e
    obtain ⟨a, xs, rfl, h1, h2⟩ := w.dct hs
    rcases h1 with h | ⟨o, h⟩
    · exact .base (.dK h)
    · exact .fDict h
/-- of built-in types -/
@[simp] def isTy (t c : String) : Bool := t == c || (t == "bool" && c == "int")
def tyNames : List String := ["NoneType", "bool", "int", "str", "list", "tuple", "dict"]
theorem kit_isTy : ∀ t ∈ tyNames, ∀ c ∈ tyNames, kitB t c = some (isTy t c) := by decide +kernel
theorem tyN_mem {d : D} {n : String} (e : tyN d = some n) : n ∈ tyNames := by
  cases d <;> cases e <;> decide
/-- isinstance by one of several built-in types -/
@[simp] def isiD (cs' : List String) (d : D) : Option Bool := (tyN d).map fun t => cs'.any (isTy t)
/-- how to tell isinstance of a class that is a value -/
def IsiOk (g : Glob) (us : List Value) (test : D → Option Bool) : Prop := ∀ (H S : Hp) (mu : List Addr) (cs : Cells) (v : V) (d : D) (b : Bool), HS g H S mu cs → Vw g H S mu v d → test d = some b → ∃ t, TyX g.K H v t ∧ PySem.W.kitAny g.K t us = some b
theorem kitAny_one {K : PySem.W.Frag} {t u : Value} {b : Bool} (h : PySem.W.kitAny K t [u] = some b) : PySem.W.kitOne K t u = some b := by
  unfold PySem.W.kitAny at h
  cases e : PySem.W.kitOne K t u with
  | none => rw [e] at h; cases h
  | some c =>
    rw [e] at h
    cases c with
    | true => exact h
    | false => exact h
theorem kitAny_tys {K : PySem.W.Frag} {t : String} (ht : t ∈ tyNames) : ∀ {cs : List String}, (∀ c ∈ cs, c ∈ tyNames) → PySem.W.kitAny K (.type t) (cs.map Value.type) = some (cs.any (isTy t))
  | [], _ => rfl
  | c :: cs, h => by
    rw [List.map_cons, List.any_cons]
    refine kitAny_cons (b := isTy t c) (kit_ty (kit_isTy t ht c (h c List.mem_cons_self))) (fun hb => ?_) (fun hb => by rw [hb]; rfl)
    rw [hb, Bool.false_or]
    exact kitAny_tys ht fun z hz => h z (List.mem_cons_of_mem _ hz)
theorem isi_tys {g : Glob} {cs : List String} (h : ∀ c ∈ cs, c ∈ tyNames) : IsiOk g (cs.map Value.type) (isiD cs) := fun H S mu cl v d b hs w e => by
  unfold isiD at e
  cases e1 : tyN d with
  | none => rw [e1] at e; cases e
  | some n =>
    rw [e1] at e
    cases e
    exact ⟨.type n, tyx_of hs w e1, kitAny_tys (tyN_mem e1) h⟩
@[simp] def fIsi (test : D → Option Bool) : OpF1 := fun cs d => ((dr cs d).bind test).map fun b => (.bl b, false)
section
variable {g : Glob} {F : Ent} {W : WX} {X : Cx} {a b c e o i : Expr} {es : List Expr} {pos : Pos}
theorem sIsi {p : Pos} {ma : M D} {test : D → Option Bool} {u : Value} {cv : V} (hK : X.K = g.K) (hg : Gl X "isinstance") (hm : X.mg "isinstance" = none) (h : IsiOk g [u] test) (ha : PE X a (rdO g F W ma)) (hst : ∀ x p, a ≠ .Starred x p) (hst2 : ∀ x p, b ≠ .Starred x p)
    (hb : PE X b (tC cv)) (hc : ClsV cv u) : PE X (.Call (.Name "isinstance" p) [a, b] [] pos) (rdE g F W (mOp1 (fIsi test) ma)) := by
  have hz : starEach [b] X.env = (false, eval b X.env) :: starEach [] X.env := starEach_cons hst2
  refine PE.imp (pe_callB call_isi hg hm rfl (pa_cons ha (pa_cons hb pa_nil hz) (starEach_cons hst)) (he := starEach_cons hst) (hpl := by rw [hz]; rfl)) fun σ H Q q => ?_
  refine rd_bind q fun d env1 cs1 v H1 S1 mu1 va r1 => ?_
  obtain ⟨y, e, k⟩ := r1.cs
  unfold fIsi at e
  cases e1 : dr cs1 d with
  | none => rw [e1] at e; cases e
  | some d' =>
    rw [e1] at e
    cases e2 : test d' with
    | none =>
      have e : (test d').map (fun b => (D.bl b, false)) = some y := e
      rw [e2] at e; cases e
    | some b =>
      have e : (test d').map (fun b => (D.bl b, false)) = some y := e
      rw [e2] at e
      cases e
      obtain ⟨t, h1, h2⟩ := h _ _ _ _ _ _ _ r1.1.hs (va.dr r1.1.hs e1) e2
      exact ⟨v, cv, t, u, b, rfl, hc, hK.symm ▸ h1, hK.symm ▸ kitAny_one h2, k _ _ _ (.val (.bl _))⟩
/-- values that never change, in a row -/
theorem ac_nil : PA X [] (fun _ H Q => Q [] H) := pa_nil
theorem ac_cons {v : V} {vs : List V} (h1 : PE X e (tC v)) (h2 : PA X es (fun _ H Q => Q vs H)) (hs : ∀ x p, e ≠ .Starred x p) : PA X (e :: es) (fun _ H Q => Q (v :: vs) H) :=
  PA.imp (pa_cons h1 h2 (starEach_cons hs)) fun σ H Q q => q
theorem sIsiT {p tpos : Pos} {k : Nat} {ma : M D} {test : D → Option Bool} {us : List Value} {cvs : List V} (hK : X.K = g.K) (hg : Gl X "isinstance") (hm : X.mg "isinstance" = none) (h : IsiOk g us test) (ha : PE X a (rdO g F W ma)) (hst : ∀ x p, a ≠ .Starred x p)
    (hb : PA X es (fun _ H Q => Q cvs H)) (hl : cvs.length ≤ 100) (hc : Paired ClsV cvs us) : PE X (.Call (.Name "isinstance" p) [a, .Tuple es k tpos] [] pos) (rdE g F W (mOp1 (fIsi test) ma)) := by
  have hz : starEach [Expr.Tuple es k tpos] X.env = (false, eval (.Tuple es k tpos) X.env) :: starEach [] X.env := starEach_cons (fun _ _ h => by cases h)
  refine PE.imp (pe_callB call_isiT hg hm rfl (pa_cons ha (pa_cons (pe_tup hb) pa_nil hz) (starEach_cons hst)) (he := starEach_cons hst) (hpl := by rw [hz]; rfl)) fun σ H Q q => ?_
  refine rd_bind q fun d env1 cs1 v H1 S1 mu1 va r1 => ?_
  obtain ⟨y, e, k⟩ := r1.cs
  unfold fIsi at e
  cases e1 : dr cs1 d with
  | none => rw [e1] at e; cases e
  | some d' =>
    rw [e1] at e
    cases e2 : test d' with
    | none =>
      have e : (test d').map (fun b => (D.bl b, false)) = some y := e
      rw [e2] at e; cases e
    | some b =>
      have e : (test d').map (fun b => (D.bl b, false)) = some y := e
      rw [e2] at e
      cases e
      refine ⟨Nat.le_trans hl (by decide), fun q hq => ?_⟩
      have u := Up.new (o := .tup cvs) hq (r1.1.hs.sNone hq)
      obtain ⟨t, h1, h2⟩ := h _ _ _ _ _ _ _ (u.hs r1.1.hs) ((va.dr r1.1.hs e1).up u) e2
      exact ⟨v, q, cvs, t, us, b, rfl, upd_same, hc, hK.symm ▸ h1, hK.symm ▸ h2, k _ _ _ ⟨u, by show (if false = true then _ else _); rw [if_neg (by decide)]; exact .bl _⟩⟩
end
/-! ### slices -/
section
variable {g : Glob} {F : Ent} {W : WX} {X : Cx} {a b c e o i : Expr} {es : List Expr} {pos : Pos}
theorem PO.imp {x : Option Expr} {t t' : TO} (h : PO X x t) (i : ∀ σ H Q, t' σ H Q → t σ H Q) : PO X x t' := ⟨fun pins s σ H Q I q => h.run pins s σ H Q I (i σ H Q q)⟩
abbrev rdP (g : Glob) (F : Ent) (W : WX) (m : M (Option Int)) : TO := rd g F W TEq m
theorem sPNone : PO X none (rdP g F W (M.pure none)) := PO.imp po_none fun σ H Q ⟨S, mu, env, cs, ra⟩ => ra.pure rfl
@[simp] def intD : D → Option (Option Int)
  | .int i => some (some i)
  | _ => none
def mPart (m : M D) : M (Option Int) := m.bind fun d => M.opt (intD d)
theorem sPSome {m : M D} (h : PE X e (rdO g F W m)) : PO X (some e) (rdP g F W (mPart m)) := PO.imp (po_some h) fun σ H Q q => rd_bind q fun d env1 cs1 v H1 S1 mu1 va r1 => by
  obtain ⟨y, e, k⟩ := r1.optT
  cases d <;> first | (simp [intD] at e; done) | skip
  cases e
  have w : Vw g H1 S1 mu1 v (.int _) := va.dr r1.1.hs rfl
  cases w.int
  exact ⟨_, rfl, k⟩
def mSlice (me : M D) (ml mh : M (Option Int)) : M (D × Bool) := me.bind fun d => ml.bind fun lo => mh.bind fun hi => mCs fun cs => (dr cs d).bind fun x => slD x lo hi
def rSl (K : PySem.W.Frag) : V → Option Int → Option Int → Hp → VK → Prop := fun x lo hi H Q => rSlL K x lo hi H Q ∨ rSlA K x lo hi H Q ∨ rSlS x lo hi H Q
theorem cut_whole {ds : List D} {lo hi : Option Int} (h : HT.sIx ds.length 0 lo = 0 ∧ HT.sIx ds.length ds.length hi = ds.length) : cutD ds lo hi = ds := by
  unfold cutD
  rw [h.1, h.2]
  simp
theorem sSlice {me : M D} {ml mh : M (Option Int)} {lo hi : Option Expr} {p2 : Pos} (hK : X.K = g.K) (he : PE X e (rdO g F W me)) (hl : PO X lo (rdP g F W ml)) (hh : PO X hi (rdP g F W mh)) : PE X (.Subscript e (.Slice lo hi none p2) pos) (rdE g F W (mSlice me ml mh)) :=
  PE.imp (pe_slice (r := rSl X.K) (sl_list.or (sl_tupA.or sl_str)) he hl hh) fun σ H Q q => rd_bind q fun d env1 cs1 v H1 S1 mu1 va r1 => (r1.bind fun l env2 cs2 w H2 S2 mu2 gr2 t2 r2 => (r2.bind fun u env3 cs3 w3 H3 S3 mu3 gr3 t3 r3 => by
    subst t2 t3
    obtain ⟨y, ey, k⟩ := r3.cs
    have hs := r3.1.hs
    have va3 := Vo.keep va (gr2.trans gr3) r1.1.hs
    cases e1 : dr cs3 d with
    | none => rw [e1] at ey; cases ey
    | some d' =>
      rw [e1] at ey
      have wv := va3.dr hs e1
      rw [hK]
      cases d' <;> first | (cases ey; done) | skip
      · have ey : (if _ then _ else _) = some y := ey
        split at ey
        · rename_i hz
          cases ey
          cases wv.str
          exact .inr (.inr ⟨_, rfl, hz, k _ _ _ (.val (.str _))⟩)
        · cases ey
      · cases ey
        obtain ⟨a, xs, rfl, h1, h2⟩ := wv.lst hs
        exact .inl ⟨a, xs, rfl, h1, fun p hp => k _ _ _ (OpRes.lst hs hp (h2.cut w w3))⟩
      · cases ey
        rename_i ds
        have rp : Rp g S3 mu3 v (.tup ds) := by
          rcases wv with z | ⟨_, _, z⟩
          · exact z
          · exact z.elim
        obtain ⟨a, xs, rfl, h1, h2⟩ := wv.tup hs
        refine .inr (.inl ⟨a, xs, rfl, h1, fun hw => ?_, fun hw p hp => k _ _ _ (OpRes.tup hs hp (h2.cut w w3))⟩)
        rw [h2.length] at hw
        refine k _ _ _ (.val ?_)
        rw [cut_whole hw]
        exact rp).rd).rd
end

/-! ### range, enumerate -/
section
variable {g : Glob} {F : Ent} {W : WX} {X : Cx} {a b c e o i : Expr} {es : List Expr} {pos : Pos}
def rangeD (lo : Int) (n : Nat) : List D := (List.range n).map fun (k : Nat) => .int (lo + k)
theorem itok_rng {lk} {S : Hp} {mu} {lo : Int} {n : Nat} (hz : n ≤ sizeLine) : ItOk g lk (Itr lo n) S mu (rangeD lo n) := by
  have hl : (rangeD lo n).length = n := by simp [rangeD]
  refine ⟨by rw [hl]; exact hz, fun S1 mu1 H i m h _ hi => by rw [hl] at hi; exact hi, fun S1 mu1 H i m h _ hi => by rw [hl] at hi; exact hi, fun S1 mu1 H i v H' d m h _ hd y => ?_⟩
  obtain ⟨e, ev⟩ := y
  subst e ev
  have : d = .int (lo + i) := by
    unfold rangeD at hd
    rw [List.getElem?_map] at hd
    cases q : (List.range n)[i]? with
    | none => rw [q] at hd; cases hd
    | some j =>
      rw [q] at hd
      have : j = i := by
        rw [List.getElem?_eq_some_iff] at q
        obtain ⟨h1, h2⟩ := q
        simpa using h2.symm
      subst this
      exact (Option.some.inj hd).symm
  subst this
  exact ⟨S1, .refl, .int _⟩
/-- an iterator's run, as rdI asks -/
theorem rdI.of {α β : Type} {T : SS → Env → Hp → Hp → List Addr → β → α → Prop} {m : M α} {f : α → Option (List D)} {σ : SS} {H : Hp} {R : It → Hp → Prop} {Q1 : β → Hp → Prop} (q : rdI g F W (m.bind fun a => M.opt (f a)) σ H R)
    (i : ∀ a v H1 S1 mu1 env1 cs1 ds, Rel g F σ H1 S1 mu1 env1 cs1 → T σ env1 H1 S1 mu1 v a → f a = some ds → (∀ J H' S', Up H1 S1 H' S' → ItOk g F.lk J S' mu1 ds → R J H') → Q1 v H1) : rd g F W T m σ H Q1 := by
  obtain ⟨S, mu, env, cs, r, q⟩ := q
  rw [Post.bind] at q
  refine ⟨S, mu, env, cs, r, q.on fun a env1 cs1 p v H1 S1 mu1 gr r1 t => ?_⟩
  cases e : f a with
  | none => rw [e] at p; exact p.elim
  | some ds =>
    rw [e] at p
    exact i a v H1 S1 mu1 env1 cs1 ds r1 t e fun J H' S' up it => p F.lk J H' S' mu1 (fun _ h => h) (gr.trans up.gr) (up.rel r1) it
def rng1D : List D → Option (List D)
  | [.int j] => if decide (-1000000 ≤ j ∧ j ≤ 1000000) then some (rangeD 0 j.toNat) else none
  | _ => none
def rng2D : List D → Option (List D)
  | [.int i, .int j] => if decide (-1000000 ≤ i ∧ i ≤ 1000000 ∧ -1000000 ≤ j ∧ j ≤ 1000000) then some (rangeD i (j - i).toNat) else none
  | _ => none
def mRng1 (m : M (List D)) : M (List D) := m.bind fun ds => M.opt (rng1D ds)
def mRng2 (m : M (List D)) : M (List D) := m.bind fun ds => M.opt (rng2D ds)
theorem sRng1 {p : Pos} {tg : Expr} {m : M (List D)} (hg : Gl X "range") (hm : X.mg "range" = none) (ha : PA X [a] (rdA g F W m)) (hst : ∀ x p, a ≠ .Starred x p) : PI X tg (.Call (.Name "range" p) [a] [] pos) (rdI g F W (mRng1 m)) :=
  PI.imp (pi_range1 hg hm ha (starEach_cons hst)) fun σ H R q => rdI.of (T := TRl g) q fun ds vs H1 S1 mu1 env1 cs1 zs r1 t e k => by
    rcases ds with _ | ⟨d, _ | ⟨d', ds⟩⟩ <;> first | (cases e; done) | (cases d <;> cases e; done) | skip
    · cases d <;> first | (simp [rng1D] at e; done) | skip
      simp only [rng1D] at e
      split at e
      · rename_i hj
        obtain ⟨h1, h2⟩ := of_decide_eq_true hj
        cases e
        cases t with
        | cons t1 t2 =>
          cases t2
          cases t1
          refine ⟨_, rfl, by omega, by omega, k _ _ _ .refl (itok_rng ?_)⟩
          have : sizeLine = 16777216 := rfl
          omega
      · cases e
theorem sRng2 {p : Pos} {tg : Expr} {m : M (List D)} (hg : Gl X "range") (hm : X.mg "range" = none) (ha : PA X [a, b] (rdA g F W m)) (hst : ∀ x p, a ≠ .Starred x p) (hst2 : ∀ x p, b ≠ .Starred x p) : PI X tg (.Call (.Name "range" p) [a, b] [] pos) (rdI g F W (mRng2 m)) :=
  have hz : starEach [b] X.env = [(false, eval b X.env)] := starEach_cons hst2
  PI.imp (pi_range2 hg hm ha (by rw [starEach_cons hst, hz]) hz) fun σ H R q => rdI.of (T := TRl g) q fun ds vs H1 S1 mu1 env1 cs1 zs r1 t e k => by
    rcases ds with _ | ⟨d, _ | ⟨d', _ | ⟨d'', ds⟩⟩⟩ <;> first | (cases e; done) | (cases d <;> cases e; done) | skip
    · cases d <;> cases d' <;> first | (simp [rng2D] at e; done) | skip
      simp only [rng2D] at e
      split at e
      · rename_i hj
        obtain ⟨h1, h2, h3, h4⟩ := of_decide_eq_true hj
        cases e
        cases t with
        | cons t1 t2 =>
          cases t2 with
          | cons t2 t3 =>
            cases t3
            cases t1
            cases t2
            refine ⟨_, _, rfl, by omega, k _ _ _ .refl (itok_rng ?_)⟩
            have : sizeLine = 16777216 := rfl
            omega
      · cases e
    · cases d <;> cases d' <;> cases e
def enumD : Nat → List D → List D
  | _, [] => []
  | n, d :: ds => .tup [.int n, d] :: enumD (n + 1) ds
theorem enumD_get : ∀ (ds : List D) (n i : Nat) (d : D), (enumD n ds)[i]? = some d → ∃ x, ds[i]? = some x ∧ d = .tup [.int ((n + i : Nat) : Int), x]
  | [], _, _, _, e => by simp [enumD] at e
  | x :: ds, n, 0, d, e => by
    refine ⟨x, rfl, ?_⟩
    simp [enumD] at e
    rw [← e]
    rfl
  | x :: ds, n, i + 1, d, e => by
    obtain ⟨y, h1, h2⟩ := enumD_get ds (n + 1) i d (by simpa [enumD] using e)
    refine ⟨y, by simpa using h1, ?_⟩
    rw [h2]
    have : n + 1 + i = n + (i + 1) := by omega
    rw [this]
theorem enumD_len : ∀ (ds : List D) (n : Nat), (enumD n ds).length = ds.length
  | [], _ => rfl
  | _ :: ds, n => by
    unfold enumD
    rw [List.length_cons, List.length_cons, enumD_len]
theorem itok_enum {lk} {S : Hp} {mu} {a : Addr} {vs : List V} {ds : List D} (h1 : S a = some (.lst vs) ∨ KL g.K a vs) (h2 : RpL g S mu vs ds) (hz : vs.length ≤ sizeLine) : ItOk g lk (Ite g.K a) S mu (enumD 0 ds) := by
  have sq : ∀ S1 mu1 H, Mo S mu S1 mu1 → (∀ b u, S1 b = some u → Rd H b u) → SqL g.K H a vs := fun S1 mu1 H m h => by
    rcases h1 with h1 | h1
    · exact .inl (h _ _ (m.s _ _ h1))
    · exact .inr h1
  refine ⟨by rw [enumD_len, ← h2.length]; exact hz, fun S1 mu1 H i m h _ hi => ?_, fun S1 mu1 H i m h _ hi => ⟨vs, sq S1 mu1 H m h, by rw [enumD_len] at hi; rw [h2.length]; exact hi⟩, fun S1 mu1 H i x H' d m h _ hd y => ?_⟩
  · rw [enumD_len] at hi
    obtain ⟨v, hv, _⟩ := h2.get (d := ds[i]) (List.getElem?_eq_getElem hi)
    exact ⟨vs, v, sq S1 mu1 H m h, hv⟩
  · obtain ⟨T, v, rfl, hT, rfl, hv⟩ := y
    obtain ⟨z, hz1, rfl⟩ := enumD_get ds 0 i d hd
    obtain ⟨w, hw, rw'⟩ := h2.get hz1
    have := hv vs (sq S1 mu1 H m h)
    rw [hw] at this
    cases this
    have hn : S1 T = none := by
      cases e : S1 T with
      | none => rfl
      | some u =>
        obtain ⟨o, ho⟩ := rdHas (h T u e)
        rw [hT] at ho; cases ho
    refine ⟨upd S1 T (.tup [.int (i : Nat), v]), Up.newS hT hn, .tup (.inl upd_same) (.cons ?_ (.cons ((rw'.mono m).mono (Mo.new hn)) .nil))⟩
    have : ((0 + i : Nat) : Int) = ((i : Nat) : Int) := by rw [Nat.zero_add]
    rw [this]
    exact .int _
def enD : List D → Option (List D)
  | [.lst ds] => if ds.length ≤ sizeLine then some (enumD 0 ds) else none
  | _ => none
def mEnum (m : M (List D)) : M (List D) := m.bind fun ds => M.opt (enD ds)
theorem sEnum {elts : List Expr} {kk : Nat} {tpos : Pos} {p : Pos} {m : M (List D)} (hK : X.K = g.K) (hg : Gl X "enumerate") (hm : X.mg "enumerate" = none) (ha : PA X [a] (rdA g F W m)) (hst : ∀ x p, a ≠ .Starred x p) : PI X (.Tuple elts kk tpos) (.Call (.Name "enumerate" p) [a] [] pos) (rdI g F W (mEnum m)) :=
  PI.imp (pi_enum hg hm ha (starEach_cons hst)) fun σ H R q => rdI.of (T := TRl g) q fun ds vs H1 S1 mu1 env1 cs1 zs r1 t e k => by
    rcases ds with _ | ⟨d, _ | ⟨d', ds⟩⟩ <;> first | (cases e; done) | (cases d <;> cases e; done) | skip
    · cases d <;> first | (simp [enD] at e; done) | skip
      simp only [enD] at e
      split at e
      · rename_i hj
        cases e
        cases t with
        | cons t1 t2 =>
          cases t2
          obtain ⟨a, xs, rfl, h1, h2⟩ := Vw.lst r1.hs (.inl t1)
          cases t1 with
          | lst h3 h4 =>
            have e : _ = xs.length := h4.length.trans h2.length.symm
            exact ⟨_, _, rfl, hK.symm ▸ h1, by rw [hK]; exact k _ _ _ .refl (itok_enum h3 h4 (by rw [h4.length]; exact hj))⟩
      · cases e
end
end EL
namespace EL
open PySem PySem.Spec L2

/-! ### objects that change in place -/
/-- by a name: its own object, or the cell that it is bound to -/
def mMut {α : Type} (ip : Nat) (f : D → Option (α × D)) : M α := fun env cs => match env[ip]? with
  | some (.ow d) => match f d with
    | some (y, d') => .ok y (env.set ip (.ow d')) cs
    | none => .stuck
  | some (.fz (.cell n)) => match cs[n]? with
    | some d => match f d with
      | some (y, d') => .ok y env (cs.set n d')
      | none => .stuck
    | none => .stuck
  | _ => .stuck
section
variable {g : Glob} {F : Ent} {W : WX} {X : Cx} {a b c e o i : Expr} {es : List Expr} {pos : Pos} {σ : SS} {H S : Hp} {mu : List Addr} {env : Env} {cs : Cells}
theorem At.nofrz {a : Addr} {d : D} {ob u} (x : At g H S mu a d) (h : H a = some (.frz ob u)) : False := by
  cases d <;> first | exact x.elim | skip
  all_goals (first | (obtain ⟨_, e, _⟩ := x; rw [h] at e; cases e; done) | (obtain ⟨_, _, e, _⟩ := x; rw [h] at e; cases e; done) | (obtain ⟨_, _, _, e, _⟩ := x; rw [h] at e; cases e))
theorem HS.other (h : HS g H S mu cs) {a : Addr} {o : HO} (ha : S a = none) (hm : a ∉ mu) : HS g (L2.upd H a o) S mu cs := by
  refine ⟨fun b u e => ?_, h.len, h.nd, fun i b c e1 e2 => ?_, fun b f e sf => by rw [upd_ne (ne_of_none e ha)]; exact h.ext b f e sf⟩
  · exact rdKeep (h.sub b u e) fun x hx => by rw [upd_ne (ne_of_none e ha)]; exact hx
  · obtain ⟨k1, k2⟩ := h.cell i b c e1 e2
    have hb : b ≠ a := fun z => hm (z ▸ List.mem_iff_getElem?.mpr ⟨i, e1⟩)
    exact ⟨k1, k2.keep .refl fun x hx => by rw [upd_ne hb]; exact hx⟩
theorem _root_.List.Nodup.inj_ix {α : Type} : ∀ {l : List α} (_ : l.Nodup) {i j : Nat} (hi : i < l.length) (hj : j < l.length), l[i] = l[j] → i = j
  | [], _, _, _, hi, _, _ => nomatch hi
  | x :: l, h, 0, 0, _, _, _ => rfl
  | x :: l, h, 0, j + 1, _, hj, e => by
    rw [List.nodup_cons] at h
    simp at e
    exact (h.1 (e ▸ List.getElem_mem _)).elim
  | x :: l, h, i + 1, 0, hi, _, e => by
    rw [List.nodup_cons] at h
    simp at e
    exact (h.1 (e ▸ List.getElem_mem _)).elim
  | x :: l, h, i + 1, j + 1, hi, hj, e => by
    rw [List.nodup_cons] at h
    have := List.Nodup.inj_ix h.2 (i := i) (j := j) (by simpa using hi) (by simpa using hj) (by simpa using e)
    omega
theorem Rel.cellUpd (r : Rel g F σ H S mu env cs) {n : Nat} {a : Addr} {o : HO} {d' : D} (hn : mu[n]? = some a) (h : At g (L2.upd H a o) S mu a d') : Rel g F σ (L2.upd H a o) S mu env (cs.set n d') := by
  obtain ⟨c, hc, hS, hA⟩ := r.hs.cellAt hn
  have hm : a ∈ mu := List.mem_iff_getElem?.mpr ⟨n, hn⟩
  have hlt : n < cs.length := (List.getElem?_eq_some_iff.mp hc).1
  refine ⟨⟨fun b u e => ?_, by rw [List.length_set]; exact r.hs.len, r.hs.nd, fun i b c' e1 e2 => ?_, fun b f e sf => by rw [upd_ne (ne_of_none e hS)]; exact r.hs.ext b f e sf⟩, ⟨r.fi.mo, fun b x e hb => ?_, r.fi.n, r.fi.t, fun p hp => ?_, fun b hb => ?_⟩, r.len, r.fz, fun i d e => ?_, r.sep⟩
  · exact rdKeep (r.hs.sub b u e) fun x hx => by rw [upd_ne (ne_of_none e hS)]; exact hx
  · by_cases hi : n = i
    · subst hi
      rw [hn] at e1
      cases e1
      rw [List.getElem?_set_self hlt] at e2
      cases e2
      exact ⟨hS, h⟩
    · rw [List.getElem?_set_ne hi] at e2
      obtain ⟨k1, k2⟩ := r.hs.cell i b c' e1 e2
      have hb : b ≠ a := fun z => by
        subst z
        have h1 : i < mu.length := (List.getElem?_eq_some_iff.mp e1).1
        have h2 : n < mu.length := (List.getElem?_eq_some_iff.mp hn).1
        have z1 : mu[i] = b := (List.getElem?_eq_some_iff.mp e1).2
        have z2 : mu[n] = b := (List.getElem?_eq_some_iff.mp hn).2
        exact hi (r.hs.nd.inj_ix h2 h1 (z2.trans z1.symm))
      exact ⟨k1, k2.keep .refl fun x hx => by rw [upd_ne hb]; exact hx⟩
  · by_cases hba : b = a
    · subst hba
      rcases r.fi.n b hm with z | z
      · exact absurd z hb
      · rw [z] at e; cases e
    · exact (r.fi.h b x e hb).trans (fun o' h' => .inl (by rw [upd_ne hba]; exact h')) fun _ h => h
  · by_cases hba : p.1 = a
    · exact (hA.nofrz (hba ▸ r.fi.l p hp)).elim
    · rw [upd_ne hba]
      exact r.fi.l p hp
  · obtain ⟨k1, k2, k3, x, k4⟩ := r.fi.r b hb
    have hba : b ≠ a := fun z => k2 (z ▸ hm)
    exact ⟨k1, k2, k3, x, by rw [upd_ne hba]; exact k4⟩
  · obtain ⟨b, k1, k2, k3, k4, k5⟩ := r.ow i d e
    have hba : b ≠ a := fun z => k3 (z ▸ hm)
    exact ⟨b, k1, k2, k3, k4, k5.keep .refl fun x hx => by rw [upd_ne hba]; exact hx⟩
theorem Rel.owUpd (r : Rel g F σ H S mu env cs) {ip : Nat} {a : Addr} {o : HO} {d d' : D} (he : env[ip]? = some (.ow d)) (ha : σ[ip]? = some (some (.ref a))) (h : At g (L2.upd H a o) S mu a d') : Rel g F σ (L2.upd H a o) S mu (env.set ip (.ow d')) cs := by
  obtain ⟨a', j1, hS, hm, ⟨hF, hrs⟩, hA⟩ := r.ow ip d he
  rw [ha] at j1
  cases j1
  have hlt : ip < env.length := (List.getElem?_eq_some_iff.mp he).1
  have old : ∀ (j : Nat) (s : Slot), (env.set ip (.ow d'))[j]? = some s → (j = ip ∧ s = .ow d') ∨ (j ≠ ip ∧ env[j]? = some s) := fun j s e => by
    by_cases hj : j = ip
    · subst hj
      rw [List.getElem?_set_self hlt] at e
      exact .inl ⟨rfl, (Option.some.inj e).symm⟩
    · rw [List.getElem?_set_ne (Ne.symm hj)] at e
      exact .inr ⟨hj, e⟩
  refine ⟨r.hs.other hS hm, ⟨r.fi.mo, fun b x e hb => ?_, r.fi.n, r.fi.t, fun p hp => ?_, fun b hb => ?_⟩, by rw [List.length_set]; exact r.len, fun j x e => ?_, fun j x e => ?_, fun j k x y b e1 e2 h1 h2 => ?_⟩
  · have hba : b ≠ a := ne_of_none e hF
    exact (r.fi.h b x e hb).trans (fun o' h' => .inl (by rw [upd_ne hba]; exact h')) fun _ h => h
  · by_cases hba : p.1 = a
    · exact (hA.nofrz (hba ▸ r.fi.l p hp)).elim
    · rw [upd_ne hba]
      exact r.fi.l p hp
  · obtain ⟨k1, k2, k3, x, k4⟩ := r.fi.r b hb
    have hba : b ≠ a := fun z => hrs (z ▸ hb)
    exact ⟨k1, k2, k3, x, by rw [upd_ne hba]; exact k4⟩
  · rcases old j _ e with ⟨rfl, q⟩ | ⟨hj, q⟩
    · cases q
    · exact r.fz j x q
  · rcases old j _ e with ⟨rfl, q⟩ | ⟨hj, q⟩
    · cases q
      exact ⟨a, ha, hS, hm, ⟨hF, hrs⟩, h⟩
    · obtain ⟨b, k1, k2, k3, k4, k5⟩ := r.ow j x q
      have hba : b ≠ a := fun z => hj (r.sep j ip x d a q he (z ▸ k1) ha)
      exact ⟨b, k1, k2, k3, k4, k5.keep .refl fun x hx => by rw [upd_ne hba]; exact hx⟩
  · have t : ∀ (j : Nat) x, (env.set ip (.ow d'))[j]? = some (.ow x) → ∃ x', env[j]? = some (.ow x') := fun j x e => by
      rcases old j _ e with ⟨rfl, _⟩ | ⟨_, q⟩
      · exact ⟨d, he⟩
      · exact ⟨x, q⟩
    obtain ⟨x', q1⟩ := t j x e1
    obtain ⟨y', q2⟩ := t k y e2
    exact r.sep j k x' y' b q1 q2 h1 h2
theorem mut_post {α : Type} {ip : Nat} {f : D → Option (α × D)} {v : V} {K : α → Env → Cells → Prop} {KX : Nat → List (Str × D) → Env → Cells → Prop} (r : Rel g F σ H S mu env cs) (p : Post (mMut ip f env cs) K KX) (hv : σ[ip]? = some (some v)) :
    ∃ a d y d' env' cs', v = .ref a ∧ At g H S mu a d ∧ f d = some (y, d') ∧ K y env' cs' ∧ ∀ o, At g (L2.upd H a o) S mu a d' → Rel g F σ (L2.upd H a o) S mu env' cs' := by
  unfold mMut at p
  cases e : env[ip]? with
  | none => rw [e] at p; exact p.elim
  | some s =>
    rw [e] at p
    cases s with
    | no => exact p.elim
    | ow d =>
      cases e2 : f d with
      | none => simp only [e2] at p; exact p.elim
      | some z =>
        obtain ⟨y, d'⟩ := z
        simp only [e2] at p
        obtain ⟨a, k1, k2, k3, k4, k5⟩ := r.ow ip d e
        rw [hv] at k1
        cases k1
        exact ⟨a, d, y, d', _, _, rfl, k5, e2, p, fun o h => r.owUpd e hv h⟩
    | fz d =>
      cases d <;> first | exact p.elim | skip
      rename_i n
      obtain ⟨w, h1, h2⟩ := r.fz ip _ e
      rw [hv] at h1
      cases h1
      cases h2 with
      | cell hn =>
        obtain ⟨c, hc, hS, hA⟩ := r.hs.cellAt hn
        simp only [hc] at p
        cases e2 : f c with
        | none => simp only [e2] at p; exact p.elim
        | some z =>
          obtain ⟨y, d'⟩ := z
          simp only [e2] at p
          exact ⟨_, c, y, d', _, _, rfl, hA, e2, p, fun o h => r.cellUpd hn h⟩

/-! ### o[i] = e -/
@[simp] def setD (k x : D) : D → Option (Unit × D)
  | .lst ds => match k with
    | .int i => (ixN ds.length i).map fun j => ((), .lst (ds.set j x))
    | _ => none
  | _ => none
def mSetI (ip : Nat) (mi me : M D) : M Fl := me.bind fun x => (mPeek ip).bind fun _ => mi.bind fun k => (mMut ip (setD k x)).bind fun _ => M.pure .nx
/-- what a store at a name's object does -/
theorem set_item {ip : Nat} {k x : D} {w v iv : V} {K : Unit → Env → Cells → Prop} {KX : Nat → List (Str × D) → Env → Cells → Prop} {Q : Hp → Prop} (r : Rel g F σ H S mu env cs) (p : Post (mMut ip (setD k x) env cs) K KX) (hw : σ[ip]? = some (some w)) (ri : Vo g H S mu iv k) (rx : Rp g S mu v x)
    (q : ∀ env' cs' H', K () env' cs' → Rel g F σ H' S mu env' cs' → Q H') : rSetL w iv v H Q := by
  obtain ⟨a, d, y, d', env', cs', rfl, hA, hf, hk, hr⟩ := mut_post r p hw
  cases d <;> first | (cases hf; done) | skip
  rename_i ds
  cases k <;> first | (cases hf; done) | skip
  rename_i i
  have hf : (ixN ds.length i).map (fun j => ((), D.lst (ds.set j x))) = some (y, d') := hf
  cases hj : ixN ds.length i with
  | none => rw [hj] at hf; cases hf
  | some j =>
    rw [hj] at hf
    cases hf
    obtain ⟨vs, h1, h2⟩ := hA
    have hi : iv = .int i := (Vo.dr r.hs ri rfl).int
    refine ⟨a, vs, i, j, rfl, hi, h1, by rw [h2.length]; exact hj, q _ _ _ hk (hr _ ⟨_, upd_same, RpL.set rx j h2⟩)⟩
theorem post_peek {ip : Nat} {K : D → Env → Cells → Prop} {KX : Nat → List (Str × D) → Env → Cells → Prop} (r : Rel g F σ H S mu env cs) (p : Post (mPeek ip env cs) K KX) : ∃ v d, σ[ip]? = some (some v) ∧ K d env cs := by
  unfold mPeek at p
  cases e1 : env[ip]? with
  | none => rw [e1] at p; exact p.elim
  | some sl =>
    rw [e1] at p
    cases sl with
    | no => exact p.elim
    | fz d =>
      obtain ⟨v, h1, h2⟩ := r.fz ip d e1
      exact ⟨v, d, h1, p⟩
    | ow d =>
      obtain ⟨a, h1, h2, h3, h4, h5⟩ := r.ow ip d e1
      exact ⟨_, d, h1, p⟩
theorem PoS.exG {α β : Type} {E : Ends} {T : SS → Env → Hp → Hp → List Addr → β → α → Prop} {m : M α} {f : α → M Fl} {Q : β → Hp → Prop} (r : Rel g F σ H S mu env cs) (p : PoS g F W E (m.bind f) env cs)
    (i : ∀ a env1 cs1 v H1 S1 mu1, Gr H S mu H1 S1 mu1 → Rel g F σ H1 S1 mu1 env1 cs1 → T σ env1 H1 S1 mu1 v a → PoS g F W E (f a) env1 cs1 → Q v H1) : rd g F W T m σ H Q := by
  rw [PoS.bind] at p
  exact ⟨S, mu, env, cs, r, Post.mono p (fun a e c p v H' S' mu' gr rl t => i a e c v H' S' mu' gr rl t p) fun k fs e c z => z σ⟩
theorem sSetI {ip : Nat} {mi me : M D} {p2 : Pos} (ho : PE X o (tVar ip)) (hi : PE X i (rdO g F W mi)) (he : PE X e (rdZ g F W me)) (hs : swapsWithSole [.Subscript o i p2] e pos.line X.env = pure false) (hw : swappedStores [.Subscript o i p2] e X.env = pure none)
    (ha : ∀ v, assign (.Subscript o i p2) X.env v = (do
      let ov ← holding [v] (eval o X.env)
      let iv ← holding [v, ov] (eval i X.env)
      standAt p2
      holding [v, ov, iv] (setItem ov iv v)
      release [v, ov, iv] [])) : PS X (.Assign [.Subscript o i p2] e pos) (rdS g F W (mSetI ip mi me)) :=
  PS.imp (ps_asg he (pg_sub ho hi set_list ha) hs hw) fun E σ H q => rdS.ex q fun x env1 cs1 v H1 S1 mu1 r1 t1 p1 => by
    rw [PoS.bind] at p1
    obtain ⟨w, d, hw, p1⟩ := post_peek r1 p1
    refine ⟨w, hw, PoS.exG r1 p1 fun k env2 cs2 iv H2 S2 mu2 gr2 r2 t2 p2 => ?_⟩
    rw [PoS.bind] at p2
    exact set_item r2 p2 hw t2 (t1.mono gr2.mo) fun env' cs' H' k r3 => k σ H' S2 mu2 r3

/-- o[i], name = e, e a pair -/
def mPot (ip jd : Nat) (mi me : M D) : M Fl := me.bind fun x => match x with
  | .tup [a, b] => (mPeek ip).bind fun _ => mi.bind fun k => (mMut ip (setD k a)).bind fun _ => (mPut jd (b, false)).bind fun _ => M.pure .nx
  | _ => M.stuck
theorem sPot {ip jd : Nat} {mi me : M D} {p2 pd pt : Pos} {y : Str} {kt : Nat} (hK : X.K = g.K) (hc : X.calm = true) (ho : PE X o (tVar ip)) (hi : PE X i (rdO g F W mi)) (he : PE X e (rdZ g F W me)) (hN : X.N.Nodup) (hy : X.N[jd]? = some y) (hx : Loc X.env.scope y) (hf : X.fn y = true ∨ X.env.scope.names.lookup y = some .local)
    (hs : swapsWithSole [.Tuple [.Subscript o i p2, .Name y pd] kt pt] e pos.line X.env = pure false) (hw : swappedStores [.Tuple [.Subscript o i p2, .Name y pd] kt pt] e X.env = pure none)
    (ha : ∀ v, assign (.Subscript o i p2) X.env v = (do
      let ov ← holding [v] (eval o X.env)
      let iv ← holding [v, ov] (eval i X.env)
      standAt p2
      holding [v, ov, iv] (setItem ov iv v)
      release [v, ov, iv] [])) : PS X (.Assign [.Tuple [.Subscript o i p2, .Name y pd] kt pt] e pos) (rdS g F W (mPot ip jd mi me)) :=
  PS.imp (ps_asg he (pg_tup (n := 2) hc (pgs_cons (pg_sub ho hi set_list ha) (pgs_cons (pg_name hN hy hx hf) pgs_nil))) hs hw) fun E σ H q => rdS.ex q fun x env1 cs1 v H1 S1 mu1 r1 t1 p1 => by
    have hx : ∃ a b, x = .tup [a, b] := by
      rcases x with _ | _ | _ | _ | _ | (_ | ⟨a, _ | ⟨b, _ | ⟨c, ds⟩⟩⟩) | _ | _ | _ <;> first | exact ⟨_, _, rfl⟩ | exact p1.elim
    obtain ⟨a, b, rfl⟩ := hx
    have p1 : PoS g F W E ((mPeek ip).bind fun _ => mi.bind fun k => (mMut ip (setD k a)).bind fun _ => (mPut jd (b, false)).bind fun _ => M.pure .nx) env1 cs1 := p1
    obtain ⟨ad, xs, rfl, h1, h2⟩ := Vw.tup r1.hs (.inl t1)
    cases h2 with
    | cons ta h2 =>
      cases h2 with
      | cons tb h2 =>
        cases h2
        rename_i va vb
        refine ⟨ad, _, rfl, hK.symm ▸ h1, rfl, va, [vb], rfl, ?_⟩
        rw [PoS.bind] at p1
        obtain ⟨w, d, hw, p1⟩ := post_peek r1 p1
        refine ⟨w, hw, PoS.exG r1 p1 fun k env2 cs2 iv H2 S2 mu2 gr2 r2 t2 p2 => ?_⟩
        rw [PoS.bind] at p2
        refine set_item r2 p2 hw t2 (ta.mono gr2.mo) fun env' cs' H' k r3 => ?_
        obtain ⟨hl, p3⟩ := PoS.put k
        exact ⟨vb, [], rfl, rfl, p3 _ H' S2 mu2 (r3.putZ hl (tb.mono gr2.mo))⟩
end

/-! ### new objects that become cells -/
section
variable {g : Glob} {F : Ent} {W : WX} {X : Cx} {a b c e o i : Expr} {es : List Expr} {pos : Pos} {σ : SS} {H S : Hp} {mu : List Addr} {env : Env} {cs : Cells}
abbrev TNew (g : Glob) (F : Ent) (H : Hp) : SS → Env → Hp → Hp → List Addr → V → D × Bool → Prop := fun σ env H' S' mu' v r => TRes g F σ env H' S' mu' v r ∧ (r.2 = true → ∃ a, v = .ref a ∧ H a = none)
def rdN (g : Glob) (F : Ent) (W : WX) (m : M (D × Bool)) : TE := fun σ H Q => ∃ S mu env cs, RA g F W (TNew g F H) m σ H S mu env cs Q
theorem RA.mono {α β : Type} {T T' : SS → Env → Hp → Hp → List Addr → β → α → Prop} {m : M α} {Q : β → Hp → Prop} (h : RA g F W T m σ H S mu env cs Q) (i : ∀ σ env H S mu v a, T' σ env H S mu v a → T σ env H S mu v a) : RA g F W T' m σ H S mu env cs Q :=
  ⟨h.1, h.2.on fun a e c k v H' S' mu' gr r t => k v H' S' mu' gr r (i _ _ _ _ _ _ _ t)⟩
theorem sNE {m : M (D × Bool)} (h : PE X e (rdN g F W m)) : PE X e (rdE g F W m) := PE.imp h fun σ H Q ⟨S, mu, env, cs, ra⟩ => ⟨S, mu, env, cs, ra.mono fun _ _ _ _ _ _ _ t => t.1⟩
def mCell (m : M (D × Bool)) : M D := m.bind fun r env cs => if r.2 then .ok (.cell cs.length) env (cs ++ [r.1]) else .stuck
theorem sCell {m : M (D × Bool)} (h : PE X e (rdN g F W m)) : PE X e (rdZ g F W (mCell m)) := PE.imp h fun σ H Q ⟨S, mu, env, cs, r, q⟩ => by
  unfold mCell at q
  rw [Post.bind] at q
  refine ⟨S, mu, env, cs, r, q.on fun x env1 cs1 k v H1 S1 mu1 gr r1 ⟨t, hn⟩ => ?_⟩
  obtain ⟨d, fr⟩ := x
  cases fr with
  | false =>
    have k : Post (if false = true then R.ok (D.cell cs1.length) env1 (cs1 ++ [d]) else .stuck) _ _ := k
    rw [if_neg (by decide)] at k
    exact k.elim
  | true =>
    have k : Post (if true = true then R.ok (D.cell cs1.length) env1 (cs1 ++ [d]) else .stuck) _ _ := k
    rw [if_pos rfl] at k
    obtain ⟨a, rfl, h1, h2, ⟨h3, h3'⟩, h4, h5⟩ := t
    obtain ⟨a', e', hH⟩ := hn rfl
    cases e'
    have k : KOf g F σ H S mu (TRp g σ) Q (.cell cs1.length) env1 (cs1 ++ [d]) := k
    have m1 : Mo S1 mu1 S1 (mu1 ++ [a]) := ⟨fun _ _ h => h, fun i b e => by
      rw [List.getElem?_append_left (List.getElem?_eq_some_iff.mp e).1]; exact e⟩
    have hl : mu1.length = cs1.length := r1.hs.len
    refine k _ H1 S1 (mu1 ++ [a]) ⟨gr.mo.trans m1, gr.h, fun b hb => ?_⟩ ⟨⟨r1.hs.sub, by simp [hl], ?_, fun i b c e1 e2 => ?_, r1.hs.ext⟩, ⟨r1.fi.mo.trans m1, r1.fi.h, fun b hb => ?_, r1.fi.t, r1.fi.l, fun b hb => ?_⟩, r1.len, fun i x e => ?_, fun i x e => ?_, r1.sep⟩ (.cell ?_)
    · rcases List.mem_append.mp hb with z | z
      · exact gr.n b z
      · obtain rfl : b = a := by simpa using z
        exact .inr hH
    · rw [List.nodup_append]
      refine ⟨r1.hs.nd, by simp, fun x hx y hy => ?_⟩
      obtain rfl : y = a := by simpa using hy
      rintro rfl
      exact h2 hx
    · by_cases hi : i < mu1.length
      · rw [List.getElem?_append_left hi] at e1
        rw [List.getElem?_append_left (by omega)] at e2
        obtain ⟨k1, k2⟩ := r1.hs.cell i b c e1 e2
        exact ⟨k1, k2.keep m1 fun _ h => h⟩
      · have hi2 : i = mu1.length := by
          have := (List.getElem?_eq_some_iff.mp e1).1
          simp at this
          omega
        subst hi2
        rw [List.getElem?_append_right (Nat.le_refl _)] at e1
        rw [hl, List.getElem?_append_right (Nat.le_refl _)] at e2
        simp at e1 e2
        subst e1 e2
        exact ⟨h1, h4.keep m1 fun _ h => h⟩
    · rcases List.mem_append.mp hb with z | z
      · exact r1.fi.n b z
      · obtain rfl : b = a := by simpa using z
        exact .inr h3
    · obtain ⟨k1, k2, k3, k4⟩ := r1.fi.r b hb
      refine ⟨k1, fun z => ?_, k3, k4⟩
      rcases List.mem_append.mp z with z | z
      · exact k2 z
      · obtain rfl : b = a := by simpa using z
        exact h3' hb
    · obtain ⟨v, k1, k2⟩ := r1.fz i x e
      exact ⟨v, k1, k2.mono m1⟩
    · obtain ⟨b, k1, k2, k3, k4, k5⟩ := r1.ow i x e
      refine ⟨b, k1, k2, fun z => ?_, k4, k5.keep m1 fun _ h => h⟩
      rcases List.mem_append.mp z with z | z
      · exact k3 z
      · obtain rfl : b = a := by simpa using z
        exact h5 i x e k1
    · rw [← hl, List.getElem?_append_right (Nat.le_refl _)]
      simp
/-- what is new behind a start is new -/
theorem Gr.none {H1 S1 : Hp} {mu1 : List Addr} {cs1 : Cells} (gr : Gr H S mu H1 S1 mu1) (hs1 : HS g H1 S1 mu1 cs1) {p : Addr} (h : H1 p = none) : H p = none := by
  cases e : H p with
  | none => rfl
  | some o =>
    by_cases hm : p ∈ mu
    · obtain ⟨j, hj⟩ := List.mem_iff_getElem?.mp hm
      obtain ⟨_, z⟩ := hs1.inMu (List.mem_iff_getElem?.mpr ⟨j, gr.mo.m j p hj⟩)
      obtain ⟨o, z⟩ := z
      rw [h] at z; cases z
    · obtain ⟨o', h'⟩ := (gr.h p o e hm).has; rw [h'] at h; cases h

/-! ### calls, with what is new -/
theorem RA.callN {H0 : Hp} {φ : Phi} {ds : List D} {vs : List V} {Q : VK} {n : Nat} (h0 : ∀ p, H p = none → H0 p = none)
    (h : RA g F W (TNew g F H0) (mPhi φ ds) σ H S mu env cs Q) (rl : RpL g S mu vs ds) (hn : vs.length = n) : spF g n φ vs H Q (EOf W σ) := by
  obtain ⟨r, q⟩ := h
  refine ⟨hn, S, mu, cs, ds, r.hs, rl, ?_⟩
  unfold mPhi at q
  cases e : φ ds cs with
  | stuck => simp only [e] at q; exact q
  | ok d fr c =>
    simp only [e] at q
    refine fun v H' S' mu' a x => q v H' S' mu' a.gr (a.rel r) ⟨ResF.res (cs' := c) r x, fun hf => ?_⟩
    have hf : fr = true := hf
    subst hf
    obtain ⟨p, e1, e2, _⟩ := x
    exact ⟨p, e1, h0 p e2⟩
  | exc k fs c =>
    simp only [e] at q
    exact fun dx H' S' mu' a x hn => q dx H' S' mu' (a.rel r) x (r.newX hn)
theorem sCallN {k n : Nat} {f : Addr} {fd : FuncData} {ps ks : List Str} {x : Str} {p pos : Pos} {e : Expr} {es : List Expr} {kws : List Keyword} {mp mk : M (List D)} {sh : List Src} {φ : Phi} {gU : List Value → List Value → List Value}
    (G : FnG X.prog X.w X.K X.mg X.base (L2.CX X.prog X.w) k f fd ps (spF g ps.length φ)) (hr : Room k X.A) (hgd : X.A.guards = some []) (tk : Takes X W) (hg : Gl X x) (hm : X.mg x = some (.ref f)) (hk : PySem.W.keepIn X.K (.ref f) = true) (hb : KBn X.K fd ps n ks gU (arrV sh)) (hsh : sh.length = ps.length) (hd : DflOk g sh)
    (ha : PA X (e :: es) (rdA g F W mp)) (hkw : PK X kws (rdA g F W mk)) (hp : Many n mp) (hq : Many ks.length mk) (hall : (backToKw pos (keywordEach kws X.env)).all (·.1.isSome) = true) (hks : (backToKw pos (keywordEach kws X.env)).filterMap (·.1) = ks)
    (hdb : (x == ("__debug__" : Str)) = false) (hst : ∀ x p, e ≠ .Starred x p) (hpl : ((backTo pos (starEach (e :: es) X.env)).any (·.1) || (backToKw pos (keywordEach kws X.env)).any (·.1.isNone)) = false) :
    PE X (.Call (.Name x p) (e :: es) kws pos) (rdN g F W (mCall φ sh mp mk)) :=
  PE.imp (pe_callG G hr hgd hg hm hk hb ha hkw hall hks hdb hst hpl) fun σ H Q ⟨S, mu, env, cs, ra⟩ => by
    refine (RA.many (T := TRl g) hp ra fun ds env1 cs1 vs H1 S1 mu1 gr t l1 r1 => (RA.many (T := TRl g) hq r1 fun es env2 cs2 zs H2 S2 mu2 gr2 t2 l2 r2 => ?_).rd).rd
    refine ⟨by rw [t.length, l1], by rw [t2.length, l2], EOf W σ, pass_at tk, ?_⟩
    exact RA.callN (fun p hp => (gr.trans gr2).none r2.1.hs hp) r2 (arr_rp (t.mono gr2.mo) t2 sh hd) (by unfold arrV; rw [List.length_map, hsh])
theorem sCallN0 {k : Nat} {f : Addr} {fd : FuncData} {ps ks : List Str} {x : Str} {p pos : Pos} {kws : List Keyword} {mk : M (List D)} {sh : List Src} {φ : Phi} {gU : List Value → List Value → List Value}
    (G : FnG X.prog X.w X.K X.mg X.base (L2.CX X.prog X.w) k f fd ps (spF g ps.length φ)) (hr : Room k X.A) (hgd : X.A.guards = some []) (tk : Takes X W) (hg : Gl X x) (hm : X.mg x = some (.ref f)) (hk : PySem.W.keepIn X.K (.ref f) = true) (hb : KBn X.K fd ps 0 ks gU (arrV sh)) (hsh : sh.length = ps.length) (hd : DflOk g sh)
    (hkw : PK X kws (rdA g F W mk)) (hq : Many ks.length mk) (hall : (backToKw pos (keywordEach kws X.env)).all (·.1.isSome) = true) (hks : (backToKw pos (keywordEach kws X.env)).filterMap (·.1) = ks)
    (hdb : (x == ("__debug__" : Str)) = false) (hpl : ((backTo pos (starEach [] X.env)).any (·.1) || (backToKw pos (keywordEach kws X.env)).any (·.1.isNone)) = false) :
    PE X (.Call (.Name x p) [] kws pos) (rdN g F W (mCall φ sh (M.pure []) mk)) :=
  PE.imp (pe_callG0 G hr hgd hg hm hk hb hkw hall hks hdb hpl) fun σ H Q ⟨S, mu, env, cs, ra⟩ => by
    refine (RA.many (T := TRl g) (f := fun es => mPhi φ (arrD sh [] es)) hq ra fun es env2 cs2 zs H2 S2 mu2 gr2 t2 l2 r2 => ?_).rd
    refine ⟨by rw [t2.length, l2], EOf W σ, pass_at tk, ?_⟩
    exact RA.callN (fun p hp => gr2.none r2.1.hs hp) r2 (arr_rp .nil t2 sh hd) (by unfold arrV; rw [List.length_map, hsh])
end
end EL
namespace EL
open PySem PySem.Spec L2

/-! ### what is bound -/
def arrU (o : Nat) (its us ws : List Value) : Nat → List Src → List Value
  | _, [] => []
  | j, .p i :: r => us.getD i .none :: arrU o its us ws (j + 1) r
  | j, .k i :: r => ws.getD i .none :: arrU o its us ws (j + 1) r
  | j, .d _ _ :: r => its.getD (j - o) .none :: arrU o its us ws (j + 1) r
def ShOk (o : Nat) (dvs : List V) : Nat → List Src → Prop
  | _, [] => True
  | j, .d v _ :: r => dvs[j - o]? = some v ∧ ShOk o dvs (j + 1) r
  | j, _ :: r => ShOk o dvs (j + 1) r
theorem Vals.getD' : ∀ {vs : List V} {us : List Value} (i : Nat), Vals vs us → RelV (vs.getD i .non) (us.getD i .none)
  | _, _, _, .nil => rfl
  | _, _, 0, .cons h _ => h
  | _, _, i + 1, .cons _ r => Vals.getD' i r
theorem arr_rel {o : Nat} {dvs vs zs : List V} {its us ws : List Value} (hd : Vals dvs its) (h1 : Vals vs us) (h2 : Vals zs ws) : ∀ (j : Nat) (sh : List Src), ShOk o dvs j sh → Vals (arrV sh vs zs) (arrU o its us ws j sh)
  | _, [], _ => .nil
  | j, .p i :: r, h => .cons (Vals.getD' i h1) (arr_rel hd h1 h2 (j + 1) r h)
  | j, .k i :: r, h => .cons (Vals.getD' i h2) (arr_rel hd h1 h2 (j + 1) r h)
  | j, .d v x :: r, h => .cons (by
      have := Vals.getD' (j - o) hd
      rw [show dvs.getD (j - o) .non = v by rw [List.getD_eq_getElem?_getD, h.1]; rfl] at this
      exact this) (arr_rel hd h1 h2 (j + 1) r h.2)
section
variable {K : PySem.W.Frag} {x qual : Str} {params : Arguments} {body : List Stmt} {scope : Scope} {dvs : List V} {kws : List (Str × V)} {f : Addr} {fd : FuncData} {ps : List Str}
/-- no defaults -/
theorem kb0 (F : FunD K x qual params body scope [] kws f fd) (n : Nat) (ks : List Str) (sh : List Src) (hs : ShOk 0 [] 0 sh)
    (h : ∀ (kV doc pm : Value) (an : Option Addr) (cdv ct : Value) (us ws : List Value), us.length = n → ws.length = ks.length → bindArgs (PySem.W.fnOf x qual params body scope .none kV doc pm an cdv ct) ⟨us, ks.zip ws⟩ = pure (ps.zip (arrU 0 [] us ws 0 sh))) :
    ∃ gU, KBn K fd ps n ks gU (arrV sh) := by
  obtain ⟨oc, od, dV, kV, doc, pm, an, cdv, ct, osl, rfl, lk, hcd, hD, hK⟩ := F.ex
  rcases hD with ⟨_, rfl⟩ | ⟨e, _⟩
  · exact ⟨fun us ws => arrU 0 [] us ws 0 sh, ⟨fun s us ws _ h1 h2 => .of_eq (h kV doc pm an cdv ct us ws h1 h2), fun r1 r2 => arr_rel .nil r1 r2 0 sh hs⟩⟩
  · exact absurd rfl e
/-- .. with defaults, all written -/
theorem kbD0 (F : FunD K x qual params body scope dvs kws f fd) (n : Nat) (ks : List Str) (sh : List Src) (hs : ShOk 0 [] 0 sh)
    (h : ∀ (dV kV doc pm : Value) (an : Option Addr) (cdv ct : Value) (us ws : List Value), us.length = n → ws.length = ks.length → bindArgs (PySem.W.fnOf x qual params body scope dV kV doc pm an cdv ct) ⟨us, ks.zip ws⟩ = pure (ps.zip (arrU 0 [] us ws 0 sh))) :
    ∃ gU, KBn K fd ps n ks gU (arrV sh) := by
  obtain ⟨oc, od, dV, kV, doc, pm, an, cdv, ct, osl, rfl, lk, hcd, hD, hK⟩ := F.ex
  exact ⟨fun us ws => arrU 0 [] us ws 0 sh, ⟨fun s us ws _ h1 h2 => .of_eq (h dV kV doc pm an cdv ct us ws h1 h2), fun r1 r2 => arr_rel .nil r1 r2 0 sh hs⟩⟩
/-- .. that fill up -/
theorem kbD (F : FunD K x qual params body scope dvs kws f fd) (n o : Nat) (ks : List Str) (sh : List Src) (hd : dvs ≠ []) (hs : ShOk o dvs 0 sh)
    (h : ∀ (T : Addr) (kV doc pm : Value) (an : Option Addr) (cdv ct : Value) (us its ws : List Value), us.length = n → its.length = dvs.length → ws.length = ks.length →
      ∃ k, bindArgs (PySem.W.fnOf x qual params body scope (.ref T) kV doc pm an cdv ct) ⟨us, ks.zip ws⟩ = seqItems? (.ref T) >>= k ∧ k (some its.toArray) = pure (ps.zip (arrU o its us ws 0 sh))) :
    ∃ gU, KBn K fd ps n ks gU (arrV sh) := by
  obtain ⟨oc, od, dV, kV, doc, pm, an, cdv, ct, osl, rfl, lk, hcd, hD, hK⟩ := F.ex
  rcases hD with ⟨e, _⟩ | ⟨_, T, o', its, m, rfl, lT, oT, rT⟩
  · exact absurd e hd
  · refine ⟨fun us ws => arrU o its us ws 0 sh, ⟨fun s us ws X l1 l2 => ?_, fun r1 r2 => arr_rel rT r1 r2 0 sh hs⟩⟩
    obtain ⟨k, e1, e2⟩ := h T kV doc pm an cdv ct us its ws l1 rT.length.symm l2
    refine BindsTo.of_looks fun M => ?_
    rw [e1]
    exact looks_items X lT oT (.of_pure e2)
end
/-- a def of the program -/
structure Fnc (g : Glob) (base : Heap) (k : Nat) (x : Str) (ps : List Str) (φ : Phi) (f : Addr) (fd : FuncData) : Prop where
  mg : g.mg x = some (.ref f)
  kp : PySem.W.keepIn g.K (.ref f) = true
  ok : FnG g.P g.w g.K g.mg base (L2.CX g.P g.w) k f fd ps (spF g ps.length φ)
/-- a body's context -/
abbrev cxF (g : Glob) (base : Heap) (N : List Str) (qual : Str) (scope : Scope) (f : Addr) (cdv : Value) (A : Around) (outer : List PySem.Env) (s : Shared) (H : Hp) (E : XK) : Cx := cxOf (L2.CX g.P g.w) g.P g.w g.K g.mg base N qual scope f cdv A outer s H E
abbrev WE' (E : XK) : WX := fun cls d _ H => E cls d H
theorem takes_cxF {g : Glob} {base : Heap} {N : List Str} {qual : Str} {scope : Scope} {f : Addr} {cdv : Value} {A : Around} {outer : List PySem.Env} {s : Shared} {H : Hp} {E : XK} : Takes (cxF g base N qual scope f cdv A outer s H E) (WE' E) := takes_of rfl rfl rfl rfl
theorem owns_cxF {g : Glob} {base : Heap} {N : List Str} {qual : Str} {scope : Scope} {f : Addr} {cdv : Value} {A : Around} {outer : List PySem.Env} {s : Shared} {H : Hp} {E : XK} : PassesOwn (model (cxF g base N qual scope f cdv A outer s H E).prog (cxF g base N qual scope f cdv A outer s H E).w) (cxF g base N qual scope f cdv A outer s H E).A (cxF g base N qual scope f cdv A outer s H E).env (cxF g base N qual scope f cdv A outer s H E).xe := passes_of rfl
/-- what a body's proof gives -/
def BodyOk (g : Glob) (base : Heap) (k : Nat) (N : List Str) (qual : Str) (scope : Scope) (f : Addr) (body : List Stmt) (m : M Fl) : Prop :=
  ∀ (cdv : Value) (A : Around) (outer : List PySem.Env) (s : Shared) (H : Hp) (E : XK) (F : Ent), Room k (A.deeper (PyProof.Rows.envOfC qual scope s.heap.objs.size f cdv)) → A.guards = some [] → PSs (cxF g base N qual scope f cdv A outer s H E) body (rdS g F (WE' E) m)
/-- a def whose body reads so -/
theorem fn_ofG {C : CXT} {P : Program} {w : World} {K : PySem.W.Frag} {mg : Str → Option Value} {base : Heap} {k : Nat} {f : Addr} {x qual : Str} {params : Arguments} {body : List Stmt} {scope : Scope} {dvs : List V} {kws : List (Str × V)} {fd : FuncData} {N ps : List Str} {sp : Sp}
    (F : FunD K x qual params body scope dvs kws f fd) (S : FnScope N ps scope) (len : ∀ vs H Q E, sp vs H Q E → vs.length = ps.length)
    (hb : ∀ (cdv : Value) (A : Around) (outer : List PySem.Env) (s : Shared) (H : Hp) (vs : List V) (Q : VK) (E : XK), Room k (A.deeper (PyProof.Rows.envOfC qual scope s.heap.objs.size f cdv)) → A.guards = some [] → sp vs H Q E →
      ∃ t, PSs (cxOf C P w K mg base N qual scope f cdv A outer s H E) body t ∧ t { nx := fun _ H' => Q .non H', rt := Q } (L2.start N vs) H) : FnG P w K mg base C (k + 1) f fd ps sp := by
  obtain ⟨oc, od, dV, kV, doc, pm, an, cdv, ct, osl, rfl, lk, hcd, _, _⟩ := F.ex
  refine ⟨len, fun A outer s H ar us vs Q E hr hgd e0 hbd r hsp => ?_⟩
  have inK : K.In s.heap := PySem.W.Frag.In.keeps e0.mod.kin fun b o e => (e0.bs b o e).1
  have noLim := e0.mod.nolimit.keeps (fun b o e => (e0.bs b o e).1 : ∀ b o, base.get? b = some o → s.heap.get? b = some o)
  refine codeAny_call_function (Room.depth hr) (inK f _ lk) rfl S.co S.gen rfl (PySem.W.codeRec_of inK hcd) (hbd _ _ _ _ (wpAny_newFunctionEnv_cells S.kind ?_ ?_))
  · rintro ⟨n, v⟩ hy
    have hn := (List.of_mem_zip hy).1
    cases S.par n hn with
    | inl q => exact Or.inl q
    | inr q => exact Or.inr ⟨q, PySem.W.cellsFrom_some _ _ _ (Or.inl q)⟩
  · rintro env rfl s1 x
    refine ⟨noLim.keeps x.toInCall.keep, codeAny_func ?_⟩
    obtain ⟨t, ht, hq⟩ := hb cdv A outer s H vs Q E (Room.deeper hr _) hgd hsp
    have J0 := inv_start (CX := C) (P := P) (w := w) (E := E) (outer := outer) S hr.hd e0 (len _ _ _ _ hsp) r x
    refine wpAny_mono (ht.run [] s1 (L2.start N vs) H _ J0 hq) ?_ fun _ _ z => z
    intro fl s' hs
    cases fl with
    | ret u => obtain ⟨v, σ', H', J, rv, q⟩ := hs; exact ⟨v, H', J.os, J.bare, J.base, J.hok, rv, q⟩
    | next => obtain ⟨σ', H', J, q⟩ := hs; exact ⟨.non, H', J.os, J.bare, J.base, J.hok, rfl, q⟩
    | brk => exact (hs.choose_spec.choose_spec.2 : False).elim
    | cont => exact (hs.choose_spec.choose_spec.2 : False).elim
theorem fn_ok {g : Glob} {base : Heap} {k : Nat} {N ps : List Str} {x qual : Str} {params : Arguments} {body : List Stmt} {scope : Scope} {dvs : List V} {kws : List (Str × V)} {f : Addr} {fd : FuncData} {m : M Fl} (F : FunD g.K x qual params body scope dvs kws f fd) (S : FnScope N ps scope) (hm : g.mg x = some (.ref f))
    (b : BodyOk g base k N qual scope f body m) : Fnc g base (k + 1) x ps (runDef N.length m) f fd :=
  ⟨hm, F.kp, fn_ofG F S (fun vs H Q E h => h.1) fun cdv A outer s H vs Q E hr hgd h => by
    obtain ⟨Fe, q⟩ := run_start h
    exact ⟨_, b cdv A outer s H E Fe hr hgd, q⟩⟩

/-! ### in short -/
section
variable {g : Glob} {F : Ent} {W : WX} {X : Cx} {a b c e : Expr} {es : List Expr} {st : Stmt} {sts : List Stmt} {pos : Pos}
theorem wVar (i : Nat) {x : Str} (hN : X.N[i]? = some x := by rfl) (hv : Vis X.env.scope x := by first | exact Or.inl rfl | exact Or.inr (Or.inl rfl) | exact Or.inr (Or.inr rfl)) (hd : (x == ("__debug__" : Str)) = false := by decide) (hcd : (x == ("__classdict__" : Str)) = false := by decide) :
    PE X (.Name x pos) (rdZ g F W (mVar i)) := sVar (pe_var hN hv hd hcd)
theorem wPeek (i : Nat) {x : Str} (hN : X.N[i]? = some x := by rfl) (hv : Vis X.env.scope x := by first | exact Or.inl rfl | exact Or.inr (Or.inl rfl) | exact Or.inr (Or.inr rfl)) (hd : (x == ("__debug__" : Str)) = false := by decide) (hcd : (x == ("__classdict__" : Str)) = false := by decide) :
    PE X (.Name x pos) (rdO g F W (mPeek i)) := sPeek (pe_var hN hv hd hcd)
theorem wInt {i : Int} {j : Nat} : PE X (.Constant (.int i) j pos) (rdZ g F W (M.pure (.int i))) := sC pe_int fun _ _ => .int _
theorem wStr {x : Str} {j : Nat} : PE X (.Constant (.str x) j pos) (rdZ g F W (M.pure (.str x))) := sC pe_str fun _ _ => .str _
theorem wBl {x : Bool} {j : Nat} : PE X (.Constant (.bool x) j pos) (rdZ g F W (M.pure (.bl x))) := sC pe_bl fun _ _ => .bl _
theorem wNon {j : Nat} : PE X (.Constant .none j pos) (rdZ g F W (M.pure .non)) := sC pe_non fun _ _ => .non
theorem wGInt {x : Str} {i : Int} (h : ∃ t, X.mg x = some (.int i t)) (hg : Gl X x := by rfl) (hd : (x == ("__debug__" : Str)) = false := by decide) : PE X (.Name x pos) (rdZ g F W (M.pure (.int i))) := by
  obtain ⟨t, h⟩ := h
  exact sC (v := .int i) (pe_glob hg h ⟨t, rfl⟩ hd) fun _ _ => .int _
theorem wGStr {x : Str} {i : Str} (h : ∃ t, X.mg x = some (.str i t)) (hg : Gl X x := by rfl) (hd : (x == ("__debug__" : Str)) = false := by decide) : PE X (.Name x pos) (rdZ g F W (M.pure (.str i))) := by
  obtain ⟨t, h⟩ := h
  exact sC (v := .str i) (pe_glob hg h ⟨t, rfl⟩ hd) fun _ _ => .str _
theorem wBin {op : Operator} {f : F2} {ma mb : M D} (h : OpS g (binaryOp op) f) (ha : PE X a (rdO g F W ma)) (hb : PE X b (rdO g F W mb)) (hK : X.K = g.K := by rfl) (hu : X.A.units + 64 < cLine := by assumption) : PE X (.BinOp a op b pos) (rdE g F W (mOp2 (dr2 f) ma mb)) := sBin hK hu h ha hb
theorem wCmp {op : CmpOp} {f : F2} {ma mb : M D} (h : OpS g (compareOp op) f) (ha : PE X a (rdO g F W ma)) (hb : PE X b (rdO g F W mb)) (hm : behindInMarks op b = false := by exact nomark _) (hK : X.K = g.K := by rfl) (hu : X.A.units + 64 < cLine := by assumption) :
    PE X (.Compare a [op] [b] pos) (rdE g F W (mOp2 (dr2 f) ma mb)) := sCmp hK hu h ha hb hm
theorem wCmpT {op : CmpOp} {f : F2} {ma mb : M D} (h : OpS g (compareOp op) f) (ha : PE X a (rdO g F W ma)) (hb : PE X b (rdO g F W mb)) (hm : behindInMarks op b = false := by exact nomark _) (hK : X.K = g.K := by rfl) (hu : X.A.units + 64 < cLine := by assumption) :
    PT X (.Compare a [op] [b] pos) (rdT g F W (mBl (mOp2 (dr2 f) ma mb))) := sCmpT hK hu h ha hb hm
theorem wIn {ma mb : M D} (ha : PE X a (rdZ g F W ma)) (hb : PE X b (rdO g F W mb)) (hm : behindInMarks .In b = false := by with_unfolding_all rfl) (hK : X.K = g.K := by rfl) (hu : X.A.units + 64 < cLine := by assumption) :
    PE X (.Compare a [.In] [b] pos) (rdE g F W (mOp2 (drR (opIn false)) ma mb)) := sIn hK hu ha hb hm
theorem wInT {ma mb : M D} (ha : PE X a (rdZ g F W ma)) (hb : PE X b (rdO g F W mb)) (hm : behindInMarks .In b = false := by with_unfolding_all rfl) (hK : X.K = g.K := by rfl) (hu : X.A.units + 64 < cLine := by assumption) :
    PT X (.Compare a [.In] [b] pos) (rdT g F W (mBl (mOp2 (drR (opIn false)) ma mb))) := sInT hK hu ha hb hm
theorem wNin {ma mb : M D} (ha : PE X a (rdZ g F W ma)) (hb : PE X b (rdO g F W mb)) (hm : behindInMarks .NotIn b = false := by with_unfolding_all rfl) (hK : X.K = g.K := by rfl) (hu : X.A.units + 64 < cLine := by assumption) :
    PE X (.Compare a [.NotIn] [b] pos) (rdE g F W (mOp2 (drR (opIn true)) ma mb)) := sNin hK hu ha hb hm
theorem wNinT {ma mb : M D} (ha : PE X a (rdZ g F W ma)) (hb : PE X b (rdO g F W mb)) (hm : behindInMarks .NotIn b = false := by with_unfolding_all rfl) (hK : X.K = g.K := by rfl) (hu : X.A.units + 64 < cLine := by assumption) :
    PT X (.Compare a [.NotIn] [b] pos) (rdT g F W (mBl (mOp2 (drR (opIn true)) ma mb))) := sNinT hK hu ha hb hm
theorem wChain {op op' : CmpOp} {f f' : F2} {ma mb mc : M D} (h : OpS g (compareOp op) f) (h' : OpS g (compareOp op') f') (ha : PE X a (rdO g F W ma)) (hb : PE X b (rdO g F W mb)) (hc : PE X c (rdO g F W mc)) (hm : lastMarks [op, op'] [b, c] = false := by with_unfolding_all rfl) (hK : X.K = g.K := by rfl) (hu : X.A.units + 64 < cLine := by assumption) :
    PE X (.Compare a [op, op'] [b, c] pos) (rdE g F W (mChain (dr2 f) (dr2 f') ma mb mc)) := sChain hK hu h h' ha hb hc hm
theorem wChainT {op op' : CmpOp} {f f' : F2} {ma mb mc : M D} (h : OpS g (compareOp op) f) (h' : OpS g (compareOp op') f') (ha : PE X a (rdO g F W ma)) (hb : PE X b (rdO g F W mb)) (hc : PE X c (rdO g F W mc)) (hm : lastMarks [op, op'] [b, c] = false := by with_unfolding_all rfl) (hK : X.K = g.K := by rfl) (hu : X.A.units + 64 < cLine := by assumption) :
    PT X (.Compare a [op, op'] [b, c] pos) (rdT g F W (mBl (mChain (dr2 f) (dr2 f') ma mb mc))) := sChainT hK hu h h' ha hb hc hm
theorem wTrue {ma : M D} (ha : PE X a (rdO g F W ma)) (hp : plainT a = true := by rfl) (hK : X.K = g.K := by rfl) : PT X a (rdT g F W (mTr ma)) := sTrue hK ha hp
theorem wNotV {ma : M D} (ha : PE X a (rdO g F W ma)) (hK : X.K = g.K := by rfl) : PE X (.UnaryOp .Not a pos) (rdE g F W (mNotV ma)) := sNotV hK ha
theorem wAndV {rest : List Expr} {ma : M D} {mb : M (D × Bool)} (ha : PE X a (rdZ g F W ma)) (hb : PE X (.BoolOp .And (b :: rest) pos) (rdE g F W mb)) (hK : X.K = g.K := by rfl) : PE X (.BoolOp .And (a :: b :: rest) pos) (rdE g F W (mAndV ma mb)) := sAndV hK ha hb
theorem wOrV {rest : List Expr} {ma : M D} {mb : M (D × Bool)} (ha : PE X a (rdZ g F W ma)) (hb : PE X (.BoolOp .Or (b :: rest) pos) (rdE g F W mb)) (hK : X.K = g.K := by rfl) : PE X (.BoolOp .Or (a :: b :: rest) pos) (rdE g F W (mOrV ma mb)) := sOrV hK ha hb
theorem wOneV {op : BoolOp} {m : M (D × Bool)} (ha : PE X a (rdE g F W m)) : PE X (.BoolOp op [a] pos) (rdE g F W m) := pe_one ha
theorem wIdx {ma mb : M D} (ha : PE X a (rdO g F W ma)) (hb : PE X b (rdO g F W mb)) (h : ∀ l u s p, b ≠ .Slice l u s p := by intros; intro h; cases h) (hK : X.K = g.K := by rfl) : PE X (.Subscript a b pos) (rdE g F W (mOp2 (dr2 opIdx) ma mb)) := sIdx hK ha hb h
theorem wSlice {me : M D} {ml mh : M (Option Int)} {lo hi : Option Expr} {p2 : Pos} (he : PE X e (rdO g F W me)) (hl : PO X lo (rdP g F W ml)) (hh : PO X hi (rdP g F W mh)) (hK : X.K = g.K := by rfl) : PE X (.Subscript e (.Slice lo hi none p2) pos) (rdE g F W (mSlice me ml mh)) := sSlice hK he hl hh
theorem wACons {ma : M D} {mr : M (List D)} (h1 : PE X e (rdZ g F W ma)) (h2 : PA X es (rdA g F W mr)) (hs : ∀ x p, e ≠ .Starred x p := by intros; intro h; cases h) : PA X (e :: es) (rdA g F W (mCons ma mr)) := sACons h1 h2 hs
theorem wOCons {ma : M D} {mr : M (List D)} (h1 : PE X e (rdO g F W ma)) (h2 : PA X es (rdOs g F W mr)) (hs : ∀ x p, e ≠ .Starred x p := by intros; intro h; cases h) : PA X (e :: es) (rdOs g F W (mCons ma mr)) := sOCons h1 h2 hs
theorem wTup {n : Nat} {m : M (List D)} (h : PA X es (rdA g F W m)) (sh : Many n m) {x1} (hn : n ≤ 1000 := by decide) : PE X (.Tuple es x1 pos) (rdE g F W (mTup m)) := sTup h (sh.short hn)
theorem wLst {n : Nat} {m : M (List D)} (h : PA X es (rdA g F W m)) (sh : Many n m) (hn : n ≤ 1000 := by decide) : PE X (.List es pos) (rdE g F W (mLst m)) := sLst h (sh.short hn)
theorem wB {id : String} {f : OpFn} {x : Str} {p : Pos} {m : M (List D)} (h : CallS g (.builtin id) f) (hm : X.mg x = none) (ha : PA X (e :: es) (rdOs g F W m)) (hg : Gl X x := by rfl) (hv : bootBuiltins x = some (.builtin id) := by rfl) (hst : ∀ x p, e ≠ .Starred x p := by intros; intro h; cases h) (hn : x ≠ "__name__" := by decide) (hdb : (x == ("__debug__" : Str)) = false := by decide)
    (hpl : (backTo pos (starEach es X.env)).any (·.1) = false := by rfl) (hK : X.K = g.K := by rfl) (hu : X.A.units + 64 < cLine := by assumption) (hc : X.calm = true := by rfl) : PE X (.Call (.Name x p) (e :: es) [] pos) (rdE g F W (mOpN f m)) := sB hK hu hc h hg hm hv ha hst hn hdb hpl
theorem wTy {T : String} {f : OpFn} {x : Str} {p : Pos} {m : M (List D)} (h : CallS g (.type T) f) (hm : X.mg x = none) (ha : PA X (e :: es) (rdOs g F W m)) (hg : Gl X x := by rfl) (hv : bootBuiltins x = some (.type T) := by rfl) (hst : ∀ x p, e ≠ .Starred x p := by intros; intro h; cases h) (hn : x ≠ "__name__" := by decide) (hdb : (x == ("__debug__" : Str)) = false := by decide)
    (hpl : (backTo pos (starEach es X.env)).any (·.1) = false := by rfl) (hK : X.K = g.K := by rfl) (hu : X.A.units + 64 < cLine := by assumption) (hc : X.calm = true := by rfl) : PE X (.Call (.Name x p) (e :: es) [] pos) (rdE g F W (mOpN f m)) := sTy hK hu hc h hg hm hv ha hst hn hdb hpl
/-- a built-in type as a value -/
theorem wT (T : String) {x : Str} (hm : X.mg x = none) (hg : Gl X x := by rfl) (hv : bootBuiltins x = some (.type T) := by rfl) (hn : x ≠ "__name__" := by decide) (hd : (x == ("__debug__" : Str)) = false := by decide) : PE X (.Name x pos) (tC (.ty T)) := pe_bltn hg hm hv rfl hn hd
theorem wIsi (T : String) {p : Pos} {ma : M D} (hm : X.mg "isinstance" = none) (ha : PE X a (rdO g F W ma)) (hb : PE X b (tC (.ty T))) (hT : T ∈ tyNames := by decide) (hg : Gl X "isinstance" := by rfl) (hst : ∀ x p, a ≠ .Starred x p := by intros; intro h; cases h) (hst2 : ∀ x p, b ≠ .Starred x p := by intros; intro h; cases h) (hK : X.K = g.K := by rfl) :
    PE X (.Call (.Name "isinstance" p) [a, b] [] pos) (rdE g F W (mOp1 (fIsi (isiD [T])) ma)) :=
  sIsi (u := .type T) hK hg hm (isi_tys (cs := [T]) fun c hc => by rw [List.mem_singleton.mp hc]; exact hT) ha hst hst2 hb (.ty T)
theorem tys_paired : ∀ cs : List String, Paired ClsV (cs.map V.ty) (cs.map Value.type)
  | [] => .nil
  | c :: cs => .cons (.ty c) (tys_paired cs)
theorem wIsiT (Ts : List String) {p tpos : Pos} {k : Nat} {ma : M D} (hm : X.mg "isinstance" = none) (ha : PE X a (rdO g F W ma)) (hb : PA X es (fun _ H Q => Q (Ts.map V.ty) H)) (hT : ∀ T ∈ Ts, T ∈ tyNames := by decide) (hl : Ts.length ≤ 100 := by decide) (hg : Gl X "isinstance" := by rfl) (hst : ∀ x p, a ≠ .Starred x p := by intros; intro h; cases h) (hK : X.K = g.K := by rfl) :
    PE X (.Call (.Name "isinstance" p) [a, .Tuple es k tpos] [] pos) (rdE g F W (mOp1 (fIsi (isiD Ts)) ma)) :=
  sIsiT hK hg hm (isi_tys hT) ha hst hb (by rw [List.length_map]; exact hl) (tys_paired Ts)
theorem wAcCons {T : String} {Ts : List String} (h1 : PE X e (tC (.ty T))) (h2 : PA X es (fun _ H Q => Q (Ts.map V.ty) H)) (hs : ∀ x p, e ≠ .Starred x p := by intros; intro h; cases h) : PA X (e :: es) (fun _ H Q => Q ((T :: Ts).map V.ty) H) := ac_cons h1 h2 hs
/-! ### walks -/
theorem wISeq {tg : Expr} {m : M D} (he : PE X e (rdZ g F W m)) (hK : X.K = g.K := by rfl) : PI X tg e (rdI g F W (mItems m)) := sISeq hK he
theorem wRng1 {p : Pos} {tg : Expr} {m : M (List D)} (hm : X.mg "range" = none) (ha : PA X [a] (rdA g F W m)) (hg : Gl X "range" := by rfl) (hst : ∀ x p, a ≠ .Starred x p := by intros; intro h; cases h) : PI X tg (.Call (.Name "range" p) [a] [] pos) (rdI g F W (mRng1 m)) := sRng1 hg hm ha hst
theorem wRng2 {p : Pos} {tg : Expr} {m : M (List D)} (hm : X.mg "range" = none) (ha : PA X [a, b] (rdA g F W m)) (hg : Gl X "range" := by rfl) (hst : ∀ x p, a ≠ .Starred x p := by intros; intro h; cases h) (hst2 : ∀ x p, b ≠ .Starred x p := by intros; intro h; cases h) : PI X tg (.Call (.Name "range" p) [a, b] [] pos) (rdI g F W (mRng2 m)) := sRng2 hg hm ha hst hst2
theorem wEnum {elts : List Expr} {kk : Nat} {tpos : Pos} {p : Pos} {m : M (List D)} (hm : X.mg "enumerate" = none) (ha : PA X [a] (rdA g F W m)) (hg : Gl X "enumerate" := by rfl) (hst : ∀ x p, a ≠ .Starred x p := by intros; intro h; cases h) (hK : X.K = g.K := by rfl) :
    PI X (.Tuple elts kk tpos) (.Call (.Name "enumerate" p) [a] [] pos) (rdI g F W (mEnum m)) := sEnum hK hg hm ha hst
theorem wTgN {i : Nat} {x : Str} {vs : List Nat} (hN : X.N.Nodup) (hv : i ∈ vs := by decide) (hi : X.N[i]? = some x := by rfl) (hx : Loc X.env.scope x := by first | exact Or.inl rfl | exact Or.inr rfl) (hf : X.fn x = true ∨ X.env.scope.names.lookup x = some .local := by first | exact Or.inl rfl | exact Or.inr rfl) : PG X (.Name x pos) (rdG g F W vs (mTg (.name i))) := sTgN hv hN hi hx hf
theorem wTgsCons {tg : Tg} {ts : List Tg} {vs : List Nat} (h0 : PG X e (rdG g F W vs (mTg tg))) (h : PGs X es (rdGs g F W vs (mTgs ts))) (hs : ∀ x p, e ≠ .Starred x p := by intros; intro h; cases h) : PGs X (e :: es) (rdGs g F W vs (mTgs (tg :: ts))) := sTgsCons h0 hs h
theorem wTgT {k : Nat} {ts : List Tg} {vs : List Nat} (h : PGs X es (rdGs g F W vs (mTgs ts))) (hl : es.length = ts.length := by rfl) (hn : (assignEach es X.env).length = es.length := by rfl) (hst : (assignEach es X.env).findIdx? (·.1) = none := by rfl) (hK : X.K = g.K := by rfl) (hc : X.calm = true := by rfl) : PG X (.Tuple es k pos) (rdG g F W vs (mTg (.tup ts))) := sTgT hK hc h hl hn hst
theorem wFor {tge iter : Expr} {body : List Stmt} {mi : M (List D)} {tg : Tg} {mb : M Fl} (vs : List Nat) (hp : PassesOwn (model X.prog X.w) X.A X.env X.xe) (hi : PI X tge iter (rdI g F W mi)) (hg : ∀ F, PG X tge (rdG g F W vs (mTg tg))) (hb : ∀ F, PSs X body (rdS g F W mb))
    (hs : ∀ x, foldedSetIterable iter X.env x = pure x := by intro _; rfl) (hc : X.calm = true := by rfl) : PS X (.For tge iter body [] pos) (rdS g F W (mFor mi tg mb)) := sFor hp hc hi hg hb hs
theorem wSet {i : Nat} {x : Str} {p2 : Pos} {m : M (D × Bool)} (hN : X.N.Nodup) (he : PE X e (rdE g F W m)) (hi : X.N[i]? = some x := by rfl) (hx : Loc X.env.scope x := by first | exact Or.inl rfl | exact Or.inr rfl) (hf : X.fn x = true ∨ X.env.scope.names.lookup x = some .local := by first | exact Or.inl rfl | exact Or.inr rfl) (hn : noComp e = true := by rfl) :
    PS X (.Assign [.Name x p2] e pos) (rdS g F W (mSet i m)) := sSet hN hi hx hf he hn
theorem wExpr {m : M (D × Bool)} (he : PE X e (rdE g F W m)) (hn : noComp e = true := by rfl) : PS X (.Expr e pos) (rdS g F W (mDrop m)) := sExpr he hn
theorem wSetI {o i : Expr} {ip : Nat} {mi me : M D} {p2 : Pos} (ho : PE X o (tVar ip)) (hi : PE X i (rdO g F W mi)) (he : PE X e (rdZ g F W me)) (hs : swapsWithSole [.Subscript o i p2] e pos.line X.env = pure false := by rfl) (hw : swappedStores [.Subscript o i p2] e X.env = pure none := by rfl)
    (ha : ∀ v, assign (.Subscript o i p2) X.env v = (do
      let ov ← holding [v] (eval o X.env)
      let iv ← holding [v, ov] (eval i X.env)
      standAt p2
      holding [v, ov, iv] (setItem ov iv v)
      release [v, ov, iv] []) := by intro _; rfl) : PS X (.Assign [.Subscript o i p2] e pos) (rdS g F W (mSetI ip mi me)) := sSetI ho hi he hs hw ha
theorem wPot {o i : Expr} {ip jd : Nat} {mi me : M D} {p2 pd pt : Pos} {y : Str} {kt : Nat} (hN : X.N.Nodup) (ho : PE X o (tVar ip)) (hi : PE X i (rdO g F W mi)) (he : PE X e (rdZ g F W me)) (hy : X.N[jd]? = some y := by rfl) (hx : Loc X.env.scope y := by first | exact Or.inl rfl | exact Or.inr rfl) (hf : X.fn y = true ∨ X.env.scope.names.lookup y = some .local := by first | exact Or.inl rfl | exact Or.inr rfl)
    (hs : swapsWithSole [.Tuple [.Subscript o i p2, .Name y pd] kt pt] e pos.line X.env = pure false := by rfl) (hw : swappedStores [.Tuple [.Subscript o i p2, .Name y pd] kt pt] e X.env = pure none := by rfl)
    (ha : ∀ v, assign (.Subscript o i p2) X.env v = (do
      let ov ← holding [v] (eval o X.env)
      let iv ← holding [v, ov] (eval i X.env)
      standAt p2
      holding [v, ov, iv] (setItem ov iv v)
      release [v, ov, iv] []) := by intro _; rfl) (hK : X.K = g.K := by rfl) (hc : X.calm = true := by rfl) : PS X (.Assign [.Tuple [.Subscript o i p2, .Name y pd] kt pt] e pos) (rdS g F W (mPot ip jd mi me)) := sPot hK hc ho hi he hN hy hx hf hs hw ha
/-- a statement that is never reached -/
theorem wNever : PS X st (rdS g F W M.stuck) := PS.imp ps_never fun E σ H ⟨S, mu, env, cs, r, q⟩ => q.elim
/-- tuple targets -/
def mSetT (m : M D) (tg : Tg) : M Fl := m.bind fun d => (mTg tg d).bind fun _ => M.pure .nx
theorem wSetT {tge : Expr} {m : M D} {tg : Tg} (vs : List Nat) (hg : PG X tge (rdG g F W vs (mTg tg))) (he : PE X e (rdZ g F W m)) (hs : swapsWithSole [tge] e pos.line X.env = pure false := by rfl) (hw : swappedStores [tge] e X.env = pure none := by rfl) (h1 : (assignEach [tge] X.env).map (·.2) = [assign tge X.env] := by rfl) :
    PS X (.Assign [tge] e pos) (rdS g F W (mSetT m tg)) := PS.imp (ps_asg he hg hs hw h1) fun E σ H q => rdS.ex q fun d env1 cs1 v H1 S1 mu1 r1 t1 p1 => by
  rw [PoS.bind] at p1
  exact ⟨S1, mu1, env1, cs1, d, r1, t1, (Post.exF p1 fun k fs e c => mTg_noexc tg d env1 cs1 k fs e c).on fun _ e c k σ2 on2 r2 => k σ2 H1 S1 mu1 r2⟩
end
/-- a call of a def of the program -/
theorem wCall {g : Glob} {F : Ent} {W : WX} {X : Cx} {k n : Nat} {f : Addr} {fd : FuncData} {ps ks : List Str} {x : Str} {p pos : Pos} {e : Expr} {es : List Expr} {kws : List Keyword} {mp mk : M (List D)} {φ : Phi} {kk : Nat} (sh : List Src) {gU : List Value → List Value → List Value}
    (G : FnG X.prog X.w X.K X.mg X.base (L2.CX X.prog X.w) k f fd ps (spF g ps.length φ)) (hm : X.mg x = some (.ref f)) (hk : PySem.W.keepIn X.K (.ref f) = true) (hr : Room kk X.A) (hb : KBn X.K fd ps n ks gU (arrV sh)) (tk : Takes X W) (ha : PA X (e :: es) (rdA g F W mp)) (hkw : PK X kws (rdA g F W mk)) (hp : Many n mp) (hq : Many ks.length mk)
    (hd : DflOk g sh) (hle : k ≤ kk := by decide) (hgd : X.A.guards = some [] := by assumption) (hg : Gl X x := by rfl) (hsh : sh.length = ps.length := by rfl) (hall : (backToKw pos (keywordEach kws X.env)).all (·.1.isSome) = true := by rfl) (hks : (backToKw pos (keywordEach kws X.env)).filterMap (·.1) = ks := by rfl)
    (hdb : (x == ("__debug__" : Str)) = false := by decide) (hst : ∀ x p, e ≠ .Starred x p := by intros; intro h; cases h) (hpl : ((backTo pos (starEach (e :: es) X.env)).any (·.1) || (backToKw pos (keywordEach kws X.env)).any (·.1.isNone)) = false := by rfl) :
    PE X (.Call (.Name x p) (e :: es) kws pos) (rdN g F W (mCall φ sh mp mk)) := sCallN G (hr.mono hle) hgd tk hg hm hk hb hsh hd ha hkw hp hq hall hks hdb hst hpl
theorem wCall0 {g : Glob} {F : Ent} {W : WX} {X : Cx} {k : Nat} {f : Addr} {fd : FuncData} {ps ks : List Str} {x : Str} {p pos : Pos} {kws : List Keyword} {mk : M (List D)} {φ : Phi} {kk : Nat} (sh : List Src) {gU : List Value → List Value → List Value}
    (G : FnG X.prog X.w X.K X.mg X.base (L2.CX X.prog X.w) k f fd ps (spF g ps.length φ)) (hm : X.mg x = some (.ref f)) (hk : PySem.W.keepIn X.K (.ref f) = true) (hr : Room kk X.A) (hb : KBn X.K fd ps 0 ks gU (arrV sh)) (tk : Takes X W) (hkw : PK X kws (rdA g F W mk)) (hq : Many ks.length mk)
    (hd : DflOk g sh) (hle : k ≤ kk := by decide) (hgd : X.A.guards = some [] := by assumption) (hg : Gl X x := by rfl) (hsh : sh.length = ps.length := by rfl) (hall : (backToKw pos (keywordEach kws X.env)).all (·.1.isSome) = true := by rfl) (hks : (backToKw pos (keywordEach kws X.env)).filterMap (·.1) = ks := by rfl)
    (hdb : (x == ("__debug__" : Str)) = false := by decide) (hpl : ((backTo pos (starEach [] X.env)).any (·.1) || (backToKw pos (keywordEach kws X.env)).any (·.1.isNone)) = false := by rfl) :
    PE X (.Call (.Name x p) [] kws pos) (rdN g F W (mCall φ sh (M.pure []) mk)) := sCallN0 G (hr.mono hle) hgd tk hg hm hk hb hsh hd hkw hq hall hks hdb hpl
theorem dfl_nil {g : Glob} {sh : List Src} (h : (sh.all fun | .d _ _ => false | _ => true) = true) : DflOk g sh := fun v x m => by
  have := List.all_eq_true.mp h _ m
  cases this
theorem dfl_int {g : Glob} {sh : List Src} (h : (sh.all fun | .d (.int i) (.int j) => i == j | .d (.bl i) (.bl j) => i == j | .d .non .non => true | .d _ _ => false | _ => true) = true) : DflOk g sh := fun v x m S mu => by
  have := List.all_eq_true.mp h _ m
  cases v <;> cases x <;> first | (cases this; done) | skip
  · exact .non
  · rw [show _ = _ from eq_of_beq this]; exact .bl _
  · rw [show _ = _ from eq_of_beq this]; exact .int _
def mE (m : M D) : M (D × Bool) := m.bind fun d => M.pure (d, false)
def mNot (m : M Bool) : M Bool := m.bind fun b => M.pure (!b)
theorem wE {g : Glob} {F : Ent} {W : WX} {X : Cx} {e : Expr} {m : M D} (h : PE X e (rdZ g F W m)) : PE X e (rdE g F W (mE m)) := sE h
theorem wNotT {g : Glob} {F : Ent} {W : WX} {X : Cx} {a : Expr} {pos : Pos} {ma : M Bool} (ha : PT X a (rdT g F W ma)) : PT X (.UnaryOp .Not a pos) (rdT g F W (mNot ma)) := sNotT ha
end EL
namespace EL
open PySem PySem.Spec PyProof.Rows L2

/-! ### a law's end -/
theorem ints_rp {g : Glob} {S : Hp} {mu : List Addr} : ∀ l : List Int, RpL g S mu (l.map V.int) (l.map D.int)
  | [] => .nil
  | i :: l => .cons (.int i) (ints_rp l)
theorem sp_law {g : Glob} {φ : Phi} {H : Hp} {a : Addr} {ns : List Int} (h : ∃ c, φ [.lst (ns.map D.int)] [] = .ok (.bl true) false c) (hS : SqL g.K H a (ns.map V.int)) : spF g 1 φ [.ref a] H (fun v _ => v = .bl true) fun _ _ _ => False := by
  obtain ⟨c, e⟩ := h
  rcases hS with hS | hS
  · refine ⟨rfl, L2.upd (fun _ => none) a (.lst (ns.map V.int)), [], [], [.lst (ns.map D.int)], ⟨fun b u hb => ?_, rfl, List.nodup_nil, (fun i b c h => by simp at h), fun b f hb sf => ?_⟩, .cons (.lst (.inl upd_same) (ints_rp ns)) .nil, ?_⟩
    · by_cases hba : b = a
      · subst hba
        rw [upd_same] at hb
        cases hb
        exact hS
      · rw [upd_ne hba] at hb
        cases hb
    · by_cases hba : b = a
      · subst hba
        rw [upd_same] at hb
        cases hb
        cases sf
      · rw [upd_ne hba] at hb
        cases hb
    · unfold PoF
      rw [e]
      exact fun v H' S' mu' _ r => by cases r; rfl
  · refine ⟨rfl, fun _ => none, [], [], [.lst (ns.map D.int)], ⟨fun b u hb => (by cases hb), rfl, List.nodup_nil, (fun i b c h => by simp at h), fun b f hb _ => (by cases hb)⟩, .cons (.lst (.inr hS) (ints_rp ns)) .nil, ?_⟩
    unfold PoF
    rw [e]
    exact fun v H' S' mu' _ r => by cases r; rfl
/-- the law's call, from the promise of its def where nothing guards -/
theorem law_run {P : Program} {w : World} {K : PySem.W.Frag} {mg mb : Str → Option Value} {C : CXT} {k : Nat} {fa a : Addr} {fd : FuncData} {x : Str} {sp : Sp} {s : Shared} {vs : List Value} {ns : List Int}
    (KX : K.In s.heap) (nsM : s.heap.Ns mainGlobals mg) (nsB : s.heap.Ns builtinsNs mb) (boot : ∀ x : Str, x ≠ "__name__" → mb x = bootBuiltins x) (lim : s.heap.NoLimit) (hg : s.gens = #[])
    (ha : s.heap.get? a = some { cls := .type "list", data := .seq vs.toArray }) (hi : IntsAre vs ns) (hl : ns.length ≤ sizeLine) (hr : Room k callerA)
    (F : ∀ base : Heap, K.In base → base.Ns mainGlobals mg → FnG P w K mg base C k fa fd [x] sp) (hbd : ∀ (s : Shared) (u : Value), BindsTo s fd ⟨[u], []⟩ [(x, u)])
    (hsp : ∀ H : Hp, SqL K H a (ns.map V.int) → sp [.ref a] H (fun v _ => v = .bl true) fun _ _ _ => False) (hC : ∀ H e s', C [] H s (fun _ _ _ => False) e s' → False) :
    codeAny (model P w) callerA (.call (.ref fa) ⟨[.ref a], []⟩) (fun r s' => r = .ok (.ret (.bool true)) ∧ OldK s.heap s'.heap ∧ s'.os = s.os ∧ AllBare s'.gens) s := by
  have rv := vals_ints hi
  -- one road for both kinds of scripts: tracked is the script alone, or nothing
  suffices go : ∀ t : Bool, (t = true → K.lookup a = none) → (t = false → ∃ o, K.lookup a = some o) → codeAny (model P w) callerA (.call (.ref fa) ⟨[.ref a], []⟩) (fun r s' => r = .ok (.ret (.bool true)) ∧ OldK s.heap s'.heap ∧ s'.os = s.os ∧ AllBare s'.gens) s by
    cases hk : K.lookup a with
    | none => exact go true (fun _ => hk) fun z => nomatch z
    | some o => exact go false (fun z => nomatch z) fun _ => ⟨o, hk⟩
  intro t h1 h0
  obtain ⟨H, hH⟩ : ∃ H : Hp, H = fun b => if b = a ∧ t = true then some (.frz { cls := .type "list", data := .seq vs.toArray } (.lst (ns.map V.int))) else none := ⟨_, rfl⟩
  have at_ : ∀ b u, H b = some u → b = a ∧ t = true ∧ u = .frz { cls := .type "list", data := .seq vs.toArray } (.lst (ns.map V.int)) := fun b u e => by
    rw [hH] at e
    simp only [] at e
    by_cases hb : b = a ∧ t = true
    · rw [if_pos hb] at e
      exact ⟨hb.1, hb.2, (Option.some.inj e).symm⟩
    · rw [if_neg hb] at e; cases e
  have free : ∀ b o, s.heap.get? b = some o → (b = a → t = false ∨ (∀ its n, o.data ≠ .seq its n)) → H b = none := fun b o e h => by
    cases q : H b with
    | none => rfl
    | some u =>
      obtain ⟨e1, e2, _⟩ := at_ b u q
      subst e1
      rw [ha] at e
      cases e
      rcases h rfl with z | z
      · rw [e2] at z; cases z
      · exact (z _ _ rfl).elim
  have keepNs : ∀ {b : Addr} {m : Str → Option Value}, s.heap.Ns b m → (hidT s.heap H).Ns b m := fun {b m} h => by
    obtain ⟨o, es, ep, e, d, r⟩ := h
    exact ⟨o, es, ep, hidT_get e (free b o e fun _ => .inr fun its n z => by rw [d] at z; cases z), d, r⟩
  have inB : K.In (hidT s.heap H) := fun b o e => hidT_get (KX b o e) (free b _ (KX b o e) fun hb => .inl (by
    cases t with
    | false => rfl
    | true => rw [hb, h1 rfl] at e; cases e))
  have mod : Mod K mg (hidT s.heap H) := ⟨inB, keepNs nsM, ⟨mb, keepNs nsB, boot⟩, by
    obtain ⟨mc, l1, l2⟩ := lim
    exact ⟨mc, keepNs l1, l2⟩⟩
  have hok : HOk P w H s.heap := fun b u e => by
    obtain ⟨e1, _, e3⟩ := at_ b u e
    subst e1 e3
    exact ⟨ha, by rw [List.length_map]; exact hl, vs, _, rv, ha⟩
  have hS : SqL K H a (ns.map V.int) := by
    cases t with
    | true => exact .inl (.inr ⟨_, by rw [hH]; exact if_pos ⟨rfl, rfl⟩⟩)
    | false =>
      obtain ⟨o, ho⟩ := h0 rfl
      have e := KX a o ho
      rw [ha] at e
      cases e
      exact .inr ⟨_, vs.toArray, _, ho, rfl, rfl, rfl, by rw [List.size_toArray, hi.length]; exact hl, by simpa using rv⟩
  have env : Env0 P w K mg (hidT s.heap H) callerA [] s H := ⟨rfl, mod, fun b o e => of_hidT e, Nat.le_of_eq (hidT_size _ _), trivial, (fun b hb => nomatch (show b ∈ ([] : List Addr) from hb)), hok, .of_eq hg⟩
  refine codeAny_mono ((F _ inB (keepNs nsM)).run callerA [] s H ⟨[.ref a], []⟩ [.ref a] [.ref a] _ _ hr rfl env (hbd s (.ref a)) (.cons rfl .nil) (hsp H hS)) ?_
  intro r s' h
  rcases r with e | fl
  · exact (hC H e s' h).elim
  · cases fl <;> first | exact False.elim h | skip
    obtain ⟨v, H', os, bare, un, hok', rr, q⟩ := h
    have q : v = .bl true := q
    subst q
    cases (show _ = Value.bool true from rr)
    refine ⟨rfl, OldK.of_keep fun b o e => ?_, os, bare⟩
    cases q : H b with
    | none => exact un.keep b o e q (fun z => nomatch (show b ∈ ([] : List Addr) from z)) (by simp)
    | some u =>
      obtain ⟨_, _, e3⟩ := at_ b u q
      subst e3
      have z := hok' b _ (un.frzs b _ _ q)
      have z0 := hok b _ q
      have z1 : s.heap.get? b = some _ := z0.1
      have z2 : s'.heap.get? b = some _ := z.1
      rw [e] at z1
      cases z1
      exact z2
theorem walk_end {l : PySem.W.OpenLaw} {n k : Nat} {q : Program} {loose : List Str} {XP : (Str → Option Value) → Heap → Prop} {YP : World → Heap → Prop} {d : DefRec} {x : Str} {φ : Phi} (hn : l.most = some n) (hn2 : n ≤ sizeLine) (hdf : d.params.defaults = []) (hr : Room k callerA)
    (pure_law : ∀ ns : List Int, ns.length ≤ n → ∃ c, φ [.lst (ns.map D.int)] [] = .ok (.bl true) false c)
    (F : ∀ (w : World) (mg : Str → Option Value) (h : Heap), YP w h → h.Ns mainGlobals mg → ∃ (K : PySem.W.Frag) (f : Addr) (fd : FuncData) (ca : Nat → Addr), K.In h ∧ (∀ base : Heap, K.In base → base.Ns mainGlobals mg → Fnc ⟨l.prog, w, K, mg, ca⟩ base k d.name [x] φ f fd) ∧ ∀ (s : Shared) (v : Value), BindsTo s fd ⟨[v], []⟩ [(x, v)]) :
    PySem.W.WalkO q loose XP YP l.row.toRowW d [] (fun f vs => PySem.call f vs) := by
  refine Att.attach_call hn hdf ?_
  intro w s0 s1 mg mb fa o pm cd doc a vs ns G Y ho hd hcd hmg hobj hints hlen hg
  obtain ⟨K, f, fd, ca, KX, hF, hb⟩ := F w mg _ Y G.T.g
  have e : f = fa := by
    have h2 : some (Value.ref f) = some (Value.ref fa) := (hF _ KX G.T.g).mg.symm.trans hmg
    cases h2
    rfl
  subst e
  refine law_run (C := L2.CX l.prog w) (sp := spF ⟨l.prog, w, K, mg, ca⟩ 1 φ) KX G.T.g G.T.b G.T.builtins G.T.nolimit hg hobj hints (Nat.le_trans hlen hn2) hr ?_ hb ?_ ?_
  · exact fun base hK hG => (hF base hK hG).ok
  · exact fun H hS => sp_law (g := ⟨l.prog, w, K, mg, ca⟩) (pure_law ns hlen) hS
  · exact fun H e s' z => by
      obtain ⟨_, _, _, _, _, _, _, _, _, _, _, _, h⟩ := z
      exact h
end EL
namespace EL
open PySem PySem.Spec L2

/-! ### runs, step by step -/
section
variable {α β : Type} {e : Env} {c : Cells}
@[simp] theorem ap_pure {a : α} : M.pure a e c = .ok a e c := rfl
@[simp] theorem ap_stuck : (M.stuck : M α) e c = .stuck := rfl
@[simp] theorem ap_bind {m : M α} {f : α → M β} : M.bind m f e c = (match m e c with
  | .ok a e' c' => f a e' c'
  | .exc k fs e' c' => .exc k fs e' c'
  | .stuck => .stuck) := rfl
@[simp] theorem ap_opt_some {a : α} : M.opt (some a) e c = .ok a e c := rfl
@[simp] theorem ap_opt_none : (M.opt none : M α) e c = .stuck := rfl
@[simp] theorem ap_cs {f : Cells → Option α} : mCs f e c = M.opt (f c) e c := rfl
@[simp] theorem ap_ite {b : Prop} [Decidable b] {m m' : M α} : (if b then m else m') e c = if b then m e c else m' e c := by split <;> rfl
@[simp] theorem ap_Z {m : M (D × Bool)} : mZ m e c = M.bind m (fun r => M.pure r.1) e c := rfl
@[simp] theorem ap_E {m : M D} : mE m e c = M.bind m (fun d => M.pure (d, false)) e c := rfl
@[simp] theorem ap_var {i : Nat} : mVar i e c = (match e[i]? with
  | some (.fz d) => .ok d e c
  | some (.ow d) => .ok d (e.set i (.fz d)) c
  | _ => .stuck) := rfl
@[simp] theorem ap_peek {i : Nat} : mPeek i e c = (match e[i]? with
  | some (.fz d) => .ok d e c
  | some (.ow d) => .ok d e c
  | _ => .stuck) := rfl
@[simp] theorem ap_cons {ma : M D} {mr : M (List D)} : mCons ma mr e c = M.bind ma (fun d => mr.bind fun ds => M.pure (d :: ds)) e c := rfl
@[simp] theorem ap_tup {m : M (List D)} : mTup m e c = M.bind m (fun ds => M.pure (.tup ds, false)) e c := rfl
@[simp] theorem ap_lst {m : M (List D)} : mLst m e c = M.bind m (fun ds => M.pure (.lst ds, true)) e c := rfl
@[simp] theorem ap_op2 {f : OpF2} {ma mb : M D} : mOp2 f ma mb e c = M.bind ma (fun a => mb.bind fun b => mCs fun cs => f cs a b) e c := rfl
@[simp] theorem ap_op1 {f : OpF1} {ma : M D} : mOp1 f ma e c = M.bind ma (fun a => mCs fun cs => f cs a) e c := rfl
@[simp] theorem ap_opN {f : OpFn} {ma : M (List D)} : mOpN f ma e c = M.bind ma (fun a => mCs fun cs => f cs a) e c := rfl
@[simp] theorem ap_chain {f f' : OpF2} {ma mb mc : M D} : mChain f f' ma mb mc e c = M.bind ma (fun x => mb.bind fun y => (mCs fun cs => (f cs x y).bind blD).bind fun k =>
  if k then mc.bind fun z => mCs fun cs => f' cs y z else M.pure (.bl false, false)) e c := rfl
@[simp] theorem ap_tr {ma : M D} : mTr ma e c = M.bind ma (fun a => mCs fun cs => trC cs a) e c := rfl
@[simp] theorem ap_bl {ma : M (D × Bool)} : mBl ma e c = M.bind ma (fun a => M.opt (blD a)) e c := rfl
@[simp] theorem ap_not {ma : M Bool} : mNot ma e c = M.bind ma (fun b => M.pure (!b)) e c := rfl
@[simp] theorem ap_and {ma mb : M Bool} : mAnd ma mb e c = M.bind ma (fun b => if b then mb else M.pure false) e c := rfl
@[simp] theorem ap_or {ma mb : M Bool} : mOr ma mb e c = M.bind ma (fun b => if b then M.pure true else mb) e c := rfl
@[simp] theorem ap_notV {ma : M D} : mNotV ma e c = M.bind ma (fun a => mCs fun cs => (trC cs a).map fun k => (.bl (!k), false)) e c := rfl
@[simp] theorem ap_andV {ma : M D} {mb : M (D × Bool)} : mAndV ma mb e c = M.bind ma (fun a => (mCs fun cs => trC cs a).bind fun k => if k then mb else M.pure (a, false)) e c := rfl
@[simp] theorem ap_orV {ma : M D} {mb : M (D × Bool)} : mOrV ma mb e c = M.bind ma (fun a => (mCs fun cs => trC cs a).bind fun k => if k then M.pure (a, false) else mb) e c := rfl
@[simp] theorem ap_if {mt : M Bool} {ma mb : M α} : mIf mt ma mb e c = M.bind mt (fun b => if b then ma else mb) e c := rfl
@[simp] theorem ap_part {m : M D} : mPart m e c = M.bind m (fun d => M.opt (intD d)) e c := rfl
@[simp] theorem ap_slice {me : M D} {ml mh : M (Option Int)} : mSlice me ml mh e c = M.bind me (fun d => ml.bind fun lo => mh.bind fun hi => mCs fun cs => (dr cs d).bind fun x => slD x lo hi) e c := rfl
@[simp] theorem ap_items {m : M D} : mItems m e c = M.bind m (fun d => M.opt (itemsD d)) e c := rfl
@[simp] theorem ap_rng1 {m : M (List D)} : mRng1 m e c = M.bind m (fun ds => M.opt (rng1D ds)) e c := rfl
@[simp] theorem ap_rng2 {m : M (List D)} : mRng2 m e c = M.bind m (fun ds => M.opt (rng2D ds)) e c := rfl
@[simp] theorem ap_enum {m : M (List D)} : mEnum m e c = M.bind m (fun ds => M.opt (enD ds)) e c := rfl
@[simp] theorem ap_cell {m : M (D × Bool)} : mCell m e c = M.bind m (fun r env cs => if r.2 then .ok (.cell cs.length) env (cs ++ [r.1]) else .stuck) e c := rfl
@[simp] theorem ap_call {φ : Phi} {sh : List Src} {mp mk : M (List D)} : mCall φ sh mp mk e c = M.bind mp (fun ds => mk.bind fun es => mPhi φ (arrD sh ds es)) e c := rfl
@[simp] theorem ap_phi {φ : Phi} {ds : List D} : mPhi φ ds e c = (match φ ds c with
  | .ok d fr c => .ok (d, fr) e c
  | .exc k fs c => .exc k fs e c
  | .stuck => .stuck) := rfl
@[simp] theorem ap_seq {m m' : M Fl} : mSeq m m' e c = (match m e c with
  | .ok fl e' c' => (match fl with
    | .nx => m' e' c'
    | .bk => .ok .bk e' c'
    | .ct => .ok .ct e' c'
    | .rt d fr => .ok (.rt d fr) e' c')
  | .exc k fs e' c' => .exc k fs e' c'
  | .stuck => .stuck) := by
  unfold mSeq
  rw [ap_bind]
  cases m e c with
  | ok fl e' c' => cases fl <;> rfl
  | exc => rfl
  | stuck => rfl
@[simp] theorem ap_ret {m : M (D × Bool)} : mRet m e c = M.bind m (fun r => M.pure (.rt r.1 r.2)) e c := rfl
@[simp] theorem ap_drop {m : M (D × Bool)} : mDrop m e c = M.bind m (fun _ => M.pure .nx) e c := rfl
@[simp] theorem ap_put {i : Nat} {r : D × Bool} : mPut i r e c = if i < e.length then .ok () (e.set i (slotOf r)) c else .stuck := rfl
@[simp] theorem ap_set {i : Nat} {m : M (D × Bool)} : mSet i m e c = M.bind m (fun r => (mPut i r).bind fun _ => M.pure .nx) e c := rfl
@[simp] theorem ap_setT {m : M D} {tg : Tg} : mSetT m tg e c = M.bind m (fun d => (mTg tg d).bind fun _ => M.pure .nx) e c := rfl
@[simp] theorem ap_tgN {i : Nat} {d : D} : mTg (.name i) d e c = mPut i (d, false) e c := rfl
@[simp] theorem ap_tgT {ts : List Tg} {ds : List D} : mTg (.tup ts) (.tup ds) e c = mTgs ts ds e c := rfl
@[simp] theorem ap_tgsN : mTgs [] [] e c = .ok () e c := rfl
@[simp] theorem ap_tgsC {t : Tg} {ts : List Tg} {d : D} {ds : List D} : mTgs (t :: ts) (d :: ds) e c = M.bind (mTg t d) (fun _ => mTgs ts ds) e c := rfl
@[simp] theorem ap_comp {mi : M (List D)} {vs : List Nat} {tg : Tg} {mt : M Bool} {me : M D} : mComp mi vs tg mt me e c = M.bind mi (fun ds => (mBlk vs (compM (turnM vs tg mt me) ds)).bind fun xs => M.pure (.lst xs, true)) e c := rfl
@[simp] theorem ap_blk {vs : List Nat} {m : M α} : mBlk vs m e c = (match m (wipeE e vs) c with
  | .ok a e' c' => .ok a (restE e e' vs) c'
  | _ => .stuck) := rfl
@[simp] theorem ap_turn {vs : List Nat} {tg : Tg} {mt : M Bool} {me : M D} {d : D} : turnM vs tg mt me d e c = (match M.bind (mTg tg d) (fun _ => mt.bind fun b => if b then me.bind fun x => M.pure (some x) else M.pure none) e c with
  | .ok a e' c' => .ok a (wipeE e' vs) c'
  | _ => .stuck) := by
  unfold turnM mWipe
  cases M.bind (mTg tg d) (fun _ => mt.bind fun b => if b then me.bind fun x => M.pure (some x) else M.pure none) e c <;> rfl
@[simp] theorem ap_for {mi : M (List D)} {tg : Tg} {mb : M Fl} : mFor mi tg mb e c = M.bind mi (fun ds => forM (fun d => (mTg tg d).bind fun _ => mb) ds) e c := rfl
@[simp] theorem ap_mut {ip : Nat} {f : D → Option (α × D)} : mMut ip f e c = (match e[ip]? with
  | some (.ow d) => (match f d with
    | some (y, d') => .ok y (e.set ip (.ow d')) c
    | none => .stuck)
  | some (.fz (.cell n)) => (match c[n]? with
    | some d => (match f d with
      | some (y, d') => .ok y e (c.set n d')
      | none => .stuck)
    | none => .stuck)
  | _ => .stuck) := rfl
@[simp] theorem ap_setI {ip : Nat} {mi me : M D} : mSetI ip mi me e c = M.bind me (fun x => (mPeek ip).bind fun _ => mi.bind fun k => (mMut ip (setD k x)).bind fun _ => M.pure .nx) e c := rfl
def potK (ip jd : Nat) (mi : M D) (x : D) : M Fl := match x with
  | .tup [a, b] => (mPeek ip).bind fun _ => mi.bind fun k => (mMut ip (setD k a)).bind fun _ => (mPut jd (b, false)).bind fun _ => M.pure .nx
  | _ => M.stuck
@[simp] theorem ap_pot {ip jd : Nat} {mi me : M D} : mPot ip jd mi me e c = M.bind me (potK ip jd mi) e c := rfl
@[simp] theorem ap_potK {ip jd : Nat} {mi : M D} {a b : D} : potK ip jd mi (.tup [a, b]) e c = M.bind (mPeek ip) (fun _ => mi.bind fun k => (mMut ip (setD k a)).bind fun _ => (mPut jd (b, false)).bind fun _ => M.pure .nx) e c := rfl
end
section
variable {a b : D} {ds : List D}
@[simp] theorem ap_lt : opLt a b = cmpI (fun i j => decide (i < j)) strLt a b := rfl
@[simp] theorem ap_le : opLe a b = cmpI (fun i j => decide (i ≤ j)) (fun x y => !strLt y x) a b := rfl
@[simp] theorem ap_gt : opGt a b = cmpI (fun i j => decide (j < i)) (fun x y => strLt y x) a b := rfl
@[simp] theorem ap_ge : opGe a b = cmpI (fun i j => decide (j ≤ i)) (fun x y => !strLt x y) a b := rfl
@[simp] theorem ap_max : fMax ds = orN fMaxL fMax2 ds := rfl
@[simp] theorem ap_min : fMin ds = orN fMinL fMin2 ds := rfl
@[simp] theorem items_lst : itemsD (.lst ds) = some ds := rfl
@[simp] theorem items_tup : itemsD (.tup ds) = some ds := rfl
theorem items_str {x : Str} (h : x.length ≤ sizeLine) : itemsD (.str x) = some (signs x) := by
  show (if x.length ≤ sizeLine then some (signs x) else none) = _
  rw [if_pos h]
@[simp] theorem rng1_int {j : Int} : rng1D [.int j] = if decide (-1000000 ≤ j ∧ j ≤ 1000000) then some (rangeD 0 j.toNat) else none := rfl
@[simp] theorem rng2_int {i j : Int} : rng2D [.int i, .int j] = if decide (-1000000 ≤ i ∧ i ≤ 1000000 ∧ -1000000 ≤ j ∧ j ≤ 1000000) then some (rangeD i (j - i).toNat) else none := rfl
@[simp] theorem en_lst : enD [.lst ds] = if ds.length ≤ sizeLine then some (enumD 0 ds) else none := rfl
end
/-! ### comprehensions over known rows -/
theorem compM_if {α : Type} {turn : D → M (Option D)} {h k : α → D} {p : α → Bool} {env : Env} {cs : Cells} : ∀ (l : List α), (∀ x ∈ l, turn (h x) env cs = .ok (if p x then some (k x) else none) env cs) → compM turn (l.map h) env cs = .ok ((l.filter p).map k) env cs
  | [], _ => rfl
  | x :: l, ht => by
    have ih := compM_if (turn := turn) (h := h) (k := k) (p := p) (env := env) (cs := cs) l fun y hy => ht y (List.mem_cons_of_mem _ hy)
    have h1 := ht x List.mem_cons_self
    show M.bind (turn (h x)) (fun o => (compM turn (l.map h)).bind fun xs => M.pure (o.toList ++ xs)) env cs = _
    rw [ap_bind, h1]
    simp only [ap_bind, ih, ap_pure]
    cases hp : p x with
    | true => simp [hp]
    | false => simp [hp]
theorem compM_map {α : Type} {turn : D → M (Option D)} {h k : α → D} {env : Env} {cs : Cells} (l : List α) (ht : ∀ x ∈ l, turn (h x) env cs = .ok (some (k x)) env cs) : compM turn (l.map h) env cs = .ok (l.map k) env cs := by
  have := compM_if (turn := turn) (h := h) (k := k) (p := fun _ => true) (env := env) (cs := cs) l fun x hx => by rw [ht x hx]; rfl
  rw [this, List.filter_eq_self.mpr fun _ _ => rfl]
/-- over what changes: I holds of the cells, each item comes out as P says -/
theorem compM_inv {turn : D → M (Option D)} {env : Env} {I : Cells → Prop} {P : D → Prop} : ∀ (ds : List D) (cs : Cells), I cs → (∀ d ∈ ds, ∀ cs, I cs → ∃ x cs', turn d env cs = .ok (some x) env cs' ∧ P x ∧ I cs') → ∃ xs cs', compM turn ds env cs = .ok xs env cs' ∧ xs.length = ds.length ∧ (∀ x ∈ xs, P x) ∧ I cs'
  | [], cs, hi, _ => ⟨[], cs, rfl, rfl, (fun _ h => nomatch h), hi⟩
  | d :: ds, cs, hi, ht => by
    obtain ⟨x, cs1, h1, hP, h2⟩ := ht d List.mem_cons_self cs hi
    obtain ⟨xs, cs2, h3, h4, h5, h6⟩ := compM_inv ds cs1 h2 fun y hy => ht y (List.mem_cons_of_mem _ hy)
    refine ⟨x :: xs, cs2, ?_, by simp [h4], fun y hy => ?_, h6⟩
    · show M.bind (turn d) (fun o => (compM turn ds).bind fun xs => M.pure (o.toList ++ xs)) env cs = _
      simp [h1, h3]
    · rcases List.mem_cons.mp hy with rfl | hy
      · exact hP
      · exact h5 y hy
/-- all turns go on -/
theorem forM_nx {body : D → M Fl} {env : Env} {cs : Cells} : ∀ (ds : List D), (∀ d ∈ ds, body d env cs = .ok .nx env cs) → forM body ds env cs = .ok .nx env cs
  | [], _ => rfl
  | d :: ds, h => by
    have h1 := h d List.mem_cons_self
    have ih := forM_nx (body := body) (env := env) (cs := cs) ds fun y hy => h y (List.mem_cons_of_mem _ hy)
    show M.bind (body d) _ env cs = _
    rw [ap_bind, h1]
    exact ih
theorem intsD_map {α : Type} (f : α → Int) : ∀ l : List α, intsD (l.map fun x => .int (f x)) = some (l.map f)
  | [] => rfl
  | x :: l => by
    show (intsD (l.map fun x => .int (f x))).map (fun is => f x :: is) = _
    rw [intsD_map f l]
    rfl
theorem blsD_map {α : Type} (f : α → Bool) : ∀ l : List α, blsD (l.map fun x => .bl (f x)) = some (l.map f)
  | [] => rfl
  | x :: l => by
    show (blsD (l.map fun x => .bl (f x))).map (fun is => f x :: is) = _
    rw [blsD_map f l]
    rfl
theorem enumD_zip {α : Type} (h : α → D) : ∀ (l : List α) (n : Nat), enumD n (l.map h) = (l.zipIdx n).map fun q => .tup [.int q.2, h q.1]
  | [], _ => rfl
  | x :: l, n => by
    show D.tup [.int n, h x] :: enumD (n + 1) (l.map h) = _
    rw [enumD_zip h l (n + 1), List.zipIdx_cons, List.map_cons]
/-- all turns go on, what they change as I says -/
theorem forM_inv {body : D → M Fl} {I : Env → Cells → Prop} : ∀ (ds : List D) (env : Env) (cs : Cells), I env cs → (∀ d ∈ ds, ∀ env cs, I env cs → ∃ env' cs', body d env cs = .ok .nx env' cs' ∧ I env' cs') → ∃ env' cs', forM body ds env cs = .ok .nx env' cs' ∧ I env' cs'
  | [], env, cs, h, _ => ⟨env, cs, rfl, h⟩
  | d :: ds, env, cs, h, hb => by
    obtain ⟨e1, c1, h1, h2⟩ := hb d List.mem_cons_self env cs h
    obtain ⟨e2, c2, h3, h4⟩ := forM_inv ds e1 c1 h2 fun y hy => hb y (List.mem_cons_of_mem _ hy)
    refine ⟨e2, c2, ?_, h4⟩
    show M.bind (body d) _ env cs = _
    rw [ap_bind, h1]
    exact h3
/-- out of facts about the items -/
theorem list_of {α : Type} {h : α → D} {P : α → Prop} : ∀ {xs : List D}, (∀ x ∈ xs, ∃ p, x = h p ∧ P p) → ∃ l : List α, xs = l.map h ∧ l.length = xs.length ∧ ∀ p ∈ l, P p
  | [], _ => ⟨[], rfl, rfl, fun _ h => nomatch h⟩
  | x :: xs, hx => by
    obtain ⟨p, e, hp⟩ := hx x List.mem_cons_self
    obtain ⟨l, e2, hl, hP⟩ := list_of (xs := xs) fun y hy => hx y (List.mem_cons_of_mem _ hy)
    refine ⟨p :: l, by rw [e, e2]; rfl, by simp [hl], fun q hq => ?_⟩
    rcases List.mem_cons.mp hq with rfl | hq
    · exact hp
    · exact hP q hq
end EL
namespace EL
open PySem PySem.Spec PyProof.Rows L2

/-! ### repr -/
def kP : Key → PyData
  | .inl i => .int i
  | .inr x => .str x
mutual
def pD : D → Option PyData
  | .non => some .none
  | .bl b => some (.bool b)
  | .int i => some (.int i)
  | .str x => some (.str x)
  | .lst ds => (pDs ds).map .list
  | .tup ds => (pDs ds).map .tuple
  | .dct kvs => (pKs kvs).map .dict
  | .ins _ _ => none
  | .cell _ => none
  | .slf _ _ _ => none
  | .adr _ => none
  | .tab _ => none
def pDs : List D → Option (List PyData)
  | [] => some []
  | d :: ds => (pD d).bind fun x => (pDs ds).map fun xs => x :: xs
def pKs : List (Key × D) → Option (List (PyData × PyData))
  | [] => some []
  | (k, d) :: ds => (pD d).bind fun x => (pKs ds).map fun xs => (kP k, x) :: xs
end
section
variable {g : Glob} {X : Cx} {pins : List (Addr × Obj)} {σ : SS} {H S : Hp} {s : Shared} {mu : List Addr} {cs : Cells}
theorem not_sys (I : L2.Inv X pins σ H s) (hs : SysIn X.K) {a : Addr} {o : Obj} (h : s.heap.get? a = some o) (hc : o.cls ≠ .type "dict") : a ≠ sysModules := fun e => by
  obtain ⟨o', h1, h2⟩ := hs
  have := I.kIn _ _ h1
  rw [← e, h] at this
  cases this
  exact hc h2
theorem mem_app {as bs : List Addr} {a : Addr} (h1 : a ∉ as) (h2 : a ∉ bs) : a ∉ as ++ bs := fun h => (List.mem_append.mp h).elim h1 h2
theorem key_reads {h : Heap} {k : Key} {v : Value} (e : keyIs k v = true) : Reads h v (kP k) [] := by
  rcases keyIs_shape e with ⟨i, t, rfl, rfl⟩ | ⟨x, t, rfl, rfl⟩
  · exact .int i t
  · exact .str x t
mutual
theorem rp_reads (I : L2.Inv X pins σ H s) (hs : HS g H S mu cs) (hK : X.K = g.K) (hy : SysIn X.K) : ∀ (d : D) (v : V) (u : Value) (x : PyData), Rp g S mu v d → RelV v u → pD d = some x → ∃ as, Reads s.heap u x as ∧ sysModules ∉ as
  | .non, _, _, _, .non, r, e => by
    cases r
    simp only [pD] at e
    cases e
    exact ⟨_, .none, by simp⟩
  | .bl b, _, _, _, .bl _, r, e => by
    cases r
    simp only [pD] at e
    cases e
    exact ⟨_, .bool b, by simp⟩
  | .int i, _, _, _, .int _, r, e => by
    obtain ⟨t, rfl⟩ := r
    simp only [pD] at e
    cases e
    exact ⟨_, .int i t, by simp⟩
  | .str y, _, _, _, .str _, r, e => by
    obtain ⟨t, rfl⟩ := r
    simp only [pD] at e
    cases e
    exact ⟨_, .str y t, by simp⟩
  | .lst ds, _, _, _, .lst h1 h2, r, e => by
    cases r
    simp only [pD] at e
    cases e1 : pDs ds with
    | none => rw [e1] at e; cases e
    | some xs =>
      rw [e1] at e
      cases e
      have w : Vw g H S mu _ (.lst ds) := .inl (.lst h1 h2)
      obtain ⟨a, vs, ea, k1, k2⟩ := w.lst hs
      cases ea
      obtain ⟨its, rv, ⟨o, n, ho, hc, hd, ht⟩, _⟩ := I.list (hK.symm ▸ k1)
      obtain ⟨as, q1, q2⟩ := rpl_reads I hs hK hy ds vs its xs k2 rv e1
      refine ⟨_, .list ho hc ht (by simpa using q1), fun z => ?_⟩
      rcases List.mem_cons.mp z with z | z
      · exact not_sys I hy ho (by rw [hc]; exact fun z => absurd (Value.type.inj z) (by decide)) z.symm
      · exact q2 z
  | .tup ds, _, _, _, .tup h1 h2, r, e => by
    cases r
    simp only [pD] at e
    cases e1 : pDs ds with
    | none => rw [e1] at e; cases e
    | some xs =>
      rw [e1] at e
      cases e
      have w : Vw g H S mu _ (.tup ds) := .inl (.tup h1 h2)
      obtain ⟨a, vs, ea, k1, k2⟩ := w.tup hs
      cases ea
      obtain ⟨its, rv, ⟨o, ho, hc, n, hd⟩, _⟩ := I.tuple (hK.symm ▸ k1)
      obtain ⟨as, q1, q2⟩ := rpl_reads I hs hK hy ds vs its xs k2 rv e1
      exact ⟨_, .tuple ho hc hd (by simpa using q1), q2⟩
  | .dct ds, _, _, _, .dct h1 h2, r, e => by
    cases r
    simp only [pD] at e
    cases e1 : pKs ds with
    | none => rw [e1] at e; cases e
    | some xs =>
      rw [e1] at e
      cases e
      obtain ⟨hsy, vs, kv, o, es, ep, ho, hx, hd, _, hp, _⟩ : (_ == sysModules) = false ∧ ∃ vs, KV _ vs ∧ s.heap.DictOf (mixKind X.prog X.w) _ vs := by
        rcases hs.sub _ _ h1 with h | ⟨ob, h⟩
        · exact ⟨(I.hok _ _ h).2.1, (I.hok _ _ h).2.2⟩
        · obtain ⟨q1, q2, q3, vs, q4, q5⟩ := I.hok _ _ h
          exact ⟨q3, vs, q4, q5⟩
      obtain ⟨as, bs, q1, q2, q3, q4⟩ := rpk_reads I hs hK hy ds _ vs es.toList xs h2 kv hp e1
      refine ⟨_, .dict ho hx.1 hd q1 q2, fun z => ?_⟩
      rcases List.mem_cons.mp z with z | z
      · rw [← z] at hsy
        simp at hsy
      · exact (List.mem_append.mp z).elim q3 q4
  | .ins _ _, _, _, _, _, _, e => by simp [pD] at e
  | .cell _, _, _, _, _, _, e => by simp [pD] at e
  | .slf _ _ _, _, _, _, _, _, e => by simp [pD] at e
  | .adr _, _, _, _, _, _, e => by simp [pD] at e
  | .tab _, _, _, _, _, _, e => by simp [pD] at e
theorem rpl_reads (I : L2.Inv X pins σ H s) (hs : HS g H S mu cs) (hK : X.K = g.K) (hy : SysIn X.K) : ∀ (ds : List D) (vs : List V) (us : List Value) (xs : List PyData), RpL g S mu vs ds → Vals vs us → pDs ds = some xs → ∃ as, ReadsAll s.heap us xs as ∧ sysModules ∉ as
  | [], _, _, _, .nil, r, e => by
    cases r
    simp only [pDs] at e
    cases e
    exact ⟨_, .nil, by simp⟩
  | d :: ds, _, _, _, .cons h1 h2, r, e => by
    cases r with
    | cons r1 r2 =>
      simp only [pDs] at e
      cases e1 : pD d with
      | none => rw [e1] at e; cases e
      | some x =>
        rw [e1] at e
        cases e2 : pDs ds with
        | none => simp [e2] at e
        | some xs =>
          have e : (pDs ds).map (fun xs => x :: xs) = some _ := e
          rw [e2] at e
          cases e
          obtain ⟨as, q1, q2⟩ := rp_reads I hs hK hy d _ _ x h1 r1 e1
          obtain ⟨bs, q3, q4⟩ := rpl_reads I hs hK hy ds _ _ xs h2 r2 e2
          exact ⟨_, .cons q1 q3, mem_app q2 q4⟩
theorem rpk_reads (I : L2.Inv X pins σ H s) (hs : HS g H S mu cs) (hK : X.K = g.K) (hy : SysIn X.K) : ∀ (ds : List (Key × D)) (ws : List (Key × V)) (us : List (Key × Value)) (es : List DictEntry) (xs : List (PyData × PyData)), RpK g S mu ws ds → KV ws us → Pairs (mixKind X.prog X.w) es us → pKs ds = some xs →
    ∃ as bs, ReadsAll s.heap (es.map (·.key)) (xs.map (·.1)) as ∧ ReadsAll s.heap (es.map (·.val)) (xs.map (·.2)) bs ∧ sysModules ∉ as ∧ sysModules ∉ bs
  | [], _, _, _, _, .nil, r, p, e => by
    cases r
    cases p
    simp only [pKs] at e
    cases e
    exact ⟨_, _, .nil, .nil, by simp, by simp⟩
  | (k, d) :: ds, _, _, _, _, .cons h1 h2, r, p, e => by
    cases r with
    | cons r1 r2 =>
      cases p with
      | cons p1 p2 p3 =>
        simp only [pKs] at e
        cases e1 : pD d with
        | none => rw [e1] at e; cases e
        | some x =>
          rw [e1] at e
          cases e2 : pKs ds with
          | none => simp [e2] at e
          | some xs =>
            have e : (pKs ds).map (fun xs => (kP k, x) :: xs) = some _ := e
            rw [e2] at e
            cases e
            obtain ⟨r3, r4⟩ := r1
            obtain ⟨as, q1, q2⟩ := rp_reads I hs hK hy d _ _ x h1 r4 e1
            obtain ⟨as2, bs2, q3, q4, q5, q6⟩ := rpk_reads I hs hK hy ds _ _ _ xs h2 r2 p3 e2
            refine ⟨_, _, .cons (key_reads (k := k) (by rw [show k = _ from r3]; exact p1)) q3, .cons ?_ q4, mem_app (by simp) q5, mem_app q2 q6⟩
            rw [← p2] at q1
            exact q1
end
end
/-- what repr tells -/
def reprD (d : D) : Option (D × Bool) := (pD d).bind fun x => if x.showable && decide (x.depth ≤ 40) && decide (x.shown.length ≤ sizeLine) then some (.str x.shown, false) else none
def mRepr (m : M D) : M (D × Bool) := mOp1 (fun cs d => (dr cs d).bind reprD) m
theorem vw_reads {g : Glob} {X : Cx} {pins : List (Addr × Obj)} {σ : SS} {H S : Hp} {s : Shared} {mu : List Addr} {cs : Cells} (I : L2.Inv X pins σ H s) (hs : HS g H S mu cs) (hK : X.K = g.K) (hy : SysIn X.K) {d : D} {v : V} {u : Value} {x : PyData} (w : Vw g H S mu v d) (r : RelV v u) (e : pD d = some x) : ∃ as, Reads s.heap u x as ∧ sysModules ∉ as := by
  rcases w with w | ⟨a, ea, w⟩
  · exact rp_reads I hs hK hy d v u x w r e
  · subst ea
    cases r
    cases d <;> first | exact w.elim | skip
    · obtain ⟨vs, h1, h2⟩ := w
      rename_i ds
      simp only [pD] at e
      cases e1 : pDs ds with
      | none => rw [e1] at e; cases e
      | some xs =>
        rw [e1] at e
        cases e
        obtain ⟨its, rv, ⟨o, n, ho, hc, hd, ht⟩, _⟩ := I.list (X := X) (.inl (.inl h1))
        obtain ⟨as, q1, q2⟩ := rpl_reads I hs hK hy ds vs its xs h2 rv e1
        refine ⟨_, .list ho hc ht (by simpa using q1), fun z => ?_⟩
        rcases List.mem_cons.mp z with z | z
        · exact not_sys I hy ho (by rw [hc]; exact fun z => absurd (Value.type.inj z) (by decide)) z.symm
        · exact q2 z
    · obtain ⟨vs, h1, h2⟩ := w
      rename_i ds
      simp only [pD] at e
      cases e1 : pKs ds with
      | none => rw [e1] at e; cases e
      | some xs =>
        rw [e1] at e
        cases e
        obtain ⟨_, hsy, ws, kv, o, es, ep, ho, hx, hd, _, hp, _⟩ := I.hok a _ h1
        obtain ⟨as, bs, q1, q2, q3, q4⟩ := rpk_reads I hs hK hy ds _ ws es.toList xs h2 kv hp e1
        refine ⟨_, .dict ho hx.1 hd q1 q2, fun z => ?_⟩
        rcases List.mem_cons.mp z with z | z
        · rw [← z] at hsy
          simp at hsy
        · exact (List.mem_append.mp z).elim q3 q4
    all_goals simp [pD] at e
theorem call_reprG {g : Glob} {X : Cx} (hK : X.K = g.K) (hu : X.A.units + 64 < cLine) (hgd : X.A.guards = some []) (hy : SysIn X.K) {pins : List (Addr × Obj)} {σ : SS} {H S : Hp} {s : Shared} {mu : List Addr} {cs : Cells} (I : L2.Inv X pins σ H s) (hs : HS g H S mu cs) {d : D} {v : V} {u : Value} {y : D × Bool} {Q : VK} (w : Vw g H S mu v d) (r : RelV v u) (e : reprD d = some y)
    (q : ∀ x, y = (.str x, false) → Q (.str x) H) : wpAny (model X.prog X.w) X.A (call (.builtin "repr") [u]) (EP X pins σ Q) X.xe s := by
  unfold reprD at e
  cases e1 : pD d with
  | none => rw [e1] at e; cases e
  | some x =>
    rw [e1] at e
    have e : (if x.showable && decide (x.depth ≤ 40) && decide (x.shown.length ≤ sizeLine) then some (D.str x.shown, false) else none) = some y := e
    split at e
    · rename_i hc
      cases e
      simp only [Bool.and_eq_true, decide_eq_true_eq] at hc
      obtain ⟨⟨h1, h2⟩, h3⟩ := hc
      obtain ⟨as, rd, hn⟩ := vw_reads I hs hK hy w r e1
      have q := q x.shown rfl
      cases rd with
      | none => exact PySem.P.repr_of_none ⟨.str _, H, I.tok _, ⟨_, rfl⟩, q⟩
      | bool b => exact PySem.P.repr_of_bool ⟨.str _, H, I.tok _, ⟨_, rfl⟩, q⟩
      | int i t => exact PySem.P.repr_of_int (by simpa [PyData.showable] using h1) ⟨.str _, H, I.tok _, ⟨_, rfl⟩, q⟩
      | str z t =>
        simp only [PyData.shown] at q h3
        exact PySem.P.repr_of_str ⟨.str _, H, I.tok _, ⟨_, rfl⟩, q⟩ h3
      | list k1 k2 k3 k4 => exact repr_of_reads' (.list k1 k2 k3 k4) h1 (fun _ => hn) hgd (by omega) (fun _ _ e => e) (fun h' u tk hk => ⟨.str _, H, I.kept hk, ⟨_, rfl⟩, q⟩) h3
      | tuple k1 k2 k3 k4 => exact repr_of_reads' (.tuple k1 k2 k3 k4) h1 (fun _ => hn) hgd (by omega) (fun _ _ e => e) (fun h' u tk hk => ⟨.str _, H, I.kept hk, ⟨_, rfl⟩, q⟩) h3
      | dict k1 k2 k3 k4 k5 => exact repr_of_reads' (.dict k1 k2 k3 k4 k5) h1 (fun _ => hn) hgd (by omega) (fun _ _ e => e) (fun h' u tk hk => ⟨.str _, H, I.kept hk, ⟨_, rfl⟩, q⟩) h3
    · cases e
section
variable {g : Glob} {F : Ent} {W : WX} {X : Cx} {a : Expr} {pos : Pos}
def rRepr (g : Glob) : List V → Hp → VK → Prop := fun xs H Q => ∃ v S mu cs d y, xs = [v] ∧ HS g H S mu cs ∧ Vw g H S mu v d ∧ reprD d = some y ∧ ∀ x, y = (.str x, false) → Q (.str x) H
theorem cr_repr (hK : X.K = g.K) (hu : X.A.units + 64 < cLine) (hgd : X.A.guards = some []) (hy : SysIn X.K) : CallR X (.builtin "repr") (rRepr g) := by
  intro pins s σ H xs us Q I r h
  obtain ⟨v, S, mu, cs, d, y, rfl, hs, w, e, q⟩ := h
  cases r with
  | cons r rr =>
    cases rr
    exact call_reprG hK hu hgd hy I hs w r e q
theorem reprD_str {d : D} {y : D × Bool} (e : reprD d = some y) : ∃ x, y = (.str x, false) := by
  unfold reprD at e
  cases e1 : pD d with
  | none => rw [e1] at e; cases e
  | some x =>
    rw [e1] at e
    have e : (if x.showable && decide (x.depth ≤ 40) && decide (x.shown.length ≤ sizeLine) then some (D.str x.shown, false) else none) = some y := e
    split at e
    · cases e; exact ⟨_, rfl⟩
    · cases e
theorem wRepr {p : Pos} {ma : M D} (hy : SysIn X.K) (hm : X.mg "repr" = none) (ha : PE X a (rdO g F W ma)) (hg : Gl X "repr" := by rfl) (hst : ∀ x p, a ≠ .Starred x p := by intros; intro h; cases h) (hK : X.K = g.K := by rfl) (hu : X.A.units + 64 < cLine := by assumption) (hgd : X.A.guards = some [] := by assumption) :
    PE X (.Call (.Name "repr" p) [a] [] pos) (rdE g F W (mRepr ma)) :=
  PE.imp (pe_callB (cr_repr hK hu hgd hy) hg hm rfl (pa_cons ha pa_nil (starEach_cons hst)) (he := starEach_cons hst)) fun σ H Q q => rd_bind q fun d env1 cs1 v H1 S1 mu1 va r1 => by
    obtain ⟨y, e, k⟩ := r1.cs
    have e : (dr cs1 d).bind reprD = some y := e
    cases e1 : dr cs1 d with
    | none => rw [e1] at e; cases e
    | some d' =>
      rw [e1] at e
      refine ⟨v, S1, mu1, cs1, d', y, rfl, r1.1.hs, va.dr r1.1.hs e1, e, ?_⟩
      rintro x rfl
      exact k _ _ _ (.val (.str _))
end
end EL
namespace EL
open PySem PySem.Spec L2

section
variable {g : Glob} {F : Ent} {W : WX} {X : Cx} {a b c e o : Expr} {es : List Expr} {pos : Pos} {σ : SS} {H S : Hp} {mu : List Addr} {env : Env} {cs : Cells}
/-! ### a, b = x, y -/
def parK (i j : Nat) (ds : List D) : M Fl := match ds with
  | [a, b] => (mPut i (a, false)).bind fun _ => (mPut j (b, false)).bind fun _ => M.pure .nx
  | _ => M.stuck
def mPar (i j : Nat) (m : M (List D)) : M Fl := m.bind (parK i j)
theorem wPar {i j : Nat} {x y : Str} {m : M (List D)} {px py pt : Pos} {kt k2 pt2} (hN : X.N.Nodup) (ha : PA X [a, b] (rdA g F W m)) (hi : X.N[i]? = some x := by rfl) (hj : X.N[j]? = some y := by rfl) (hij : i ≠ j := by decide) (hx : X.env.scope.names.lookup x = some .local := by rfl) (hy : X.env.scope.names.lookup y = some .local := by rfl)
    (hw : swappedStores [.Tuple [.Name x px, .Name y py] kt pt] (.Tuple [a, b] k2 pt2) X.env = pure (some [x, y]) := by rfl) (hs : swapsWithSole [.Tuple [.Name x px, .Name y py] kt pt] (.Tuple [a, b] k2 pt2) pos.line X.env = pure false := by rfl) (hc : X.calm = true := by rfl) :
    PS X (.Assign [.Tuple [.Name x px, .Name y py] kt pt] (.Tuple [a, b] k2 pt2) pos) (rdS g F W (mPar i j m)) :=
  PS.imp (ps_par hc hN hi hj hij hx hy ha hw hs) fun E σ H q => rdS.ex q fun ds env1 cs1 vs H1 S1 mu1 r1 t p => by
    rcases ds with _ | ⟨d, _ | ⟨d', _ | ⟨d'', ds⟩⟩⟩ <;> first | exact p.elim | skip
    cases t with
    | cons t1 t2 =>
      cases t2 with
      | cons t2 t3 =>
        cases t3
        have p : PoS g F W E ((mPut i (d, false)).bind fun _ => (mPut j (d', false)).bind fun _ => M.pure .nx) env1 cs1 := p
        obtain ⟨h1, p⟩ := p.put
        obtain ⟨h2, p⟩ := p.put
        exact ⟨_, _, rfl, p _ H1 S1 mu1 ((r1.putZ h1 t1).putZ h2 t2)⟩

/-! ### ''.join(xs) -/
def strsD : List D → Option (List Str)
  | [] => some []
  | .str x :: ds => (strsD ds).map fun xs => x :: xs
  | _ => none
theorem RpL.strs : ∀ {vs : List V} {ds : List D} {is : List Str}, RpL g S mu vs ds → strsD ds = some is → vs = is.map V.str
  | _, [], _, .nil, e => by cases e; rfl
  | _, d :: ds, _, .cons h r, e => by
    cases d <;> first | (simp [strsD] at e; done) | skip
    unfold strsD at e
    cases e1 : strsD ds with
    | none => rw [e1] at e; cases e
    | some is =>
      rw [e1] at e
      cases e
      cases h
      rw [RpL.strs r e1, List.map_cons]
def seqD : D → Option (List D)
  | .lst ds => some ds
  | .tup ds => some ds
  | _ => none
@[simp] def opJoin : F2
  | .str a, d => (seqD d).bind fun ds => (strsD ds).bind fun ys => if (ys.map (·.length)).sum + ys.length * a.length ≤ 16777216 then some (.str (Txt.join a ys), false) else none
  | _, _ => none
theorem rp_str {v : V} {d : D} {x : Str} {cs : Cells} (hs : HS g H S mu cs) (h : Vo g H S mu v d) (e : dr cs d = some (.str x)) : v = .str x := (h.dr hs e).str
def mJoin (mo me : M D) : M (D × Bool) := mo.bind fun x => match x with
  | .str a => me.bind fun y => mCs fun cs => (dr cs y).bind fun y => opJoin (.str a) y
  | _ => M.stuck
def joinK (me : M D) (x : D) : M (D × Bool) := match x with
  | .str a => me.bind fun y => mCs fun cs => (dr cs y).bind fun y => opJoin (.str a) y
  | _ => M.stuck
theorem wJoin {mo me : M D} {apos : Pos} (ho : PE X o (rdZ g F W mo)) (he : PE X e (rdO g F W me)) (hst : ∀ x p, e ≠ .Starred x p := by intros; intro h; cases h) (hbase : attributeBase o "join" X.env (eval o X.env) = eval o X.env := by rfl) (hline : (apos.endLine == pos.line) = true := by rfl) (hK : X.K = g.K := by rfl) :
    PE X (.Call (.Attribute o "join" apos) [e] [] pos) (rdE g F W (mJoin mo me)) :=
  PE.imp (pe_join ho he (starEach_cons hst) hbase hline) fun σ H Q q => rd_bind q fun x env1 cs1 v H1 S1 mu1 va r1 => by
    cases x <;> first | exact r1.2.elim | skip
    rename_i a
    cases va
    refine ⟨⟨a, rfl⟩, (RA.bind r1 fun y env2 cs2 w H2 S2 mu2 gr vb r2 => ?_).rd⟩
    obtain ⟨z, ez, k⟩ := r2.cs
    cases e1 : dr cs2 y with
    | none => rw [e1] at ez; cases ez
    | some y' =>
      rw [e1] at ez
      have ez : (seqD y').bind (fun ds => (strsD ds).bind fun ys => if (ys.map (·.length)).sum + ys.length * a.length ≤ 16777216 then some (D.str (Txt.join a ys), false) else none) = some z := ez
      cases e2 : seqD y' with
      | none => rw [e2] at ez; cases ez
      | some ds =>
        rw [e2] at ez
        have ez : (strsD ds).bind (fun ys => if (ys.map (·.length)).sum + ys.length * a.length ≤ 16777216 then some (D.str (Txt.join a ys), false) else none) = some z := ez
        cases e3 : strsD ds with
        | none => rw [e3] at ez; cases ez
        | some ys =>
          rw [e3] at ez
          have ez : (if (ys.map (·.length)).sum + ys.length * a.length ≤ 16777216 then some (D.str (Txt.join a ys), false) else none) = some z := ez
          split at ez
          · rename_i hl
            cases ez
            have wv := vb.dr r2.1.hs e1
            cases y' <;> first | (cases e2; done) | skip
            · cases e2
              obtain ⟨p, xs, rfl, h1, h2⟩ := wv.lst r2.1.hs
              have hx := h2.strs e3
              subst hx
              exact ⟨a, p, ys, rfl, rfl, .inl (hK.symm ▸ h1), hl, k _ _ _ (.val (.str _))⟩
            · cases e2
              obtain ⟨p, xs, rfl, h1, h2⟩ := wv.tup r2.1.hs
              have hx := h2.strs e3
              subst hx
              exact ⟨a, p, ys, rfl, rfl, .inr (hK.symm ▸ h1), hl, k _ _ _ (.val (.str _))⟩
          · cases ez

/-! ### dict displays -/
def putD (kvs : List (Key × D)) (k : Key) (v : D) : List (Key × D) :=
  if (kvs.any fun kv => decide (kv.1 = k)) = true then kvs.map (fun kv => if kv.1 = k then (kv.1, v) else kv) else kvs ++ [(k, v)]
def mergeD (kvs more : List (Key × D)) : List (Key × D) := more.foldl (fun acc kv => putD acc kv.1 kv.2) kvs
theorem RpK.append : ∀ {vs ds ws es}, RpK g S mu vs ds → RpK g S mu ws es → RpK g S mu (vs ++ ws) (ds ++ es)
  | _, _, _, _, .nil, s => s
  | _, _, _, _, .cons h r, s => .cons h (RpK.append r s)
theorem RpK.any {k : Key} : ∀ {vs ds}, RpK g S mu vs ds → (vs.any fun kv => decide (kv.1 = k)) = (ds.any fun kv => decide (kv.1 = k))
  | _, _, .nil => rfl
  | _, _, .cons h r => by
    rw [List.any_cons, List.any_cons, RpK.any r]
theorem RpK.repl {k : Key} {v : V} {d : D} (h : Rp g S mu v d) : ∀ {vs ds}, RpK g S mu vs ds → RpK g S mu (vs.map fun kv => if kv.1 = k then (kv.1, v) else kv) (ds.map fun kv => if kv.1 = k then (kv.1, d) else kv)
  | _, _, .nil => .nil
  | _, _, .cons (k := k') q r => by
    rw [List.map_cons, List.map_cons]
    by_cases hk : k' = k
    · simp only [hk, if_pos]
      exact .cons h (RpK.repl h r)
    · simp only [hk, if_false]
      exact .cons q (RpK.repl h r)
theorem RpK.put {k : Key} {v : V} {d : D} {vs ds} (r : RpK g S mu vs ds) (h : Rp g S mu v d) : RpK g S mu (putK vs k v) (putD ds k d) := by
  unfold putK putD
  rw [r.any]
  split
  · exact RpK.repl h r
  · exact r.append (.cons h .nil)
theorem RpK.merge : ∀ {ws es vs ds}, RpK g S mu ws es → RpK g S mu vs ds → RpK g S mu (mergeK vs ws) (mergeD ds es)
  | _, _, _, _, .nil, r => r
  | _, _, _, _, .cons (k := k) h t, r => by
    have q := RpK.merge t (r.put (k := k) h)
    exact q
def keyD : D → Option Key
  | .int i => some (.inl i)
  | .str x => some (.inr x)
  | _ => none
theorem keyD_v {v : V} {d : D} {k : Key} (h : Rp g S mu v d) (e : keyD d = some k) : v = kV k := by
  cases d <;> first | (cases e; done) | skip
  · cases e; cases h; rfl
  · cases e; cases h; rfl
def mPairs : List (M D × M D) → M (List (Key × D))
  | [] => M.pure []
  | (mk, mv) :: r => mk.bind fun x => mv.bind fun y => (M.opt (keyD x)).bind fun k => (mPairs r).bind fun ps => M.pure ((k, y) :: ps)
def mDict (mps : List (M D × M D)) : M (D × Bool) := (mPairs mps).bind fun kvs => M.pure (.dct (mergeD [] kvs), true)
abbrev rdX (g : Glob) (W : WX) (m : M D) : TE := fun σ H Q => ∃ F, rdZ g F W m σ H Q
theorem pairs_rd : ∀ (mps : List (M D × M D)) {F : Ent} {H S : Hp} {mu : List Addr} {env : Env} {cs : Cells} {Q : List (V × V) → Hp → Prop}, Rel g F σ H S mu env cs →
    Post (mPairs mps env cs) (fun kvs env' cs' => ∀ vs H' S' mu', Gr H S mu H' S' mu' → Rel g F σ H' S' mu' env' cs' → RpK g S' mu' vs kvs → Q (vs.map fun kv => (kV kv.1, kv.2)) H') (ExW g F W σ) → tPairs (mps.map fun p => (rdX g W p.1, rdX g W p.2)) σ H Q
  | [], F, H, S, mu, env, cs, Q, r, p => p [] H S mu .refl r .nil
  | (mk, mv) :: mps, F, H, S, mu, env, cs, Q, r, p => by
    have p : Post ((mk.bind fun x => mv.bind fun y => (M.opt (keyD x)).bind fun k => (mPairs mps).bind fun ps => M.pure ((k, y) :: ps)) env cs) _ _ := p
    rw [Post.bind] at p
    refine ⟨F, S, mu, env, cs, r, p.on fun x env1 cs1 p1 v H1 S1 mu1 gr1 r1 t1 => ?_⟩
    rw [Post.bind] at p1
    refine ⟨F, S1, mu1, env1, cs1, r1, p1.on fun y env2 cs2 p2 w H2 S2 mu2 gr2 r2 t2 => ?_⟩
    rw [Post.bind] at p2
    cases ek : keyD x with
    | none => rw [ek] at p2; exact p2.elim
    | some k =>
      rw [ek] at p2
      have p2 : Post ((mPairs mps).bind (fun ps => M.pure ((k, y) :: ps)) env2 cs2) _ _ := p2
      rw [Post.bind] at p2
      have ev := keyD_v t1 ek
      subst ev
      refine pairs_rd mps r2 (p2.on fun ps env3 cs3 p3 vs H3 S3 mu3 gr3 r3 t3 => ?_)
      exact p3 ((k, w) :: vs) H3 S3 mu3 ((gr1.trans gr2).trans gr3) r3 (.cons (t2.mono gr3.mo) t3)
theorem mPairs_len : ∀ (mps : List (M D × M D)) {env : Env} {cs : Cells} {kvs env' cs'}, mPairs mps env cs = .ok kvs env' cs' → kvs.length = mps.length
  | [], _, _, _, _, _, e => by cases e; rfl
  | (mk, mv) :: mps, env, cs, kvs, env', cs', e => by
    unfold mPairs M.bind at e
    cases e1 : mk env cs with
    | stuck => rw [e1] at e; cases e
    | exc => rw [e1] at e; cases e
    | ok x e2 c2 =>
      rw [e1] at e
      simp only [] at e
      cases e3 : mv e2 c2 with
      | stuck => rw [e3] at e; cases e
      | exc => rw [e3] at e; cases e
      | ok y e4 c4 =>
        rw [e3] at e
        cases ek : keyD x with
        | none => simp only [ek] at e; cases e
        | some k =>
          simp only [ek] at e
          cases e5 : mPairs mps e4 c4 with
          | stuck => simp only [M.opt, e5] at e; cases e
          | exc => simp only [M.opt, e5] at e; cases e
          | ok ps e6 c6 =>
            simp only [M.opt, e5] at e
            cases e
            rw [List.length_cons, List.length_cons, mPairs_len mps e5]
inductive PPd (g : Glob) (W : WX) (X : Cx) : List (Option Expr) → List Expr → List (M D × M D) → Prop
  | nil : PPd g W X [] [] []
  | cons {k v : Expr} {ks : List (Option Expr)} {vs : List Expr} {mk mv : M D} {r : List (M D × M D)} (hk : ∀ F, PE X k (rdZ g F W mk)) (hv : ∀ F, PE X v (rdZ g F W mv)) : PPd g W X ks vs r → PPd g W X (some k :: ks) (v :: vs) ((mk, mv) :: r)
theorem PPd.pps : ∀ {keys : List (Option Expr)} {vals : List Expr} {mps : List (M D × M D)}, PPd g W X keys vals mps → PPs X pos keys vals (mps.map fun p => (rdX g W p.1, rdX g W p.2))
  | _, _, _, .nil => pps_nil
  | _, _, _, .cons hk hv r => pps_cons ⟨fun pins s σ H Q I ⟨F, q⟩ => (hk F).run pins s σ H Q I q⟩ ⟨fun pins s σ H Q I ⟨F, q⟩ => (hv F).run pins s σ H Q I q⟩ r.pps
theorem PPd.len : ∀ {keys : List (Option Expr)} {vals : List Expr} {mps : List (M D × M D)}, PPd g W X keys vals mps → keys.length = mps.length
  | _, _, _, .nil => rfl
  | _, _, _, .cons hk hv r => by rw [List.length_cons, List.length_cons, r.len]
theorem wDict0 : PE X (.Dict [] [] pos) (rdE g F W (mDict [])) := PE.imp pe_dnewK fun σ H Q ⟨S, mu, env, cs, ra⟩ p hp => by
  have ra : RA g F W (TRes g F) (M.opt (some (D.dct [], true))) σ H S mu env cs Q := ra
  obtain ⟨y, e, k⟩ := ra.op
  cases e
  exact k _ _ _ (OpRes.new ra.1.hs hp ⟨[], upd_same, .nil⟩)
theorem wDict {keys : List (Option Expr)} {vals : List Expr} {mps : List (M D × M D)} (h : PPd g W X keys vals mps) (hall : keys.all (·.isSome) = true := by rfl) (hl : keys.length = vals.length := by rfl) (h0 : keys ≠ [] := by intro h; cases h) (h15 : keys.length ≤ 15 := by decide) : PE X (.Dict keys vals pos) (rdE g F W (mDict mps)) :=
  PE.imp (pe_disp h.pps hall hl h0 h15) fun σ H Q ⟨S, mu, env, cs, r, q⟩ p hp => by
    unfold mDict at q
    rw [Post.bind] at q
    have hS := r.hs.sNone hp
    have u : Up H S (L2.upd H p (.dK [])) S := Up.new hp hS
    have r0 : Rel g (F.res p) σ (L2.upd H p (.dK [])) S mu env cs := Rel.res (u.rel r) hS (r.hs.notMu hp) (r.fi.fresh r.hs hp) ⟨_, upd_same⟩ fun i d e1 e2 => by
      obtain ⟨a, k1, _, _, _, k6⟩ := r.ow i d e1
      rw [e2] at k1
      cases k1
      obtain ⟨o, ho⟩ := k6.has
      rw [ho] at hp; cases hp
    have hlen : ∀ kvs env' cs', mPairs mps env cs = .ok kvs env' cs' → kvs.length ≤ 15 := fun kvs env' cs' e => by
      rw [mPairs_len mps e, ← h.len]; exact h15
    refine pairs_rd mps r0 ?_
    cases em : mPairs mps env cs with
    | stuck => rw [em] at q; exact q
    | exc k fs e' c' =>
      rw [em] at q
      exact fun dx H' S' mu' r' x hn => q dx H' S' mu' r'.unres x ⟨hn.1, fun z => hn.2 (List.mem_cons_of_mem _ z)⟩
    | ok kvs env' cs' =>
      rw [em] at q
      intro vs H' S' mu' gr r' t
      obtain ⟨h1, h2, h3, h4⟩ := r'.fi.r p List.mem_cons_self
      have hH : H' p = some (.dK []) := (gr.h p _ upd_same (r.hs.notMu hp)).own h1
      have hvl : vs.length ≤ 15 := by rw [t.length]; exact hlen _ _ _ em
      refine ⟨hH, vs, rfl, hvl, ?_⟩
      have r2 : Rel g (F.res p) σ (L2.upd H' p (.dK (mergeK [] vs))) S' mu' env' cs' := r'.upd List.mem_cons_self fun ob u e => by rw [hH] at e; cases e
      refine q _ _ S' mu' ?_ r2.unres ⟨p, rfl, h1, h2, ⟨h3, fun z => ?_⟩, ⟨_, upd_same, RpK.merge t .nil⟩, fun i d' e1 e2 => ?_⟩
      · exact (u.gr.trans gr).upd hp
      · obtain ⟨_, _, _, o, ho⟩ := r.fi.r p z
        rw [ho] at hp; cases hp
      · obtain ⟨a, k1, k2, k3, ⟨k4, k5⟩, k6⟩ := r'.ow i d' e1
        rw [e2] at k1
        cases k1
        exact k5 List.mem_cons_self
end
end EL
namespace EL
open PySem PySem.Spec PyProof.Rows L2

section
variable {g : Glob} {F : Ent} {W : WX} {X : Cx} {a b c e o : Expr} {es : List Expr} {pos : Pos} {σ : SS} {H S : Hp} {mu : List Addr} {env : Env} {cs : Cells}
/-! ### -x -/
def negD : D → Option (D × Bool)
  | .int i => some (.int (-i), false)
  | _ => none
@[simp] theorem negD_int {i : Int} : negD (.int i) = some (.int (-i), false) := rfl
@[simp] def fNeg : OpF1 := fun cs d => (dr cs d).bind negD
theorem wNeg {ma : M D} (ha : PE X a (rdO g F W ma)) : PE X (.UnaryOp .USub a pos) (rdE g F W (mOp1 fNeg ma)) :=
  PE.imp (pe_un un_neg ha) (iOp1 fun H S mu cs v d x Q hs va e k => by
    have e : (dr cs d).bind negD = some x := e
    cases e1 : dr cs d with
    | none => rw [e1] at e; cases e
    | some d' =>
      rw [e1] at e
      cases d' <;> first | (cases e; done) | skip
      cases e
      exact ⟨_, (va.dr hs e1).int, k _ _ _ (.val (.int _))⟩)
/-! ### xs.append(e), by a name -/
def mLook (ip : Nat) (p : D → Bool) : M Unit := fun env cs => match env[ip]? with
  | some (.ow d) => if p d then .ok () env cs else .stuck
  | some (.fz (.cell n)) => match cs[n]? with
    | some d => if p d then .ok () env cs else .stuck
    | none => .stuck
  | _ => .stuck
theorem look_post {ip : Nat} {p : D → Bool} {K : Unit → Env → Cells → Prop} {KX : Nat → List (Str × D) → Env → Cells → Prop} (r : Rel g F σ H S mu env cs) (q : Post (mLook ip p env cs) K KX) : ∃ a d, σ[ip]? = some (some (.ref a)) ∧ At g H S mu a d ∧ p d = true ∧ K () env cs := by
  unfold mLook at q
  cases e : env[ip]? with
  | none => rw [e] at q; exact q.elim
  | some s =>
    rw [e] at q
    cases s with
    | no => exact q.elim
    | ow d =>
      cases hp : p d with
      | false => simp only [hp] at q; exact q.elim
      | true =>
        simp only [hp, if_true] at q
        obtain ⟨a, k1, _, _, _, k5⟩ := r.ow ip d e
        exact ⟨a, d, k1, k5, hp, q⟩
    | fz d =>
      cases d <;> first | exact q.elim | skip
      rename_i n
      obtain ⟨w, h1, h2⟩ := r.fz ip _ e
      cases h2 with
      | cell hn =>
        obtain ⟨c, hc, hS, hA⟩ := r.hs.cellAt hn
        simp only [hc] at q
        cases hp : p c with
        | false => simp only [hp] at q; exact q.elim
        | true =>
          simp only [hp, if_true] at q
          exact ⟨_, c, h1, hA, hp, q⟩
def isLst : D → Bool
  | .lst _ => true
  | _ => false
def appD (x : D) : D → Option (Unit × D)
  | .lst ds => if ds.length < sizeLine then some ((), .lst (ds ++ [x])) else none
  | _ => none
def mAppend (ip : Nat) (me : M D) : M Fl := (mLook ip isLst).bind fun _ => me.bind fun x => (mMut ip (appD x)).bind fun _ => M.pure .nx
theorem wAppend {ip : Nat} {me : M D} {apos p2 : Pos} (ho : PE X o (tVar ip)) (he : PE X e (rdZ g F W me)) (hst : ∀ x p, e ≠ .Starred x p := by intros; intro h; cases h) (hbase : attributeBase o "append" X.env (eval o X.env) = eval o X.env := by rfl)
    (hfew : ((backTo pos (starEach [e] X.env)).all (fun x => !x.1) && (backToKw pos (keywordEach [] X.env)).all (fun x => x.1.isSome)
      && decide (([e] : List Expr).length + ([] : List Keyword).length + (if ([] : List Keyword).isEmpty then 0 else 1) < 30)) = true := by rfl) (hline : (apos.endLine == pos.line) = true := by rfl) :
    PS X (.Expr (.Call (.Attribute o "append" apos) [e] [] pos) p2) (rdS g F W (mAppend ip me)) :=
  PS.imp (ps_expr (pe_bm PySem.F.plainAttrs_list PySem.F.slot_list_append PySem.F.type_list_append mt_append ho (pa_cons he pa_nil (starEach_cons hst)) hbase hfew hline (starEach_cons hst) rfl) (noComp_sw rfl)) fun E σ H ⟨S, mu, env, cs, r, q⟩ => by
    unfold mAppend at q
    rw [PoS.bind] at q
    obtain ⟨ad, d, hσ, hA, hd, q⟩ := look_post r q
    cases d <;> first | (cases hd; done) | skip
    obtain ⟨vs, h1, h2⟩ := hA
    refine ⟨_, hσ, .inl ⟨rfl, vs, .inl (.inl h1)⟩, PoS.exG r q fun x env1 cs1 v H1 S1 mu1 gr1 r1 t1 q1 => ?_⟩
    rw [PoS.bind] at q1
    obtain ⟨a2, d2, y, d3, env2, cs2, ea, hA2, hf, hk, hr⟩ := mut_post r1 q1 hσ
    cases ea
    cases d2 <;> first | (cases hf; done) | skip
    rename_i ds
    have hf : (if ds.length < sizeLine then some ((), D.lst (ds ++ [x])) else none) = some (y, d3) := hf
    split at hf
    · rename_i hl
      cases hf
      obtain ⟨vs2, k1, k2⟩ := hA2
      exact ⟨ad, vs2, v, rfl, rfl, k1, by rw [k2.length]; exact hl, hk σ _ S1 mu1 (hr (.lst (vs2 ++ [v])) ⟨_, upd_same, k2.append (.cons t1 .nil)⟩)⟩
    · cases hf
end
end EL
namespace EL
open PySem PySem.Spec PyProof.Rows L2

/-! ### dicts: items by key, key in dict -/
section
variable {X : Cx}
def rIxK : R2 := fun x y H Q => ∃ a v, x = .ref a ∧ DGet H a y (some v) ∧ Q v H
theorem ix_dct (hu : X.A.units + 1 < cLine) : IxR X rIxK := by
  intro value slice pins s σ H x y v u Q I rx ry h hs
  obtain ⟨a, w, rfl, g, q⟩ := h
  cases rx
  exact tail_any (dict_typeIs I g) PySem.F.slot_dict_getitem.lookup (d_getItem hu I g ry fun w' s' I' r => ⟨w, H, I', r, q⟩) hs
def rInK (n : Bool) : R2 := fun y x H Q => ∃ a o, x = .ref a ∧ DGet H a y o ∧ Q (.bl (n != o.isSome)) H
theorem op_inK (hu : X.A.units + 1 < cLine) : OpR X (compareOp .In) (rInK false) := by
  intro pins s σ H y x u v Q I ry rx h
  obtain ⟨a, o, rfl, g, q⟩ := h
  cases rx
  exact d_in hu I g ry fun s' I' => ⟨.bl o.isSome, H, I', rfl, by simpa using q⟩
theorem op_ninK (hu : X.A.units + 1 < cLine) : OpR X (compareOp .NotIn) (rInK true) := by
  intro pins s σ H y x u v Q I ry rx h
  obtain ⟨a, o, rfl, g, q⟩ := h
  cases rx
  exact d_notIn hu I g ry fun s' I' => ⟨.bl (!o.isSome), H, I', rfl, by simpa using q⟩
end
def valD (kvs : List (Key × D)) (k : Key) : Option D := (kvs.find? fun kv => decide (kv.1 = k)).map (·.2)
section
variable {g : Glob} {F : Ent} {W : WX} {X : Cx} {a b c e o : Expr} {es : List Expr} {pos : Pos} {H S : Hp} {mu : List Addr} {cs : Cells}
theorem find_ne {α : Type} {k k' : Key} {d : α} {l : List (Key × α)} (h : ¬ k' = k) : List.find? (fun kv => decide (kv.1 = k)) ((k', d) :: l) = List.find? (fun kv => decide (kv.1 = k)) l := by
  rw [List.find?_cons]
  simp [h]
theorem RpK.val {k : Key} : ∀ {vs : List (Key × V)} {ds : List (Key × D)}, RpK g S mu vs ds → (valD ds k = none ∧ valV vs k = none) ∨ ∃ v d, valD ds k = some d ∧ valV vs k = some v ∧ Rp g S mu v d
  | _, _, .nil => .inl ⟨rfl, rfl⟩
  | _, _, .cons (k := k') (v := v) (d := d) h r => by
    by_cases hk : k' = k
    · refine .inr ⟨v, d, ?_, ?_, h⟩ <;> simp [valD, valV, List.find?_cons, hk]
    · have ih := RpK.val (k := k) r
      unfold valD valV at ih ⊢
      rw [find_ne hk, find_ne hk]
      exact ih
theorem keyD_vw {v : V} {d : D} {k : Key} (h : Vw g H S mu v d) (e : keyD d = some k) : v = kV k := by
  cases d <;> first | (cases e; done) | skip
  · cases e; exact h.int
  · cases e; exact h.str
def idxK : F2
  | .dct kvs, d => (keyD d).bind fun k => (valD kvs k).map fun x => (x, false)
  | _, _ => none
theorem v_idxK : OpV g idxK rIxK := fun H S mu cs v w a b x Q hs va vb e k => by
  cases a <;> first | (simp [idxK] at e; done) | skip
  rename_i kvs
  have e : (keyD b).bind (fun k => (valD kvs k).map fun x => (x, false)) = some x := e
  cases e1 : keyD b with
  | none => rw [e1] at e; cases e
  | some ky =>
    rw [e1] at e
    have e : (valD kvs ky).map (fun x => (x, false)) = some x := e
    obtain ⟨p, vs, rfl, h1, h2⟩ := va.dct hs
    rcases h2.val (k := ky) with ⟨q1, _⟩ | ⟨z, d, q1, q2, q3⟩
    · rw [q1] at e; cases e
    · rw [q1] at e
      cases e
      exact ⟨p, z, rfl, .inl ⟨vs, ky, h1, keyD_vw vb e1, q2.symm⟩, k _ _ _ (.val q3)⟩
/-- an item of whatever has items -/
def opItem : F2 := orF opIdx idxK
theorem wItem {ma mb : M D} (ha : PE X a (rdO g F W ma)) (hb : PE X b (rdO g F W mb)) (h : ∀ l u s p, b ≠ .Slice l u s p := by intros; intro h; cases h) (hK : X.K = g.K := by rfl) (hu : X.A.units + 64 < cLine := by assumption) : PE X (.Subscript a b pos) (rdE g F W (mOp2 (dr2 opItem) ma mb)) :=
  PE.imp (pe_ix (ix_seq.or (ix_dct (by omega))) ha hb (plainIx_ok h)) (by rw [hK]; exact iOp2 (OpV.ok (v_idx.or v_idxK)))
end
/-! ### key in dict, beside in of the others -/
section
variable {g : Glob} {F : Ent} {W : WX} {X : Cx} {a b : Expr} {pos : Pos}
def inK (n : Bool) : F2
  | d, .dct kvs => (keyD d).map fun k => (.bl (n != (valD kvs k).isSome), false)
  | _, _ => none
theorem v_inK {n : Bool} : OpOkL g (drR (inK n)) (rInK n) := fun H S mu cs v w a b x Q hs va vb e k => by
  unfold drR at e
  cases e2 : dr cs b with
  | none => rw [e2] at e; cases e
  | some b' =>
    rw [e2] at e
    have wb := vb.dr hs e2
    have e : inK n a b' = some x := e
    cases b' <;> first | (simp [inK] at e; done) | skip
    rename_i kvs _
    have e : (keyD a).map (fun k => (D.bl (n != (valD kvs k).isSome), false)) = some x := e
    cases e1 : keyD a with
    | none => rw [e1] at e; cases e
    | some ky =>
      rw [e1] at e
      cases e
      obtain ⟨p, vs, rfl, h1, h2⟩ := wb.dct hs
      have hv := keyD_v va e1
      refine ⟨p, valV vs ky, rfl, .inl ⟨vs, ky, h1, hv, rfl⟩, ?_⟩
      have : (valV vs ky).isSome = (valD kvs ky).isSome := by
        rcases h2.val (k := ky) with ⟨q1, q2⟩ | ⟨z, d, q1, q2, _⟩
        · rw [q1, q2]; rfl
        · rw [q1, q2]; rfl
      rw [this]
      exact k _ _ _ (.val (.bl _))
def opInA (n : Bool) : F2 := orF (opIn n) (inK n)
theorem OpOkL.or {f f' : F2} {r r' : R2} (h : OpOkL g (drR f) r) (h' : OpOkL g (drR f') r') : OpOkL g (drR (orF f f')) (fun x y H Q => r x y H Q ∨ r' x y H Q) := fun H S mu cs v w a b x Q hs va vb e k => by
  unfold drR at e
  cases e2 : dr cs b with
  | none => rw [e2] at e; cases e
  | some b' =>
    rw [e2] at e
    have e : orF f f' a b' = some x := e
    unfold orF at e
    cases e1 : f a b' with
    | some y =>
      rw [e1] at e
      cases e
      exact .inl (h _ _ _ _ _ _ _ _ _ _ hs va vb (by unfold drR; rw [e2]; exact e1) k)
    | none =>
      rw [e1] at e
      exact .inr (h' _ _ _ _ _ _ _ _ _ _ hs va vb (by unfold drR; rw [e2]; exact e) k)
theorem wInA {ma mb : M D} (ha : PE X a (rdZ g F W ma)) (hb : PE X b (rdO g F W mb)) (hm : behindInMarks .In b = false := by with_unfolding_all rfl) (hK : X.K = g.K := by rfl) (hu : X.A.units + 64 < cLine := by assumption) :
    PE X (.Compare a [.In] [b] pos) (rdE g F W (mOp2 (drR (opInA false)) ma mb)) := PE.imp (pe_cmpR ((op_in_all hK hu).or (op_inK (by omega))) ha hb hm) (iOp2L (v_in.or v_inK))
theorem wInAT {ma mb : M D} (ha : PE X a (rdZ g F W ma)) (hb : PE X b (rdO g F W mb)) (hm : behindInMarks .In b = false := by with_unfolding_all rfl) (hK : X.K = g.K := by rfl) (hu : X.A.units + 64 < cLine := by assumption) :
    PT X (.Compare a [.In] [b] pos) (rdT g F W (mBl (mOp2 (drR (opInA false)) ma mb))) := PT.imp (pt_cmpR ((op_in_all hK hu).or (op_inK (by omega))) ha hb hm) fun σ H Q q => iOp2L (v_in.or v_inK) σ H _ (iBl q)
theorem wNinA {ma mb : M D} (ha : PE X a (rdZ g F W ma)) (hb : PE X b (rdO g F W mb)) (hm : behindInMarks .NotIn b = false := by with_unfolding_all rfl) (hK : X.K = g.K := by rfl) (hu : X.A.units + 64 < cLine := by assumption) :
    PE X (.Compare a [.NotIn] [b] pos) (rdE g F W (mOp2 (drR (opInA true)) ma mb)) := PE.imp (pe_cmpR ((op_nin_all hK hu).or (op_ninK (by omega))) ha hb hm) (iOp2L (v_in.or v_inK))
theorem wNinAT {ma mb : M D} (ha : PE X a (rdZ g F W ma)) (hb : PE X b (rdO g F W mb)) (hm : behindInMarks .NotIn b = false := by with_unfolding_all rfl) (hK : X.K = g.K := by rfl) (hu : X.A.units + 64 < cLine := by assumption) :
    PT X (.Compare a [.NotIn] [b] pos) (rdT g F W (mBl (mOp2 (drR (opInA true)) ma mb))) := PT.imp (pt_cmpR ((op_nin_all hK hu).or (op_ninK (by omega))) ha hb hm) fun σ H Q q => iOp2L (v_in.or v_inK) σ H _ (iBl q)
end
section
variable {ds : List D} {i : Int} {kvs : List (Key × D)} {d : D} {x y : Str} {n : Bool}
@[simp] theorem item_lst : opItem (.lst ds) (.int i) = (atI ds i).map fun d => (d, false) := by
  show orF opIdx idxK (.lst ds) (.int i) = _
  unfold orF
  show (match (atI ds i).map fun d => (d, false) with
    | some x => some x
    | none => none) = _
  cases (atI ds i) <;> rfl
@[simp] theorem item_tup : opItem (.tup ds) (.int i) = (atI ds i).map fun d => (d, false) := by
  show orF opIdx idxK (.tup ds) (.int i) = _
  unfold orF
  show (match (atI ds i).map fun d => (d, false) with
    | some x => some x
    | none => none) = _
  cases (atI ds i) <;> rfl
@[simp] theorem item_str : opItem (.str x) (.int i) = if x.length ≤ sizeLine then (atI x.cps.toList i).map fun c => (.str ⟨#[c]⟩, false) else none := by
  show orF opIdx idxK (.str x) (.int i) = _
  unfold orF
  show (match (if x.length ≤ sizeLine then (atI x.cps.toList i).map fun c => (D.str ⟨#[c]⟩, false) else none) with
    | some x => some x
    | none => none) = _
  cases (if x.length ≤ sizeLine then (atI x.cps.toList i).map fun c => (D.str ⟨#[c]⟩, false) else none) <;> rfl
@[simp] theorem item_dct : opItem (.dct kvs) d = (keyD d).bind fun k => (valD kvs k).map fun x => (x, false) := rfl
@[simp] theorem inA_str : opInA n (.str x) (.str y) = some (.bl (n != inS x y), false) := rfl
@[simp] theorem inA_dct : opInA n d (.dct kvs) = (keyD d).map fun k => (.bl (n != (valD kvs k).isSome), false) := by
  cases d <;> rfl
@[simp] theorem inA_lst : opInA n d (.lst ds) = (inL d ds).map fun r => (.bl (n != r), false) := by
  have h : ∀ o : Option (D × Bool), (match o with
    | some x => some x
    | none => none) = o := fun o => by cases o <;> rfl
  cases d <;> exact h _
@[simp] theorem inA_tup : opInA n d (.tup ds) = (inL d ds).map fun r => (.bl (n != r), false) := by
  have h : ∀ o : Option (D × Bool), (match o with
    | some x => some x
    | none => none) = o := fun o => by cases o <;> rfl
  cases d <;> exact h _
end
end EL
namespace EL
open PySem PySem.Spec PyProof.Rows L2
section
variable {g : Glob} {F : Ent} {W : WX} {X : Cx} {a b e : Expr} {pos : Pos}
/-! ### xs[::-1] -/
def revD : D → Option (D × Bool)
  | .lst ds => some (.lst ds.reverse, true)
  | _ => none
@[simp] theorem revD_lst {ds : List D} : revD (.lst ds) = some (.lst ds.reverse, true) := rfl
@[simp] def fRev : OpF1 := fun cs d => (dr cs d).bind revD
theorem wRev {ma : M D} {k : Nat} {p1 p2 p3 : Pos} (ha : PE X e (rdO g F W ma)) (hK : X.K = g.K := by rfl) : PE X (.Subscript e (.Slice none none (some (.UnaryOp .USub (.Constant (.int 1) k p1) p2)) p3) pos) (rdE g F W (mOp1 fRev ma)) :=
  PE.imp (pe_revL ha) fun σ H Q q => rd_bind q fun d env1 cs1 v H1 S1 mu1 va r1 => by
    obtain ⟨y, e, kk⟩ := r1.cs
    have e : (dr cs1 d).bind revD = some y := e
    cases e1 : dr cs1 d with
    | none => rw [e1] at e; cases e
    | some d' =>
      rw [e1] at e
      have w := va.dr r1.1.hs e1
      cases d' <;> first | (cases e; done) | skip
      cases e
      obtain ⟨p, vs, rfl, h1, h2⟩ := w.lst r1.1.hs
      exact ⟨p, vs, rfl, hK.symm ▸ h1, fun q hq => kk _ _ _ (OpRes.lst r1.1.hs hq h2.reverse)⟩
end
/-! ### str(x) -/
@[simp] def fStr : Fn
  | [.int i] => if i.natAbs.log2 < 1920 then some (.str (toString i : String), false) else none
  | [.str x] => some (.str x, false)
  | _ => none
theorem s_str {g : Glob} : CallS g (.type "str") (drN fStr) := fun X hK hu hc => ⟨_, call_str_int.or SkE.call_str_str, OpVN.ok fun H S mu cs vs ds x Q hs va e k => by
  rcases ds with _ | ⟨d, _ | ⟨d', ds⟩⟩ <;> first | (cases e; done) | skip
  · obtain ⟨v, rfl, w⟩ := va.one
    cases d <;> first | (simp [fStr] at e; done) | skip
    · rename_i i
      have e : (if i.natAbs.log2 < 1920 then some (D.str (toString i : String), false) else none) = some x := e
      split at e
      · rename_i hl
        cases e
        cases w.int
        exact .inl ⟨_, rfl, hl, k _ _ _ (.val (.str _))⟩
      · cases e
    · cases e
      cases w.str
      exact .inr ⟨_, rfl, k _ _ _ (.val (.str _))⟩
  · cases d <;> cases e⟩
end EL
namespace EL
open PySem PySem.Spec PyProof.Rows L2

/-! ### instances that stand in the heap, by what is read of them -/
section
variable {X : Cx} {pins : List (Addr × Obj)} {σ : SS} {H : Hp} {s : Shared} {a C dx : Addr} {fs : List (Str × V)} {f : Str} {v : V}
theorem ins_rd (I : L2.Inv X pins σ H s) (e : Rd H a (.ins C dx fs)) : ∃ mA, ObjM s.heap a dx C mA ∧ ∀ f, RelO (fs.lookup f) (mA f) := by
  have k : ObjOk X.prog X.w H s.heap a (.ins C dx fs) := by
    rcases e with e | ⟨o, e⟩
    · exact I.hok _ _ e
    · exact (I.hok _ _ e).2
  obtain ⟨_, _, ne, ob, mA, n, r, _⟩ := k
  exact ⟨mA, ⟨ob, n, ne⟩, r⟩
/-- an attribute's reading, by the object -/
def AtR (X : Cx) (f : Str) (p : SS → V → Hp → VK → Prop) : Prop := ∀ (pins : List (Addr × Obj)) (s : Shared) (σ : SS) (H : Hp) (x : V) (u : Value) (b : Bool) (Q : VK), L2.Inv X pins σ H s → RelV x u → p σ x H Q → wpAny (model X.prog X.w) X.A (getAttr u f b) (EP X pins σ Q) X.xe s
theorem pe_at {e : Expr} {pos : Pos} {te : TE} {p : SS → V → Hp → VK → Prop} (he : PE X e te) (h : AtR X f p) (hb : attributeBase e f X.env (eval e X.env) = eval e X.env) : PE X (.Attribute e f pos) (fun σ H Q => te σ H fun x H1 => p σ x H1 Q) :=
  ⟨fun pins s σ H Q I q => attr_of hb (thn (he.run pins s σ H _ I q) fun u s1 ⟨x, H1, I1, rx, q1⟩ => h pins s1 σ H1 x u true Q I1 rx q1)⟩
theorem AtR.or {p p'} (h : AtR X f p) (h' : AtR X f p') : AtR X f (fun σ x H Q => p σ x H Q ∨ p' σ x H Q) := fun pins s σ H x u b Q I r q => q.elim (h pins s σ H x u b Q I r) (h' pins s σ H x u b Q I r)
def pFld (K : PySem.W.Frag) (f : Str) : SS → V → Hp → VK → Prop := fun _ x H Q => ∃ a C dx fs v, x = .ref a ∧ Rd H a (.ins C dx fs) ∧ Cls K C ∧ NoAttr K C f ∧ fs.lookup f = some v ∧ Q v H
theorem at_fld : AtR X f (pFld X.K f) := fun pins s σ H x u b Q I r ⟨a, C, dx, fs, v, ex, ea, c, n, l, q⟩ => by
  subst ex
  cases r
  obtain ⟨mA, O, rl⟩ := ins_rd I ea
  obtain ⟨y, hy, ry⟩ := RelO.some_of (v := v) (o := mA f) (by rw [← l]; exact rl f)
  exact get_map I.kIn O (c.get f) c.hd n hy (handed_of ry) ⟨v, H, I.tok _, ry, q⟩
/-- no exception can leave -/
theorem cx_false {P : Program} {w : World} {outer : List PySem.Env} {H : Hp} {s s' : Shared} {e : Value} (h : L2.CX P w outer H s (fun _ _ _ => False) e s') : False := by
  obtain ⟨_, _, _, _, _, _, _, _, _, _, _, _, h⟩ := h
  exact h
/-- a property of the class at C, and what its getter promises -/
structure Prp (X : Cx) (C : Addr) (f : Str) (sp : Sp) : Prop where
  cls : Cls X.K C
  ex : ∃ (p g : Addr) (k : Nat) (fd : FuncData) (ps : List Str), PropOf X.K C f p g ∧ FnG X.prog X.w X.K X.mg X.base (L2.CX X.prog X.w) k g fd ps sp ∧ Room (k + 1) X.A ∧ L2.Binds X.K fd ps []
def pPrp (X : Cx) (f : Str) : SS → V → Hp → VK → Prop := fun _ x H Q => ∃ a C dx fs sp, x = .ref a ∧ Rd H a (.ins C dx fs) ∧ Prp X C f sp ∧ sp [.ref a] H Q fun _ _ _ => False
theorem at_prp (hgd : X.A.guards = some []) : AtR X f (pPrp X f) := fun pins s σ H x u b Q I r ⟨a, C, dx, fs, sp, ex, ea, pr, h⟩ => by
  subst ex
  cases r
  obtain ⟨c, p, g, k, fd, ps, hp, G, hr, hb⟩ := pr
  obtain ⟨mA, O, _⟩ := ins_rd I ea
  obtain ⟨od, J, _⟩ := O.look
  obtain ⟨rest, hrec⟩ := hp.rec_
  have J1 := I.tok (s.toks + 1)
  have hc : (PySem.W.clsIn X.K C).isSome = true := by
    obtain ⟨cd, e1, _⟩ := PySem.W.any_some c.hd
    rw [e1]; rfl
  have one : ([Value.ref a] : List Value).length = ps.length := G.len _ _ _ _ h
  have bd : BindsTo { s with toks := s.toks + 1 } fd ⟨[.ref a], []⟩ (ps.zip [Value.ref a]) := hb _ [.ref a] J1.kIn one
  refine PySem.W.get_bind I.kIn J (PySem.W.plainGet_of (c.get f)).1 (PySem.W.findObj_data hc hp.at_ hp.get hp.tak) (PySem.W.plainGet_of (c.get f)).2 (wpAny_call (PySem.W.prop_get (s := { s with toks := s.toks + 1 }) J1.kIn hrec ?_))
  refine codeAny_mono (G.run X.A.in1 X.stack _ H _ _ [.ref a] Q _ hr.in1 hgd J1.env0.in1 bd (.cons rfl .nil) h) fun r s' hq => ?_
  rcases r with er | fl
  · exact (cx_false hq).elim
  · cases fl <;> first | exact False.elim hq | skip
    obtain ⟨v, H', I3, rv, q3⟩ := J1.after hq
    show wpAny _ _ (handedOut _) _ _ _
    rw [PySem.W.handedOut_of (handed_of rv)]
    exact wpAny_pure ⟨v, H', I3, rv, q3⟩
end

/-! ### attributes -/
section
variable {g : Glob} {F : Ent} {W : WX} {X : Cx} {a b c e o : Expr} {es : List Expr} {pos : Pos} {σ : SS} {H S : Hp} {mu : List Addr} {env : Env} {cs : Cells}
theorem RpF.lookup {f : Str} {d : D} : ∀ {vs : List (Str × V)} {ds : List (Str × D)}, RpF g S mu vs ds → ds.lookup f = some d → ∃ v, vs.lookup f = some v ∧ Rp g S mu v d
  | _, _, .nil, e => by cases e
  | _, _, .cons (k := k) h r, e => by
    rw [List.lookup_cons] at e ⊢
    cases q : f == k with
    | true => rw [q] at e; cases e; exact ⟨_, rfl, h⟩
    | false => rw [q] at e; exact RpF.lookup r e
theorem RpF.lookupN {f : Str} : ∀ {vs : List (Str × V)} {ds : List (Str × D)}, RpF g S mu vs ds → ds.lookup f = none → vs.lookup f = none
  | _, _, .nil, e => rfl
  | _, _, .cons (k := k) h r, e => by
    rw [List.lookup_cons] at e ⊢
    cases q : f == k with
    | true => rw [q] at e; cases e
    | false => rw [q] at e; exact RpF.lookupN r e
/-- a call's run that lets nothing out -/
def mPhi0 (φ : Phi) (ds : List D) : M (D × Bool) := fun env cs => match φ ds cs with
  | .ok d fr c => .ok (d, fr) env c
  | _ => .stuck
theorem RA.call0 {φ : Phi} {ds : List D} {vs : List V} {Q : VK} {n : Nat} (h : RA g F W (TRes g F) (mPhi0 φ ds) σ H S mu env cs Q) (rl : RpL g S mu vs ds) (hn : vs.length = n) : spF g n φ vs H Q fun _ _ _ => False := by
  obtain ⟨r, q⟩ := h
  refine ⟨hn, S, mu, cs, ds, r.hs, rl, ?_⟩
  unfold mPhi0 at q
  cases e : φ ds cs with
  | stuck => simp only [e] at q; exact q
  | ok d fr c =>
    simp only [e] at q
    exact fun v H' S' mu' a x => q v H' S' mu' a.gr (a.rel r) (ResF.res (cs' := c) r x)
  | exc k fs c => simp only [e] at q; exact q.elim
/-- by the class: a field, or a property's run -/
abbrev Cand := List (Nat × Option Phi)
def attrK (cands : Cand) (f : Str) (o : D) : M (D × Bool) := fun env cs => match dr cs o with
  | some (.ins c fs) => match cands.lookup c with
    | some none => M.opt ((fs.lookup f).map fun d => (d, false)) env cs
    | some (some φ) => mPhi0 φ [o] env cs
    | none => .stuck
  | _ => .stuck
def mAttr (cands : Cand) (f : Str) (mo : M D) : M (D × Bool) := mo.bind fun o => attrK cands f o
/-- what is known of the classes -/
def AttrOk (g : Glob) (X : Cx) (f : Str) (cands : Cand) : Prop := ∀ c k, cands.lookup c = some k → Cls X.K (g.ca c) ∧ match k with
  | none => NoAttr X.K (g.ca c) f
  | some φ => Prp X (g.ca c) f (spF g 1 φ)
theorem vo_ins {v : V} {d : D} {c : Nat} {fs : List (Str × D)} (hs : HS g H S mu cs) (t : Rp g S mu v d) (e : dr cs d = some (.ins c fs)) : ∃ a dx vs, v = .ref a ∧ Rd H a (.ins (g.ca c) dx vs) ∧ RpF g S mu vs fs := (Vo.dr hs (.inl t) e).ins hs
theorem wAttr {f : Str} {cands : Cand} {mo : M D} (ho : PE X o (rdZ g F W mo)) (hc : AttrOk g X f cands) (hb : attributeBase o f X.env (eval o X.env) = eval o X.env := by rfl) (hgd : X.A.guards = some [] := by assumption) : PE X (.Attribute o f pos) (rdE g F W (mAttr cands f mo)) :=
  PE.imp (pe_at ho (at_fld.or (at_prp hgd)) hb) fun σ H Q q => rd_bind q fun d env1 cs1 v H1 S1 mu1 t r1 => by
    obtain ⟨r, p⟩ := r1
    unfold attrK at p
    cases e1 : dr cs1 d with
    | none => simp only [e1] at p; exact p.elim
    | some y =>
      cases y <;> first | (simp only [e1] at p; exact p.elim) | skip
      rename_i c fs
      simp only [e1] at p
      obtain ⟨ad, dx, vs, rfl, k1, k2⟩ := vo_ins r.hs t e1
      cases e2 : cands.lookup c with
      | none => simp only [e2] at p; exact p.elim
      | some k =>
        obtain ⟨hcl, hk⟩ := hc c k e2
        cases k with
        | none =>
          simp only [e2] at p
          cases e3 : fs.lookup f with
          | none => rw [e3] at p; exact p.elim
          | some y =>
            rw [e3] at p
            obtain ⟨w, l, rw_⟩ := k2.lookup e3
            exact .inl ⟨ad, _, dx, vs, w, rfl, k1, hcl, hk, l, p _ H1 S1 mu1 .refl r rw_⟩
        | some φ =>
          simp only [e2] at p
          exact .inr ⟨ad, _, dx, vs, _, rfl, k1, hk, RA.call0 (g := g) (F := F) (W := W) ⟨r, p⟩ (.cons t .nil) rfl⟩
/-- a field of the object that is being made -/
def mFldS (i c : Nat) (f : Str) : M (D × Bool) := (mPeek i).bind fun o => match o with
  | .slf _ c' fs => if c' = c then M.opt ((fs.lookup f).map fun d => (d, false)) else M.stuck
  | _ => M.stuck
theorem wFldS {i c : Nat} {f : Str} (ho : PE X o (rdO g F W (mPeek i))) (hc : Cls X.K (g.ca c)) (hn : NoAttr X.K (g.ca c) f) (hb : attributeBase o f X.env (eval o X.env) = eval o X.env := by rfl) : PE X (.Attribute o f pos) (rdE g F W (mFldS i c f)) :=
  PE.imp (pe_at ho at_fld hb) fun σ H Q q => rd_bind q fun d env1 cs1 v H1 S1 mu1 t r1 => by
    cases d <;> first | exact r1.2.elim | skip
    rename_i a c' fs
    have r1 : RA g F W (TRes g F) (if c' = c then M.opt ((fs.lookup f).map fun d => (d, false)) else M.stuck) σ H1 S1 mu1 env1 cs1 Q := r1
    by_cases hcc : c' = c
    · subst hcc
      rw [if_pos rfl] at r1
      obtain ⟨y, e, kk⟩ := r1.op
      cases e3 : fs.lookup f with
      | none => rw [e3] at e; cases e
      | some z =>
        rw [e3] at e
        cases e
        rcases t with t | ⟨ad, rfl, _, t⟩
        · cases t with
          | slf h1 h2 =>
            obtain ⟨w, l, rw_⟩ := h2.lookup e3
            exact ⟨_, _, _, _, w, rfl, r1.1.hs.sub _ _ h1, hc, hn, l, kk _ _ _ (.val rw_)⟩
        · obtain ⟨_, dx, vs, h1, h2⟩ := t
          obtain ⟨w, l, rw_⟩ := h2.lookup e3
          exact ⟨_, _, _, _, w, rfl, .inl h1, hc, hn, l, kk _ _ _ (.val rw_)⟩
    · rw [if_neg hcc] at r1
      exact r1.2.elim

/-! ### self.f = e, where self is being made -/
def putFD (f : Str) (d : D) : List (Str × D) → List (Str × D)
  | [] => [(f, d)]
  | (k, x) :: r => if k = f then (k, d) :: r else (k, x) :: putFD f d r
theorem RpF.put {f : Str} {v : V} {d : D} (h : Rp g S mu v d) : ∀ {vs ds}, RpF g S mu vs ds → RpF g S mu (putF f v vs) (putFD f d ds)
  | _, _, .nil => .cons h .nil
  | _, _, .cons (k := k) q r => by
    unfold putF putFD
    split
    · exact .cons h r
    · exact .cons q (RpF.put h r)
theorem RpF.length : ∀ {vs ds}, RpF g S mu vs ds → vs.length = ds.length
  | _, _, .nil => rfl
  | _, _, .cons _ r => by simp [RpF.length r]
def stFD (c : Nat) (f : Str) (x : D) : D → Option (Unit × D)
  | .slf a c' fs => if c' = c ∧ fs.length < 900 then some ((), .slf a c' (putFD f x fs)) else none
  | .ins c' fs => if c' = c ∧ fs.length < 900 then some ((), .ins c' (putFD f x fs)) else none
  | _ => none
def mStF (ip c : Nat) (f : Str) (me : M D) : M Fl := me.bind fun x => (mPeek ip).bind fun _ => (mMut ip (stFD c f x)).bind fun _ => M.pure .nx
theorem wStF {ip c : Nat} {f : Str} {me : M D} {p2 : Pos} (ho : PE X o (tVar ip)) (he : PE X e (rdZ g F W me)) (hc : Cls X.K (g.ca c)) (hn : NoAttr X.K (g.ca c) f) (hs : swapsWith e (some (.Attribute o f p2)) pos.line X.env = pure false := by rfl) : PS X (.Assign [.Attribute o f p2] e pos) (rdS g F W (mStF ip c f me)) :=
  PS.imp (ps_fld ho he hs) fun E σ H q => rdS.ex q fun x env1 cs1 v H1 S1 mu1 r1 t1 p1 => by
    rw [PoS.bind] at p1
    obtain ⟨w, d0, hw, p1⟩ := post_peek r1 p1
    rw [PoS.bind] at p1
    refine ⟨w, hw, ?_⟩
    obtain ⟨a, d, y, d', env', cs', rfl, hA, hf, hk, hr⟩ := mut_post r1 p1 hw
    cases d <;> first | (cases hf; done) | skip
    · rename_i c' fs
      have hf2 : (if c' = c ∧ fs.length < 900 then some ((), D.ins c' (putFD f x fs)) else none) = some (y, d') := hf
      clear hf
      by_cases hl : c' = c ∧ fs.length < 900
      · rw [if_pos hl] at hf2
        obtain ⟨rfl, hl⟩ := hl
        cases hf2
        obtain ⟨dx, vs, h1, h2⟩ := hA
        exact ⟨a, _, dx, vs, rfl, h1, hc, hn, by rw [h2.length]; omega, hk σ _ S1 mu1 (hr _ ⟨dx, _, upd_same, h2.put t1⟩)⟩
      · rw [if_neg hl] at hf2; cases hf2
    · rename_i b c' fs
      have hf2 : (if c' = c ∧ fs.length < 900 then some ((), D.slf b c' (putFD f x fs)) else none) = some (y, d') := hf
      clear hf
      by_cases hl : c' = c ∧ fs.length < 900
      · rw [if_pos hl] at hf2
        obtain ⟨rfl, hl⟩ := hl
        cases hf2
        obtain ⟨z, dx, vs, h1, h2⟩ := hA
        exact ⟨a, _, dx, vs, rfl, h1, hc, hn, by rw [h2.length]; omega, hk σ _ S1 mu1 (hr _ ⟨z, dx, _, upd_same, h2.put t1⟩)⟩
      · rw [if_neg hl] at hf2; cases hf2
end
end EL
namespace EL
open PySem PySem.Spec PyProof.Rows L2

/-! ### what does not hang on an address -/
noncomputable def mkPhi (r : Addr → Phi) : Phi := fun ds cs => by
  classical exact if h : ∃ y, ∀ x, r x ds cs = y then h.choose else .stuck
theorem mkPhi_eq {r : Addr → Phi} {ds cs y} (h : ∀ x, r x ds cs = y) : mkPhi r ds cs = y := by
  have ex : ∃ y, ∀ x, r x ds cs = y := ⟨y, h⟩
  unfold mkPhi
  rw [dif_pos ex]
  exact (ex.choose_spec 0).symm.trans (h 0)
theorem mkPhi_at {r : Addr → Phi} {ds cs} (h : mkPhi r ds cs ≠ .stuck) (x : Addr) : r x ds cs = mkPhi r ds cs := by
  unfold mkPhi at h ⊢
  by_cases ex : ∃ y, ∀ x, r x ds cs = y
  · rw [dif_pos ex]
    exact ex.choose_spec x
  · rw [dif_neg ex] at h
    exact (h rfl).elim

/-! ### a new instance, its __init__ -/
section
variable {g : Glob} {F : Ent} {W : WX} {X : Cx} {a b c e o : Expr} {es : List Expr} {pos : Pos} {σ : SS} {H S : Hp} {mu : List Addr} {env : Env} {cs : Cells}
def PoI (g : Glob) (H0 S : Hp) (mu : List Addr) (Q : VK) (E : XK) (x : Addr) : RF → Prop
  | .ok d fr cs' => ∀ H' S' mu', Aft g H0 S mu H' S' mu' cs' → ResF g H0 H' S' mu' (.ref x) d fr → Q .non H'
  | .exc k fs cs' => ∀ dx H' S' mu', Aft g H0 S mu H' S' mu' cs' → XcOk g H' S' mu' dx fs → H0 dx = none → E (.ref (g.ca k)) (some dx) H'
  | .stuck => False
def spI (g : Glob) (c n : Nat) (φ : Addr → Phi) : Sp := fun vs H Q E => vs.length = n ∧ ∃ x dx vs' H0 S mu cs ds, vs = .ref x :: vs' ∧ H = L2.upd (L2.upd H0 dx (.own x)) x (.ins (g.ca c) dx []) ∧ H0 x = none ∧ H0 dx = none ∧ dx ≠ x ∧
  HS g H0 S mu cs ∧ RpL g S mu vs' ds ∧ PoI g H0 S mu Q E x (φ x ds cs)
/-- an __init__'s body: n slots, self the first -/
@[simp] def runInit (c n : Nat) (m : M Fl) : Addr → Phi := fun x ds cs => match m (.ow (.slf x c []) :: startE (n - 1) ds) cs with
  | .ok .nx env c' => match (env[0]? : Option Slot) with
    | some (.ow (.slf y c2 fs)) => if y = x then .ok (.ins c2 fs) true c' else .stuck
    | _ => .stuck
  | .ok _ _ _ => .stuck
  | .exc k fs _ c' => .exc k fs c'
  | .stuck => .stuck
theorem init_up {H0 S : Hp} {x dx C : Addr} (h1 : H0 x = none) (h2 : H0 dx = none) (h3 : dx ≠ x) (s1 : S x = none) : Up H0 S (L2.upd (L2.upd H0 dx (.own x)) x (.ins C dx [])) S := by
  refine ⟨fun b o e => ?_, fun _ _ e => e, fun _ _ e => .inl e⟩
  rw [upd_ne (ne_of_none e h1), upd_ne (ne_of_none e h2)]
  exact e
theorem rel_init {c : Nat} {H0 : Hp} {x dx : Addr} {vs : List V} {ds : List D} {N : List Str} (h1 : H0 x = none) (h2 : H0 dx = none) (h3 : dx ≠ x) (hs : HS g H0 S mu cs) (rl : RpL g S mu vs ds) (hn : (V.ref x :: vs).length ≤ N.length) :
    Rel g ⟨H0, S, mu, [], []⟩ (start N (.ref x :: vs)) (L2.upd (L2.upd H0 dx (.own x)) x (.ins (g.ca c) dx [])) S mu (.ow (.slf x c []) :: startE (N.length - 1) ds) cs := by
  have up : Up H0 S (L2.upd (L2.upd H0 dx (.own x)) x (.ins (g.ca c) dx [])) S := init_up h1 h2 h3 (hs.sNone h1)
  have he : start N (.ref x :: vs) = some (.ref x) :: (vs.map some ++ List.replicate (N.length - 1 - vs.length) none) := by
    unfold L2.start
    rw [List.map_cons, List.cons_append, List.length_cons, Nat.sub_sub, Nat.add_comm 1]
  have ent : ∀ (i : Nat) (s : Slot), (Slot.ow (.slf x c []) :: startE (N.length - 1) ds)[i]? = some s → (i = 0 ∧ s = .ow (.slf x c [])) ∨ s = .no ∨ ∃ j d, i = j + 1 ∧ ds[j]? = some d ∧ s = .fz d := fun i s e => by
    cases i with
    | zero => exact .inl ⟨rfl, (Option.some.inj e).symm⟩
    | succ j =>
      rcases startE_at (n := N.length - 1) (ds := ds) (i := j) (by simpa using e) with z | ⟨d, z1, z2⟩
      · exact .inr (.inl z)
      · exact .inr (.inr ⟨j, d, rfl, z1, z2⟩)
  rw [he]
  refine ⟨up.hs hs, ⟨.refl, fun b o h _ => .inl (up.h b o h), fun _ h => .inl h, fun _ _ h => .inl h, (fun _ h => nomatch h), (fun _ h => nomatch h)⟩, ?_, fun i d e => ?_, fun i d e => ?_, fun i j d d' a e1 e2 e3 e4 => ?_⟩
  · unfold startE
    simp only [List.length_cons, List.length_append, List.length_map, List.length_replicate, rl.length]
  · rcases ent i _ e with ⟨_, z⟩ | z | ⟨j, d', rfl, z1, z2⟩
    · cases z
    · cases z
    · cases z2
      obtain ⟨v, hv, rv⟩ := rl.get z1
      have hj : j < vs.length := (List.getElem?_eq_some_iff.mp hv).1
      refine ⟨v, ?_, rv⟩
      rw [List.getElem?_cons_succ, List.getElem?_append_left (by simpa using hj), List.getElem?_map, hv]
      rfl
  · rcases ent i _ e with ⟨rfl, z⟩ | z | ⟨j, d', rfl, z1, z2⟩
    · cases z
      exact ⟨x, rfl, hs.sNone h1, hs.notMu h1, ⟨h1, fun z => nomatch z⟩, rfl, dx, [], upd_same, .nil⟩
    · cases z
    · cases z2
  · rcases ent i _ e1 with ⟨z, _⟩ | z | ⟨_, _, _, _, z⟩
    · rcases ent j _ e2 with ⟨z', _⟩ | z' | ⟨_, _, _, _, z'⟩
      · rw [z, z']
      · cases z'
      · cases z'
    · cases z
    · cases z
theorem run_init {m : M Fl} {N : List Str} {c : Nat} {vs : List V} {H : Hp} {Q : VK} {E : XK} {n : Nat} (hN : n ≤ N.length) (h : spI g c n (runInit c N.length m) vs H Q E) :
    ∃ F, rdS g F (fun cls d _ H => E cls d H) m { nx := fun _ H' => Q .non H', rt := Q } (start N vs) H := by
  obtain ⟨hn, x, dx, vs', H0, S, mu, cs, ds, rfl, rfl, h1, h2, h3, hs, rl, p⟩ := h
  refine ⟨⟨H0, S, mu, [], []⟩, S, mu, _, cs, rel_init h1 h2 h3 hs rl (by rw [hn]; exact hN), ?_⟩
  unfold runInit at p
  unfold PoS
  cases e : m (.ow (.slf x c []) :: startE (N.length - 1) ds) cs with
  | stuck => rw [e] at p; exact p
  | exc k fs e' c' =>
    rw [e] at p
    exact fun σ dx H' S' mu' r x hn => p dx H' S' mu' (rel_aft r) x hn.1
  | ok fl e' c' =>
    rw [e] at p
    cases fl <;> first | exact p.elim | skip
    intro σ' H' S' mu' r
    simp only [] at p
    cases e0 : e'[0]? with
    | none => rw [e0] at p; exact p.elim
    | some s =>
      rw [e0] at p
      cases s <;> first | exact p.elim | skip
      rename_i d
      cases d <;> first | exact p.elim | skip
      rename_i y c2 fs
      have p : PoI g H0 S mu Q E x (if y = x then .ok (.ins c2 fs) true c' else .stuck) := p
      by_cases hy : y = x
      · subst hy
        rw [if_pos rfl] at p
        obtain ⟨a, k1, k2, k3, ⟨k4, _⟩, k5⟩ := r.ow 0 _ e0
        obtain ⟨rfl, dx', vs2, q1, q2⟩ := k5
        exact p H' S' mu' (rel_aft r) ⟨_, rfl, h1, k2, k3, dx', vs2, q1, q2⟩
      · rw [if_neg hy] at p
        exact p.elim
/-- a class of the program: its address, its __init__ -/
structure Kls (g : Glob) (base : Heap) (k c : Nat) (x : Str) (ps : List Str) (φ : Addr → Phi) (f : Addr) (fd : FuncData) : Prop where
  mg : g.mg x = some (.ref (g.ca c))
  mkk : Mk g.K (g.ca c) f
  ok : FnG g.P g.w g.K g.mg base (L2.CX g.P g.w) k f fd ps (spI g c ps.length φ)
theorem kls_ok {g : Glob} {base : Heap} {k c : Nat} {N ps : List Str} {y x qual : Str} {params : Arguments} {body : List Stmt} {scope : Scope} {dvs : List V} {kws : List (Str × V)} {f : Addr} {fd : FuncData} {m : M Fl} (F : FunD g.K y qual params body scope dvs kws f fd) (S : FnScope N ps scope) (hm : g.mg x = some (.ref (g.ca c))) (mk : Mk g.K (g.ca c) f) (hN : ps.length ≤ N.length)
    (b : BodyOk g base k N qual scope f body m) : Kls g base (k + 1) c x ps (runInit c N.length m) f fd :=
  ⟨hm, mk, fn_ofG F S (fun vs H Q E h => h.1) fun cdv A outer s H vs Q E hr hgd h => by
    obtain ⟨Fe, q⟩ := run_init hN h
    exact ⟨_, b cdv A outer s H E Fe hr hgd, q⟩⟩

/-! ### C(..) -/
/-- one place on -/
@[simp] def shf : Src → Src
  | .p i => .p (i + 1)
  | .k i => .k i
  | .d v x => .d v x
theorem arr_shf {x : V} {vs zs : List V} : ∀ sh : List Src, arrV (.p 0 :: sh.map shf) (x :: vs) zs = x :: arrV sh vs zs := fun sh => by
  unfold arrV
  rw [List.map_cons, List.map_map]
  refine congrArg (List.cons x) (List.map_congr_left fun s _ => ?_)
  cases s <;> rfl
theorem RA.callI {H0 : Hp} {r : Addr → Phi} {ds : List D} {vs : List V} {Q : VK} {n c : Nat} {x dx : Addr} (h0 : ∀ p, H p = none → H0 p = none) (h : RA g F W (TNew g F H0) (mPhi (mkPhi r) ds) σ H S mu env cs Q) (rl : RpL g S mu vs ds) (hn : vs.length + 1 = n) (h1 : H x = none) (h2 : H dx = none) (h3 : dx ≠ x) :
    spI g c n r (.ref x :: vs) (L2.upd (L2.upd H dx (.own x)) x (.ins (g.ca c) dx [])) (fun v H2 => v = .non ∧ Q (.ref x) H2) (EOf W σ) := by
  obtain ⟨rel, q⟩ := h
  refine ⟨hn, x, dx, vs, H, S, mu, cs, ds, rfl, rfl, h1, h2, h3, rel.hs, rl, ?_⟩
  unfold mPhi at q
  have ns : mkPhi r ds cs ≠ .stuck := fun z => by rw [z] at q; exact q
  rw [mkPhi_at ns x]
  cases e : mkPhi r ds cs with
  | stuck => exact (ns e).elim
  | ok d fr c =>
    rw [e] at q
    refine fun H' S' mu' a x => ⟨rfl, q _ H' S' mu' a.gr (a.rel rel) ⟨ResF.res (cs' := c) rel x, fun hf => ?_⟩⟩
    have hf : fr = true := hf
    subst hf
    obtain ⟨p, e1, e2, _⟩ := x
    exact ⟨p, e1, h0 p e2⟩
  | exc k fs c =>
    rw [e] at q
    exact fun dx H' S' mu' a x hn => q dx H' S' mu' (a.rel rel) x (rel.newX hn)
theorem run_makeG {k n : Nat} {f C : Addr} {fd : FuncData} {ps ks : List Str} {sp : Sp} {E : XK} {gU : List Value → List Value → List Value} {gV : List V → List V → List V} {pins : List (Addr × Obj)} {σ : SS} {H : Hp} {s : Shared} {Q : VK} {us ws : List Value} {vs zs : List V}
    (M : Mk X.K C f) (G : FnG X.prog X.w X.K X.mg X.base (L2.CX X.prog X.w) k f fd ps sp) (hr : Room (k + 1) X.A) (hgd : X.A.guards = some []) (hb : KBn X.K fd ps (n + 1) ks gU gV) (hx : PassAt X σ E) (I : L2.Inv X pins σ H s) (r : Vals vs us) (rz : Vals zs ws) (l1 : vs.length = n) (l2 : zs.length = ks.length)
    (h : ∀ x dx, H x = none → H dx = none → dx ≠ x → sp (gV (.ref x :: vs) zs) (L2.upd (L2.upd H dx (.own x)) x (.ins C dx [])) (fun v H2 => v = .non ∧ Q (.ref x) H2) E) :
    wpAny (model X.prog X.w) X.A (call (.ref C) us (ks.zip ws)) (EP X pins σ Q) X.xe s := by
  have J := Inv.made (C := C) I
  have hq := h (s.heap.objs.size + 1) s.heap.objs.size (I.hok.fresh (Nat.le_succ _)) (I.hok.fresh (Nat.le_refl _)) (Nat.ne_of_lt (Nat.lt_succ_self _))
  have rs : Vals (V.ref (s.heap.objs.size + 1) :: vs) (Value.ref (s.heap.objs.size + 1) :: us) := .cons rfl r
  have bd := hb.to _ (Value.ref (s.heap.objs.size + 1) :: us) ws J.kIn (rs.length.symm.trans (congrArg Nat.succ l1)) (rz.length.symm.trans l2)
  have hgd2 : (X.A.under (.builtin "type.__call__" ⟨.ref C :: us, ks.zip ws⟩)).guards = some [] := by
    show pushGuards (Code.guards (.builtin "type.__call__" ⟨.ref C :: us, ks.zip ws⟩)) X.A.guards = some []
    rw [hgd]
    rfl
  refine wpAny_call (make_map (f := f) I.kIn M.makes M.init (beq_iff_eq.mp M.fn) (codeAny_mono (G.run _ X.stack _ _ _ _ _ _ E (hr.make C us (ks.zip ws)) hgd2 (J.env0.make C us (ks.zip ws)) bd (hb.rel rs rz) hq) fun res s' z => ?_))
  rcases res with e | fl
  · exact hx pins _ _ e s' J z
  · cases fl <;> first | exact False.elim z | skip
    obtain ⟨v, H', I3, rv, ev, q3⟩ := J.after z
    subst ev
    exact ⟨rv, ⟨V.ref (s.heap.objs.size + 1), H', I3, rfl, q3⟩⟩
/-- what a making asks -/
def tMkG (g : Glob) (X : Cx) (c n m : Nat) (sp : Sp) (gV : List V → List V → List V) (t tk : TA) : TE := fun σ H Q => t σ H fun vs H1 => tk σ H1 fun zs H2 => vs.length = n ∧ zs.length = m ∧ ∃ E, PassAt X σ E ∧
  ∀ x dx, H2 x = none → H2 dx = none → dx ≠ x → sp (gV (.ref x :: vs) zs) (L2.upd (L2.upd H2 dx (.own x)) x (.ins (g.ca c) dx [])) (fun v H3 => v = .non ∧ Q (.ref x) H3) E
theorem pe_mkG {k n c : Nat} {f : Addr} {fd : FuncData} {ps ks : List Str} {sp : Sp} {x : Str} {p pos : Pos} {e : Expr} {es : List Expr} {kws : List Keyword} {t tk : TA} {gU : List Value → List Value → List Value} {gV : List V → List V → List V}
    (MK : Mk X.K (g.ca c) f) (G : FnG X.prog X.w X.K X.mg X.base (L2.CX X.prog X.w) k f fd ps sp) (hr : Room (k + 1) X.A) (hgd : X.A.guards = some []) (hg : Gl X x) (hm : X.mg x = some (.ref (g.ca c))) (hb : KBn X.K fd ps (n + 1) ks gU gV)
    (ha : PA X (e :: es) t) (hkw : PK X kws tk) (hall : (backToKw pos (keywordEach kws X.env)).all (·.1.isSome) = true) (hks : (backToKw pos (keywordEach kws X.env)).filterMap (·.1) = ks)
    (hdb : (x == ("__debug__" : Str)) = false) (hst : ∀ x p, e ≠ .Starred x p) (hpl : ((backTo pos (starEach (e :: es) X.env)).any (·.1) || (backToKw pos (keywordEach kws X.env)).any (·.1.isNone)) = false) :
    PE X (.Call (.Name x p) (e :: es) kws pos) (tMkG g X c n ks.length sp gV t tk) := by
  refine ⟨fun pins s σ H Q I h => wpAny_Call_Name_kw (ld_glob I hg hm ?_ hdb)⟩
  refine PySem.W.callWith_KW (h₀ := X.base) I.ok.mod.kin MK.kp hall (thn (ha.run pos pins s σ H _ I h) fun us s1 ⟨vs, H1, I1, r, q⟩ => ?_) hpl (starEach_cons hst)
  refine thn (hkw.run pos pins s1 σ H1 _ I1 q) fun ws s2 ⟨zs, H2, I2, rz, l1, l2, E, hx, q2⟩ => ⟨I2.kIn, ?_⟩
  rw [hks]
  exact run_makeG MK G hr hgd hb hx I2 r rz l1 l2 q2
theorem pe_mkG0 {k c : Nat} {f : Addr} {fd : FuncData} {ps ks : List Str} {sp : Sp} {x : Str} {p pos : Pos} {kws : List Keyword} {tk : TA} {gU : List Value → List Value → List Value} {gV : List V → List V → List V}
    (MK : Mk X.K (g.ca c) f) (G : FnG X.prog X.w X.K X.mg X.base (L2.CX X.prog X.w) k f fd ps sp) (hr : Room (k + 1) X.A) (hgd : X.A.guards = some []) (hg : Gl X x) (hm : X.mg x = some (.ref (g.ca c))) (hb : KBn X.K fd ps 1 ks gU gV)
    (hkw : PK X kws tk) (hall : (backToKw pos (keywordEach kws X.env)).all (·.1.isSome) = true) (hks : (backToKw pos (keywordEach kws X.env)).filterMap (·.1) = ks)
    (hdb : (x == ("__debug__" : Str)) = false) (hpl : ((backTo pos (starEach [] X.env)).any (·.1) || (backToKw pos (keywordEach kws X.env)).any (·.1.isNone)) = false) :
    PE X (.Call (.Name x p) [] kws pos) (tMkG g X c 0 ks.length sp gV tNil tk) := by
  refine ⟨fun pins s σ H Q I h => wpAny_Call_Name_kw (ld_glob I hg hm ?_ hdb)⟩
  refine PySem.W.callWith_KW0 (h₀ := X.base) I.ok.mod.kin MK.kp hall (thn (hkw.run pos pins s σ H _ I h) fun ws s2 ⟨zs, H2, I2, rz, l1, l2, E, hx, q2⟩ => ⟨I2.kIn, ?_⟩) hpl
  rw [hks]
  exact run_makeG (us := []) MK G hr hgd hb hx I2 .nil rz rfl l2 q2
theorem wMake {k c n : Nat} {f : Addr} {fd : FuncData} {ps ks : List Str} {x : Str} {p : Pos} {kws : List Keyword} {mp mk : M (List D)} {r : Addr → Phi} {kk : Nat} (sh : List Src) {gU : List Value → List Value → List Value}
    (MK : Mk X.K (g.ca c) f) (G : FnG X.prog X.w X.K X.mg X.base (L2.CX X.prog X.w) k f fd ps (spI g c ps.length r)) (hm : X.mg x = some (.ref (g.ca c))) (hr : Room kk X.A) (hb : KBn X.K fd ps (n + 1) ks gU (arrV (.p 0 :: sh.map shf))) (tk : Takes X W) (ha : PA X (e :: es) (rdA g F W mp)) (hkw : PK X kws (rdA g F W mk)) (hp : Many n mp) (hq : Many ks.length mk)
    (hd : DflOk g sh) (hle : k + 1 ≤ kk := by decide) (hgd : X.A.guards = some [] := by assumption) (hg : Gl X x := by rfl) (hsh : sh.length + 1 = ps.length := by rfl) (hall : (backToKw pos (keywordEach kws X.env)).all (·.1.isSome) = true := by rfl) (hks : (backToKw pos (keywordEach kws X.env)).filterMap (·.1) = ks := by rfl)
    (hdb : (x == ("__debug__" : Str)) = false := by decide) (hst : ∀ x p, e ≠ .Starred x p := by intros; intro h; cases h) (hpl : ((backTo pos (starEach (e :: es) X.env)).any (·.1) || (backToKw pos (keywordEach kws X.env)).any (·.1.isNone)) = false := by rfl) :
    PE X (.Call (.Name x p) (e :: es) kws pos) (rdN g F W (mCall (mkPhi r) sh mp mk)) :=
  PE.imp (pe_mkG MK G (hr.mono hle) hgd hg hm hb ha hkw hall hks hdb hst hpl) fun σ H Q ⟨S, mu, env, cs, ra⟩ => by
    refine (RA.many (T := TRl g) hp ra fun ds env1 cs1 vs H1 S1 mu1 gr t l1 r1 => (RA.many (T := TRl g) hq r1 fun es env2 cs2 zs H2 S2 mu2 gr2 t2 l2 r2 => ?_).rd).rd
    refine ⟨by rw [t.length, l1], by rw [t2.length, l2], EOf W σ, pass_at tk, fun x dx h1 h2 h3 => ?_⟩
    rw [arr_shf]
    exact RA.callI (fun p hp => (gr.trans gr2).none r2.1.hs hp) r2 (arr_rp (t.mono gr2.mo) t2 sh hd) (by unfold arrV; rw [List.length_map, hsh]) h1 h2 h3
theorem wMake0 {k c : Nat} {f : Addr} {fd : FuncData} {ps ks : List Str} {x : Str} {p : Pos} {kws : List Keyword} {mk : M (List D)} {r : Addr → Phi} {kk : Nat} (sh : List Src) {gU : List Value → List Value → List Value}
    (MK : Mk X.K (g.ca c) f) (G : FnG X.prog X.w X.K X.mg X.base (L2.CX X.prog X.w) k f fd ps (spI g c ps.length r)) (hm : X.mg x = some (.ref (g.ca c))) (hr : Room kk X.A) (hb : KBn X.K fd ps 1 ks gU (arrV (.p 0 :: sh.map shf))) (tk : Takes X W) (hkw : PK X kws (rdA g F W mk)) (hq : Many ks.length mk)
    (hd : DflOk g sh) (hle : k + 1 ≤ kk := by decide) (hgd : X.A.guards = some [] := by assumption) (hg : Gl X x := by rfl) (hsh : sh.length + 1 = ps.length := by rfl) (hall : (backToKw pos (keywordEach kws X.env)).all (·.1.isSome) = true := by rfl) (hks : (backToKw pos (keywordEach kws X.env)).filterMap (·.1) = ks := by rfl)
    (hdb : (x == ("__debug__" : Str)) = false := by decide) (hpl : ((backTo pos (starEach [] X.env)).any (·.1) || (backToKw pos (keywordEach kws X.env)).any (·.1.isNone)) = false := by rfl) :
    PE X (.Call (.Name x p) [] kws pos) (rdN g F W (mCall (mkPhi r) sh (M.pure []) mk)) :=
  PE.imp (pe_mkG0 MK G (hr.mono hle) hgd hg hm hb hkw hall hks hdb hpl) fun σ H Q ⟨S, mu, env, cs, ra⟩ => by
    refine (RA.many (T := TRl g) (f := fun es => mPhi (mkPhi r) (arrD sh [] es)) hq ra fun es env2 cs2 zs H2 S2 mu2 gr2 t2 l2 r2 => ?_).rd
    refine ⟨rfl, by rw [t2.length, l2], EOf W σ, pass_at tk, fun x dx h1 h2 h3 => ?_⟩
    rw [arr_shf]
    exact RA.callI (fun p hp => gr2.none r2.1.hs hp) r2 (arr_rp .nil t2 sh hd) (by unfold arrV; rw [List.length_map, hsh]) h1 h2 h3

/-! ### o.m(..) -/
def mCls (o : D) : M Nat := fun env cs => match dr cs o with
  | some (.ins c _) => .ok c env cs
  | _ => .stuck
abbrev MCand := List (Nat × List Src × Phi)
def methK (cands : MCand) (mp mk : M (List D)) (o : D) (c : Nat) : M (D × Bool) := match cands.lookup c with
  | some (sh, φ) => mp.bind fun ds => mk.bind fun es => mPhi φ (o :: arrD sh ds es)
  | none => M.stuck
def mMeth (cands : MCand) (mo : M D) (mp mk : M (List D)) : M (D × Bool) := mo.bind fun o => (mCls o).bind fun c => methK cands mp mk o c
/-- a method of the class at C, what it promises -/
structure Mth (g : Glob) (X : Cx) (k n : Nat) (ks : List Str) (m : Str) (c : Nat) (sh : List Src) (φ : Phi) : Prop where
  cls : Cls X.K (g.ca c)
  dfl : DflOk g sh
  ex : ∃ (f : Addr) (fd : FuncData) (ps : List Str) (gU : List Value → List Value → List Value), Meth X.K (g.ca c) m f ∧ FnG X.prog X.w X.K X.mg X.base (L2.CX X.prog X.w) k f fd ps (spF g ps.length φ) ∧ KBn X.K fd ps (n + 1) ks gU (arrV (.p 0 :: sh.map shf)) ∧ sh.length + 1 = ps.length
def tMthG (g : Glob) (X : Cx) (cands : MCand) (k n : Nat) (ks : List Str) (m : Str) (to : TE) (t tk : TA) : TE := fun σ H Q => to σ H fun x H1 => ∃ a c dx fs sh φ, x = .ref a ∧ Rd H1 a (.ins (g.ca c) dx fs) ∧ fs.lookup m = none ∧ Mth g X k n ks m c sh φ ∧
  t σ H1 fun vs H2 => tk σ H2 fun zs H3 => vs.length = n ∧ zs.length = ks.length ∧ ∃ E, PassAt X σ E ∧ spF g (sh.length + 1) φ (.ref a :: arrV sh vs zs) H3 Q E
theorem getmeth_rd {pins : List (Addr × Obj)} {σ : SS} {H : Hp} {s : Shared} {a dx C f : Addr} {fs : List (Str × V)} {m : Str} {pl : Sem Bool} {Q : Value × List Value → Shared → Prop} {A : Around} {E : Value → Shared → Prop} (I : L2.Inv X pins σ H s) (e : Rd H a (.ins C dx fs)) (c : Cls X.K C) (k : Meth X.K C m f) (l : fs.lookup m = none)
    (h : Q (.ref f, [.ref a]) s) : wpAny (model X.prog X.w) A (getMethod (.ref a) m pl) Q E s := by
  obtain ⟨mA, O, r⟩ := ins_rd I e
  exact get_meth I.kIn O (c.get m) k.at_ k.fn (RelO.none_of (by rw [← l]; exact r m)) h
theorem pe_mthG {cands : MCand} {k n : Nat} {ks : List Str} {m : Str} {to : TE} {t tk : TA} {apos : Pos} {kws : List Keyword} {pl : Sem Bool} (hr : Room k X.A) (hgd : X.A.guards = some []) (ho : PE X o to) (ha : PA X (e :: es) t) (hkw : PK X kws tk)
    (hall : (backToKw pos (keywordEach kws X.env)).all (·.1.isSome) = true) (hks : (backToKw pos (keywordEach kws X.env)).filterMap (·.1) = ks)
    (hst : ∀ x p, e ≠ .Starred x p) (hpl : ((backTo pos (starEach (e :: es) X.env)).any (·.1) || (backToKw pos (keywordEach kws X.env)).any (·.1.isNone)) = false)
    (ht : eval (.Call (.Attribute o m apos) (e :: es) kws pos) X.env = (do
      let ov ← eval o X.env
      standAt apos.atName
      let (f, first) ← holding [ov] (getMethod ov m pl)
      callWith pos f first (backTo pos (starEach (e :: es) X.env)) (backToKw pos (keywordEach kws X.env)))) :
    PE X (.Call (.Attribute o m apos) (e :: es) kws pos) (tMthG g X cands k n ks m to t tk) := by
  refine ⟨fun pins s σ H Q I h => PySem.W.methodCall_KW (pl := pl) (thn (ho.run pins s σ H _ I h) fun u s1 ⟨x, H1, I1, rx, a, c, dx, fs, sh, φ, ex, ea, l, mt, q⟩ => ?_) ht⟩
  subst ex
  cases rx
  obtain ⟨hc, hd, f, fd, ps, gU, hm, G, hb, hsh⟩ := mt
  refine getmeth_rd I1 ea hc hm l ?_
  refine PySem.W.callWith_KW (first := [.ref a]) (h₀ := X.base) I.ok.mod.kin hm.kp hall (thn (ha.run pos pins s1 σ H1 _ I1 q) fun us s2 ⟨vs, H2, I2, r, q2⟩ => ?_) hpl (starEach_cons hst)
  refine thn (hkw.run pos pins s2 σ H2 _ I2 q2) fun ws s3 ⟨zs, H3, I3, rz, l1, l2, E, hx, q3⟩ => ⟨I3.kIn, ?_⟩
  rw [hks]
  exact run_at (us := .ref a :: us) (vs := .ref a :: vs) G hr hgd hb hx I3 (.cons rfl r) rz (congrArg Nat.succ l1) l2 (by rw [arr_shf, ← hsh]; exact q3)
theorem pe_mthG0 {cands : MCand} {k : Nat} {ks : List Str} {m : Str} {to : TE} {tk : TA} {apos : Pos} {kws : List Keyword} {pl : Sem Bool} (hr : Room k X.A) (hgd : X.A.guards = some []) (ho : PE X o to) (hkw : PK X kws tk)
    (hall : (backToKw pos (keywordEach kws X.env)).all (·.1.isSome) = true) (hks : (backToKw pos (keywordEach kws X.env)).filterMap (·.1) = ks)
    (hpl : ((backTo pos (starEach [] X.env)).any (·.1) || (backToKw pos (keywordEach kws X.env)).any (·.1.isNone)) = false)
    (ht : eval (.Call (.Attribute o m apos) [] kws pos) X.env = (do
      let ov ← eval o X.env
      standAt apos.atName
      let (f, first) ← holding [ov] (getMethod ov m pl)
      callWith pos f first (backTo pos (starEach [] X.env)) (backToKw pos (keywordEach kws X.env)))) :
    PE X (.Call (.Attribute o m apos) [] kws pos) (tMthG g X cands k 0 ks m to tNil tk) := by
  refine ⟨fun pins s σ H Q I h => PySem.W.methodCall_KW (pl := pl) (thn (ho.run pins s σ H _ I h) fun u s1 ⟨x, H1, I1, rx, a, c, dx, fs, sh, φ, ex, ea, l, mt, q⟩ => ?_) ht⟩
  subst ex
  cases rx
  obtain ⟨hc, hd, f, fd, ps, gU, hm, G, hb, hsh⟩ := mt
  refine getmeth_rd I1 ea hc hm l ?_
  refine PySem.W.callWith_KW0 (first := [.ref a]) (h₀ := X.base) I.ok.mod.kin hm.kp hall (thn (hkw.run pos pins s1 σ H1 _ I1 q) fun ws s3 ⟨zs, H3, I3, rz, l1, l2, E, hx, q3⟩ => ⟨I3.kIn, ?_⟩) hpl
  rw [hks]
  exact run_at (us := [.ref a]) (vs := [.ref a]) G hr hgd hb hx I3 (.cons rfl .nil) rz rfl l2 (by rw [arr_shf, ← hsh]; exact q3)
/-- no attribute of an instance is called so; each class's method -/
def MethOk (g : Glob) (X : Cx) (k n : Nat) (ks : List Str) (m : Str) (cands : MCand) : Prop := ∀ c sh φ, cands.lookup c = some (sh, φ) → Mth g X k n ks m c sh φ
theorem RA.cls {o : D} {α' β' : Type} {T' : SS → Env → Hp → Hp → List Addr → β' → α' → Prop} {f : Nat → M α'} {Q : β' → Hp → Prop} (h : RA g F W T' ((mCls o).bind f) σ H S mu env cs Q) : ∃ c fs, dr cs o = some (.ins c fs) ∧ RA g F W T' (f c) σ H S mu env cs Q := by
  obtain ⟨r, q⟩ := h
  rw [Post.bind] at q
  unfold mCls at q
  cases e : dr cs o with
  | none => simp only [e] at q; exact q.elim
  | some y =>
    cases y <;> first | (simp only [e] at q; exact q.elim) | skip
    simp only [e] at q
    exact ⟨_, _, rfl, r, q⟩
/-- the fields of the classes asked are no methods -/
def mNoF (m : Str) (o : D) : M Unit := fun env cs => match dr cs o with
  | some (.ins _ fs) => if (fs.lookup m).isNone then .ok () env cs else .stuck
  | _ => .stuck
theorem RA.nof {m : Str} {o : D} {α' β' : Type} {T' : SS → Env → Hp → Hp → List Addr → β' → α' → Prop} {f : Unit → M α'} {Q : β' → Hp → Prop} (h : RA g F W T' ((mNoF m o).bind f) σ H S mu env cs Q) : ∃ c fs, dr cs o = some (.ins c fs) ∧ fs.lookup m = none ∧ RA g F W T' (f ()) σ H S mu env cs Q := by
  obtain ⟨r, q⟩ := h
  rw [Post.bind] at q
  unfold mNoF at q
  cases e : dr cs o with
  | none => simp only [e] at q; exact q.elim
  | some y =>
    cases y <;> first | (simp only [e] at q; exact q.elim) | skip
    rename_i c fs
    simp only [e] at q
    cases e2 : fs.lookup m with
    | none => rw [e2] at q; exact ⟨_, _, rfl, e2, r, q⟩
    | some z => rw [e2] at q; exact q.elim
def mMethF (m : Str) (cands : MCand) (mo : M D) (mp mk : M (List D)) : M (D × Bool) := mo.bind fun o => (mNoF m o).bind fun _ => (mCls o).bind fun c => methK cands mp mk o c
theorem wMeth {k n : Nat} {ks : List Str} {m : Str} {cands : MCand} {apos : Pos} {kws : List Keyword} {mo : M D} {mp mk : M (List D)} {kk : Nat} {pl : Sem Bool} (hr : Room kk X.A) (tk : Takes X W) (hc : MethOk g X k n ks m cands) (ho : PE X o (rdZ g F W mo)) (ha : PA X (e :: es) (rdA g F W mp)) (hkw : PK X kws (rdA g F W mk)) (hp : Many n mp) (hq : Many ks.length mk)
    (ht : eval (.Call (.Attribute o m apos) (e :: es) kws pos) X.env = (do
      let ov ← eval o X.env
      standAt apos.atName
      let (f, first) ← holding [ov] (getMethod ov m pl)
      callWith pos f first (backTo pos (starEach (e :: es) X.env)) (backToKw pos (keywordEach kws X.env))) := by rfl)
    (hle : k ≤ kk := by decide) (hgd : X.A.guards = some [] := by assumption) (hall : (backToKw pos (keywordEach kws X.env)).all (·.1.isSome) = true := by rfl) (hks : (backToKw pos (keywordEach kws X.env)).filterMap (·.1) = ks := by rfl)
    (hst : ∀ x p, e ≠ .Starred x p := by intros; intro h; cases h) (hpl : ((backTo pos (starEach (e :: es) X.env)).any (·.1) || (backToKw pos (keywordEach kws X.env)).any (·.1.isNone)) = false := by rfl) :
    PE X (.Call (.Attribute o m apos) (e :: es) kws pos) (rdN g F W (mMethF m cands mo mp mk)) :=
  PE.imp (pe_mthG (g := g) (cands := cands) (k := k) (n := n) (pl := pl) (hr.mono hle) hgd ho ha hkw hall hks hst hpl ht) fun σ H Q ⟨S, mu, env, cs, ra⟩ => by
    refine (RA.bind (T := TRp g) ra fun d env1 cs1 v H1 S1 mu1 gr t r1 => ?_).rd
    obtain ⟨c0, fs0, hd0, hl, r1⟩ := r1.nof
    obtain ⟨c, fs, hd, r1⟩ := r1.cls
    obtain ⟨rfl, rfl⟩ : c0 = c ∧ fs0 = fs := by
      rw [hd] at hd0
      cases hd0
      exact ⟨rfl, rfl⟩
    obtain ⟨ad, dx, vs, rfl, k1, k2⟩ := vo_ins r1.1.hs t hd
    unfold methK at r1
    cases e2 : cands.lookup c0 with
    | none => simp only [e2] at r1; exact r1.2.elim
    | some y =>
      obtain ⟨sh, φ⟩ := y
      simp only [e2] at r1
      have mt := hc c0 sh φ e2
      refine ⟨ad, c0, dx, vs, sh, φ, rfl, k1, k2.lookupN hl, mt, ?_⟩
      refine (RA.many (T := TRl g) hp r1 fun ds env2 cs2 vs H2 S2 mu2 gr2 t2 l2 r2 => (RA.many (T := TRl g) hq r2 fun es env3 cs3 zs H3 S3 mu3 gr3 t3 l3 r3 => ?_).rd).rd
      refine ⟨by rw [t2.length, l2], by rw [t3.length, l3], EOf W σ, pass_at tk, ?_⟩
      exact RA.callN (fun p hp => (gr.trans (gr2.trans gr3)).none r3.1.hs hp) r3 (.cons (t.mono (gr2.mo.trans gr3.mo)) (arr_rp (t2.mono gr3.mo) t3 sh mt.dfl)) (by unfold arrV; simp)
theorem wMeth0 {k : Nat} {ks : List Str} {m : Str} {cands : MCand} {apos : Pos} {kws : List Keyword} {mo : M D} {mk : M (List D)} {kk : Nat} {pl : Sem Bool} (hr : Room kk X.A) (tk : Takes X W) (hc : MethOk g X k 0 ks m cands) (ho : PE X o (rdZ g F W mo)) (hkw : PK X kws (rdA g F W mk)) (hq : Many ks.length mk)
    (ht : eval (.Call (.Attribute o m apos) [] kws pos) X.env = (do
      let ov ← eval o X.env
      standAt apos.atName
      let (f, first) ← holding [ov] (getMethod ov m pl)
      callWith pos f first (backTo pos (starEach [] X.env)) (backToKw pos (keywordEach kws X.env))) := by rfl)
    (hle : k ≤ kk := by decide) (hgd : X.A.guards = some [] := by assumption) (hall : (backToKw pos (keywordEach kws X.env)).all (·.1.isSome) = true := by rfl) (hks : (backToKw pos (keywordEach kws X.env)).filterMap (·.1) = ks := by rfl)
    (hpl : ((backTo pos (starEach [] X.env)).any (·.1) || (backToKw pos (keywordEach kws X.env)).any (·.1.isNone)) = false := by rfl) :
    PE X (.Call (.Attribute o m apos) [] kws pos) (rdN g F W (mMethF m cands mo (M.pure []) mk)) :=
  PE.imp (pe_mthG0 (g := g) (cands := cands) (k := k) (pl := pl) (hr.mono hle) hgd ho hkw hall hks hpl ht) fun σ H Q ⟨S, mu, env, cs, ra⟩ => by
    refine (RA.bind (T := TRp g) ra fun d env1 cs1 v H1 S1 mu1 gr t r1 => ?_).rd
    obtain ⟨c0, fs0, hd0, hl, r1⟩ := r1.nof
    obtain ⟨c, fs, hd, r1⟩ := r1.cls
    obtain ⟨rfl, rfl⟩ : c0 = c ∧ fs0 = fs := by
      rw [hd] at hd0
      cases hd0
      exact ⟨rfl, rfl⟩
    obtain ⟨ad, dx, vs, rfl, k1, k2⟩ := vo_ins r1.1.hs t hd
    unfold methK at r1
    cases e2 : cands.lookup c0 with
    | none => simp only [e2] at r1; exact r1.2.elim
    | some y =>
      obtain ⟨sh, φ⟩ := y
      simp only [e2] at r1
      have mt := hc c0 sh φ e2
      refine ⟨ad, c0, dx, vs, sh, φ, rfl, k1, k2.lookupN hl, mt, ?_⟩
      refine (RA.many (T := TRl g) (f := fun es => mPhi φ (d :: arrD sh [] es)) hq r1 fun es env3 cs3 zs H3 S3 mu3 gr3 t3 l3 r3 => ?_).rd
      refine ⟨rfl, by rw [t3.length, l3], EOf W σ, pass_at tk, ?_⟩
      exact RA.callN (fun p hp => (gr.trans gr3).none r3.1.hs hp) r3 (.cons (t.mono gr3.mo) (arr_rp .nil t3 sh mt.dfl)) (by unfold arrV; simp)
end
end EL
namespace EL
open PySem PySem.Spec PyProof.Rows L2 PySem.W PySem.Builtin PySem.Builtin.ObjectAttr

/-! ### an exception class of the program: __init__ is super().__init__(text), then its fields -/
/-- what the written part says of the class at C; its __init__ at fI, that one's cell, that one's code -/
structure XFacts (P : Program) (K : PySem.W.Frag) (C fI cc cda : Addr) (B newId initId : String) (bmB : List Value) : Prop where
  q : excInitIn K C bmB newId = true
  ini : findIn K (.ref C) "__init__" = some (some (.ref fI))
  fn : isFn K (.ref fI) = true
  over : excOver K C bmB = true
  hd : hasDictIn K C = true
  sa : findIn K (.ref C) "__setattr__" = some (some (.builtin "object.__setattr__"))
  sup : ks_superIn K C C "__init__" = some (some (.builtin initId))
  subB : subIn K (.ref C) (.type B) = some true
  self : mroIn K C (.ref C) = some true
  opq : nsIn K cStatics "thirdparty.any" = some none
  exC : subIn K (.ref C) (.type "BaseException") = some true
  tyC : typeIn K (.ref C) = some (.type "type")
  kp : keepIn K (.ref C) = true
  cell : ∃ cl cld csl, K.lookup cc = some ⟨cl, cld, .cell (some (.ref C)), csl⟩
  code : ∃ ccl cdd vs ccs file tf, K.lookup cda = some ⟨ccl, cdd, .fields vs, ccs⟩ ∧ vs[2]? = some (.str file tf) ∧ ((P.main.file : Str) == file) = true
/-- the built-in base -/
structure XBase (B newId initId : String) (bmB : List Value) : Prop where
  FB : ExcBaseFacts B newId initId bmB
  SF : StoreFacts B bmB "object.__setattr__" "object"
  KF : KxsFacts B initId
theorem xbase_ValueError : XBase "ValueError" "ValueError.__new__" "ValueError.__init__" [.type "ValueError", .type "Exception", .type "BaseException", .type "object"] := ⟨PySem.F.excBase_ValueError, PySem.F.store_ValueError, kxs_ValueError⟩
theorem xbase_RuntimeError : XBase "RuntimeError" "RuntimeError.__new__" "RuntimeError.__init__" [.type "RuntimeError", .type "Exception", .type "BaseException", .type "object"] := ⟨PySem.F.excBase_RuntimeError, PySem.F.store_RuntimeError, kxs_RuntimeError⟩
theorem xbase_LookupError : XBase "LookupError" "LookupError.__new__" "LookupError.__init__" [.type "LookupError", .type "Exception", .type "BaseException", .type "object"] := ⟨PySem.F.excBase_LookupError, PySem.F.store_LookupError, kxs_LookupError⟩
theorem xbase_ArithmeticError : XBase "ArithmeticError" "ArithmeticError.__new__" "ArithmeticError.__init__" [.type "ArithmeticError", .type "Exception", .type "BaseException", .type "object"] := ⟨PySem.F.excBase_ArithmeticError, PySem.F.store_ArithmeticError, kxs_ArithmeticError⟩

abbrev xObj (C t : Addr) (d : Option Addr) : Obj := { cls := .ref C, dict := d, data := .fields #[.ref t, .none, .none, .none, .bool false, .none] }
section
variable {P : Program} {w : World} {K : PySem.W.Frag} {C fI cc cda : Addr} {B newId initId : String} {bmB : List Value} {A : Around} {E : Value → Shared → Prop}
/-- where the exception's dict stands, if it has one; what is in it -/
def DOf (h : Heap) (dx : Option Addr) (e lo : Addr) (m : Str → Option Value) : Prop := match dx with
  | none => ∀ y, m y = none
  | some d => h.Ns1 d m ∧ d ≠ e ∧ lo ≤ d
/-- e.f = v -/
theorem x_store (XB : XBase B newId initId bmB) (XF : XFacts P K C fI cc cda B newId initId bmB) {s : Shared} {e t lo : Addr} {dx : Option Addr} {m : Str → Option Value} {nl : List Str} {f : Str} {v : Value} {Q : Unit → Shared → Prop}
    (X : K.In s.heap) (he : s.heap.get? e = some (xObj C t dx)) (hd : DOf s.heap dx e lo m) (hlo : lo ≤ s.heap.objs.size) (hw : Within m nl) (hz : nl.length ≤ 1000) (hno : findIn K (.ref C) f = some none)
    (h : ∀ h' tk d, (∀ b o, b ≠ e → some b ≠ dx → s.heap.get? b = some o → h'.get? b = some o) → h'.get? e = some (xObj C t (some d)) → h'.Ns1 d (fun y => if y = f then some v else m y) → d ≠ e → lo ≤ d → (dx = none ∨ dx = some d) → (dx = none → s.heap.objs.size ≤ d) → s.heap.objs.size ≤ h'.objs.size → Q () { s with heap := h', toks := tk }) :
    wpAny (model P w) A (setAttr (.ref e) f v) Q E s := by
  have tk : takerIn K C f = some none := by
    unfold takerIn
    rw [hno]
    rfl
  obtain ⟨cd, hc, hcd⟩ := any_some XF.hd
  have hcls : ∀ {M : Model} {g : Heap}, K.In g → Looks M g (classData C) cd := fun k => looks_clsIn k hc
  cases dx with
  | none =>
    have I : InstAt s.heap e (xObj C t none) C none := ⟨he, rfl, rfl, trivial⟩
    refine set_plain X I XF.sa (osa_openX (s := { s with toks := s.toks + 1 }) XB.SF X I XF.over tk fun b => ?_)
    have hes : e ≠ s.heap.objs.size := Nat.ne_of_lt (Heap.lt_size he)
    have hL := hcls (M := model P w) X
    obtain ⟨hp, g, d, tt, os⟩ := s
    obtain ⟨nm, bs, mro, ns, qn, hdd, sn, sb, ab, col, del⟩ := cd
    dsimp only at hcd
    subst hcd
    dsimp only at he hL hes X
    unfold storeInOwnDict ownDictForStores
    repeat (first | with_reducible refine PySem.HandSPX.store_in_new ?_ ?_ | with_reducible refine wpAny_loadPart_at he ?_ | with_reducible refine hL.at ?_ | wp_step)
    · exact ⟨_, #[], _, (Heap.get?_update_ne _ _ _ _ hes.symm).trans (Heap.get?_push_at rfl rfl), rfl, (fun y hy => absurd hy (by simp)), fun _ => rfl⟩
    · intro h' tk' hn' hs
      have he1 : (hp.push { cls := .type "dict", data := .dict #[] }).get? e = some (xObj C t none) := Heap.get?_push_of_some _ he
      refine h h' _ hp.objs.size (fun b o hb _ ho => ?_) ?_ ?_ hes.symm hlo (.inl rfl) (fun _ => Nat.le_refl _) ?_
      · exact (hs.2 b (Nat.ne_of_lt (Heap.lt_size ho))).trans ((Heap.get?_update_ne _ _ _ _ hb).trans (Heap.get?_push_of_some _ ho))
      · exact (hs.2 e hes).trans (Heap.get?_update_self _ he1 rfl)
      · have em : (fun y => if y = f then some v else m y) = fun y => if y = f then some v else none := funext fun y => by rw [show m y = none from hd y]
        rw [em]
        exact hn'
      · obtain ⟨oD, _, _, hoD, _⟩ := hn'
        exact Nat.le_of_lt (Heap.lt_size hoD)
  | some d =>
    obtain ⟨hn, hde, hld⟩ := hd
    obtain ⟨oD, esD, epD, hoD, hdD, _⟩ := hn.count hw
    have I : InstAt s.heap e (xObj C t (some d)) C (some oD) := ⟨he, rfl, rfl, hoD⟩
    refine set_plain X I XF.sa (osa_openX (s := { s with toks := s.toks + 1 }) XB.SF X I XF.over tk fun b => ?_)
    have hL := hcls (M := model P w) X
    obtain ⟨hp, g, dr, tt, os⟩ := s
    obtain ⟨nm, bs, mro, ns, qn, hdd, sn, sb, ab, col, del⟩ := cd
    dsimp only at hcd
    subst hcd
    dsimp only at he hL hn X
    unfold storeInOwnDict ownDictForStores
    repeat (first | with_reducible refine PySem.OEX.store_in_old hn hw hz ?_ | with_reducible refine wpAny_loadPart_at he ?_ | with_reducible refine hL.at ?_ | wp_step)
    intro h' tk' hn' hs
    refine h h' _ d (fun b o _ hb ho => (hs.2 b fun z => hb (by rw [z])).trans ho) ((hs.2 e hde.symm).trans he) hn' hde hld (.inr rfl) (fun z => nomatch z) ?_
    show hp.objs.size ≤ h'.objs.size
    rw [hs.1]
    exact Nat.le_refl _

/-! ### its making -/
/-- self.f = x, a parameter -/
abbrev xStmt (q : Str × Str × Pos × Pos × Pos × Pos) : Stmt := .Assign [.Attribute (.Name "self" q.2.2.1) q.1 q.2.2.2.1] (.Name q.2.1 q.2.2.2.2.1) q.2.2.2.2.2
/-- the fields behind these stores -/
def xFs (m : Str → Option Value) : List (Str × Str × Pos × Pos × Pos × Pos) → (Str → Option Value) → (Str → Option Value)
  | [], a => a
  | q :: r, a => xFs m r fun y => if y = q.1 then m q.2.1 else a y
theorem x_stores (XB : XBase B newId initId bmB) (XF : XFacts P K C fI cc cda B newId initId bmB) {env : PySem.Env} {lo L e : Addr} {mL : Str → Option Value} (hk : env.scope.kind = .function) (hL : env.locals = L) (hself : env.kindOf "self" = some .local) (mself : mL "self" = some (.ref e)) {h0 : Heap} (K0 : K.In h0) :
    ∀ (fxs : List (Str × Str × Pos × Pos × Pos × Pos)) {s : Shared} {t : Addr} {dx : Option Addr} {m : Str → Option Value} {nl : List Str} {Q : Flow → Shared → Prop},
    (∀ q ∈ fxs, env.kindOf q.2.1 = some .local ∧ (∃ v, mL q.2.1 = some v) ∧ findIn K (.ref C) q.1 = some none ∧ (q.2.1 == ("__debug__" : Str)) = false) → (∀ b o, h0.get? b = some o → s.heap.get? b = some o) → s.heap.Ns L mL → h0.objs.size ≤ lo → lo ≤ s.heap.objs.size → L < lo → e < lo → e ≠ L →
    s.heap.get? e = some (xObj C t dx) → h0.get? e = none → DOf s.heap dx e lo m → Within m nl → nl.length + fxs.length ≤ 1000 →
    (∀ h' tk t' dx', (∀ b o, h0.get? b = some o → h'.get? b = some o) → h'.get? e = some (xObj C t' dx') → DOf h' dx' e lo (xFs mL fxs m) → Q .next { s with heap := h', toks := tk }) →
    wpAny (model P w) A (execs (fxs.map xStmt) env) Q E s
  | [], s, t, dx, m, nl, Q, _, k0, _, _, _, _, _, _, he, _, hd, _, _, h => wpAny_execs_nil (h s.heap s.toks t dx k0 he hd)
  | (f, x, p1, p2, p3, p4) :: fxs, s, t, dx, m, nl, Q, hq, k0, hns, hlo0, hlo, hLl, hel, heL, he, he0, hd, hw, hz, h => by
    obtain ⟨l1, ⟨v, hv⟩, hno, hdb⟩ := hq _ List.mem_cons_self
    have l1 : env.kindOf x = some .local := l1
    have hv : mL x = some v := hv
    subst hL
    refine wpAny_execs_cons (plainObj_wpAny_Assign_Attribute (wpAny_Name (wpAny_loadName_local hk l1 hns hv (wpAny_Name (wpAny_loadName_local hk hself hns mself ?_) (by decide))) hdb) rfl)
    have X : K.In s.heap := fun b o z => k0 b o (K0 b o z)
    refine x_store XB XF X he hd hlo hw (by simp at hz; omega) hno fun h' tk d kk he' hn' hde hld hdx hnew hsz => ?_
    have nd : ∀ {b : Addr} {o : Obj}, b < lo → s.heap.get? b = some o → some b ≠ dx := fun {b o} hb ho z => by
      rcases hdx with q | q
      · rw [q] at z; cases z
      · rw [q] at z
        cases z
        exact absurd hld (Nat.not_le.mpr hb)
    have kL : h'.Ns env.locals mL := by
      obtain ⟨oL, es, ep, h1, h2⟩ := hns
      exact ⟨oL, es, ep, kk _ _ heL.symm (nd hLl h1) h1, h2⟩
    refine x_stores XB XF hk rfl hself mself K0 fxs (nl := f :: nl) (fun q hq' => hq q (List.mem_cons_of_mem _ hq')) (fun b o z => ?_) kL hlo0 (Nat.le_trans hlo hsz) hLl hel heL he' he0 ⟨hn', hde, hld⟩ (Within.cons f v hw) (by simp at hz ⊢; omega) ?_
    · refine kk b o (fun y => ?_) (nd (Nat.lt_of_lt_of_le (Heap.lt_size z) hlo0) (k0 b o z)) (k0 b o z)
      rw [y, he0] at z
      cases z
    · intro h2 tk2 t2 dx2 k2 e2 d2
      refine h h2 tk2 t2 dx2 k2 e2 ?_
      · have em : xFs mL ((f, x, p1, p2, p3, p4) :: fxs) m = xFs mL fxs fun y => if y = f then some v else m y := by
          show xFs mL fxs (fun y => if y = f then mL x else m y) = _
          rw [hv]
        rw [em]
        exact d2
/-- the def of such an __init__ -/
structure XInit (P : Program) (K : PySem.W.Frag) (C fI cc cda : Addr) (fxs : List (Str × Str × Pos × Pos × Pos × Pos)) (ps : List Str) : Prop where
  ex : ∃ (nm qual : Str) (params : Arguments) (scope : Scope) (dV kV doc pm ct oc : Value) (an od : Option Addr) (osl : Array (Option Value)) (p0 p1 p2 p3 p4 p5 : Pos) (txt : Str) (j : Nat) (a0 : Arg),
    K.lookup fI = some ⟨oc, od, .func (ksFn nm qual params (.Expr (.Call (.Attribute (.Call (.Name "super" p0) [] [] p1) "__init__" p2) [.Constant (.str txt) j p3] [] p4) p5 :: fxs.map xStmt) scope dV kV doc pm an (.ref cda) ct cc), osl⟩ ∧ codeIn K (.ref cda) qual = true ∧
    (params.posonlyargs ++ params.args).head? = some a0 ∧ a0.arg = "self" ∧
    (∀ us : List Value, us.length = ps.length → bindArgs (ksFn nm qual params (.Expr (.Call (.Attribute (.Call (.Name "super" p0) [] [] p1) "__init__" p2) [.Constant (.str txt) j p3] [] p4) p5 :: fxs.map xStmt) scope dV kV doc pm an (.ref cda) ct cc) ⟨us, []⟩ = pure (ps.zip us)) ∧
    scope.names.lookup ("super" : Str) = some .globalImplicit ∧ scope.names.lookup ("__class__" : Str) = some .free ∧ (∀ y ∈ scope.names, y.2 ≠ .cell) ∧ (∀ y ∈ ps, scope.names.lookup y = some .local) ∧ scope.kind = .function ∧ scope.isCoroutine = false ∧ scope.isGenerator = false ∧ (p2.endLine == p4.line) = true
  head : ∃ r, ps = ("self" : Str) :: r ∧ ∀ q ∈ fxs, q.2.1 ∈ r ∧ findIn K (.ref C) q.1 = some none ∧ (q.2.1 == ("__debug__" : Str)) = false
  nd : ps.Nodup
  few : fxs.length ≤ 900
  top : (P.main.scope.names.lookup ("super" : Str)).isSome = false
theorem zip_lookup {y : Str} : ∀ {ps : List Str} {us : List Value}, ps.Nodup → us.length = ps.length → y ∈ ps → ∃ v, (ps.zip us).reverse.lookup y = some v ∧ (ps.zip us).lookup y = some v
  | [], _, _, _, h => by cases h
  | p :: ps, [], _, hl, _ => by cases hl
  | p :: ps, u :: us, nd, hl, h => by
    obtain ⟨n1, n2⟩ := List.nodup_cons.mp nd
    have hr : ∀ (l : List (Str × Value)) (b : List (Str × Value)), (l ++ b).lookup y = (l.lookup y).or (b.lookup y) := fun l b => List.lookup_append
    rw [List.zip_cons_cons, List.reverse_cons, hr, List.lookup_cons]
    by_cases hy : y = p
    · subst hy
      refine ⟨u, ?_, by simp⟩
      have : (ps.zip us).reverse.lookup y = none := by
        rw [List.lookup_eq_none_iff]
        rintro ⟨a, b⟩ hm
        have := (List.of_mem_zip (List.mem_reverse.mp hm)).1
        simp only [bne_iff_ne, ne_eq, beq_eq_false_iff_ne] 
        intro z
        subst z
        exact n1 this
      rw [this]
      simp
    · obtain ⟨v, h1, h2⟩ := zip_lookup n2 (by simpa using hl) ((List.mem_cons.mp h).resolve_left hy)
      refine ⟨v, by rw [h1]; rfl, ?_⟩
      have e1 : (y == p) = false := by simpa using hy
      rw [List.lookup_cons, e1]
      exact h2
theorem x_make (XB : XBase B newId initId bmB) (XF : XFacts P K C fI cc cda B newId initId bmB) {fxs : List (Str × Str × Pos × Pos × Pos × Pos)} {ps : List Str} (XI : XInit P K C fI cc cda fxs ps) {s : Shared} {mg mb : Str → Option Value} {us : List Value} {Q : Value → Shared → Prop}
    (X : K.In s.heap) (G : s.heap.Ns mainGlobals mg) (hmg : mg "super" = none) (Bt : s.heap.Ns builtinsNs mb) (boot : mb "super" = some (.type "super")) (lim : s.heap.NoLimit) (room : (A.under (.builtin "type.__call__" ⟨.ref C :: us, []⟩)).depth < recursionLimit) (hus : us.length + 1 = ps.length) (hz : us.length ≤ sizeLine)
    (h : ∀ h' tk e t dx, (∀ b o, s.heap.get? b = some o → h'.get? b = some o) → s.heap.objs.size ≤ e → h'.get? e = some (xObj C t dx) → DOf h' dx e s.heap.objs.size (xFs (fun y => (ps.zip (Value.ref e :: us)).lookup y) fxs fun _ => none) → Q (.ref e) { s with heap := h', toks := tk }) :
    wpAny (model P w) A (call (.ref C) us) Q E s := by
  obtain ⟨nm, N', qn, bs, bm, hdct, sn, sub, ab, col, dd, k0, k1, k2, k3, k5, hC, hT⟩ := excInit_of X XF.q
  obtain ⟨nmI, qual, params, scope, dV, kV, doc, pm, ct, oc, an, od, osl, p0, p1, p2, p3, p4, p5, txt, j, a0, lk, hcd, hp, ha0, hbind, hks, hkc, hcell, hloc, hkind, hco, hgen, hline⟩ := XI.ex
  obtain ⟨rs, hps, hfx⟩ := XI.head
  obtain ⟨hp0, g, dr, tk0, os⟩ := s
  dsimp only at X G Bt lim hC h
  have hsz0 : hp0.objs.size ≤ hp0.objs.size + 1 := Nat.le_succ _
  have kk : ∀ b o, hp0.get? b = some o → ((hp0.push (kdv_tup us)).push (PySem.HandSPX.excO C hp0.objs.size)).get? b = some o := fun b o z => Heap.get?_push_of_some _ (Heap.get?_push_of_some _ z)
  have he1 : ((hp0.push (kdv_tup us)).push (PySem.HandSPX.excO C hp0.objs.size)).get? (hp0.objs.size + 1) = some (xObj C hp0.objs.size none) := by heap_get
  refine wpAny_call (PySem.HandSPX.call_own XB.FB hT hC (looks_findIn X XF.ini) (fun self => bind_fn X self (beq_iff_eq.mp XF.fn)) hz ?_)
  obtain ⟨ccl, cdd, vs, ccs, file, tf, lc, hvs, hfile⟩ := XF.code
  obtain ⟨cl, cld, csl, lcell⟩ := XF.cell
  obtain ⟨cd, hcd2, hh⟩ := any_some XF.hd
  have X1 : K.In ((hp0.push (kdv_tup us)).push (PySem.HandSPX.excO C hp0.objs.size)) := fun b o z => kk b o (X b o z)
  have lim1 : ((hp0.push (kdv_tup us)).push (PySem.HandSPX.excO C hp0.objs.size)).NoLimit := lim.keeps kk
  have hloc' : ∀ y ∈ ps.zip (Value.ref (hp0.objs.size + 1) :: us), scope.names.lookup y.1 = some .local := fun y hy => hloc _ (List.of_mem_zip (a := y.1) (b := y.2) hy).1
  have hlen : (Value.ref (hp0.objs.size + 1) :: us).length = ps.length := hus
  refine ks_codeAny_call_defAt (binds := ps.zip (Value.ref (hp0.objs.size + 1) :: us)) room (X1 _ _ lk) rfl lim1 (codeRec_of X1 hcd) rfl (.of_eq (hbind _ hlen)) hcell hloc' (fun h1 hns hk1 => ?_) hco hgen hkind
  have hL : (⟨(hp0.push (kdv_tup us)).push (PySem.HandSPX.excO C hp0.objs.size), g, dr, tk0, os⟩ : Shared).heap.objs.size = hp0.objs.size + 2 := by
    show ((hp0.push (kdv_tup us)).push (PySem.HandSPX.excO C hp0.objs.size)).objs.size = _
    rw [Heap.size_push, Heap.size_push]
  rw [hL] at hns ⊢
  have k1' : ∀ b o, hp0.get? b = some o → h1.get? b = some o := fun b o z => hk1 b o (kk b o z)
  have X2 : K.In h1 := fun b o z => k1' b o (X b o z)
  have he2 : h1.get? (hp0.objs.size + 1) = some (xObj C hp0.objs.size none) := hk1 _ _ he1
  have hsz1 : hp0.objs.size + 2 < h1.objs.size := by
    obtain ⟨oL, _, _, z, _⟩ := hns
    exact Heap.lt_size z
  obtain ⟨vself, s1, s2⟩ := zip_lookup (y := ("self" : Str)) XI.nd hlen (by rw [hps]; exact List.mem_cons_self)
  have vs_eq : vself = .ref (hp0.objs.size + 1) := by
    rw [hps] at s2
    simpa using s2.symm
  subst vs_eq
  have oC : h1.get? C = some (excClassObj nm qn C N' bs bm hdct sn sub ab col dd k0 k1 k2 k3 k5 newId) := k1' _ _ hC
  have hself : scope.names.lookup ("self" : Str) = some .local := hloc _ (by rw [hps]; exact List.mem_cons_self)
  -- super().__init__(text)
  have hie : interactive (callEnv (ksFn nmI qual params (.Expr (.Call (.Attribute (.Call (.Name "super" p0) [] [] p1) "__init__" p2) [.Constant (.str txt) j p3] [] p4) p5 :: fxs.map xStmt) scope dV kV doc pm an (.ref cda) ct cc) (hp0.objs.size + 2) fI) = false := by
    show (scope.kind == .module && _) = false
    rw [hkind]
    rfl
  refine ks_wpAt_execs_cons (ks_wpAt_Expr_any (ks_wpAt_MethodCall (pl := L2.plainOf (.Call (.Name "super" p0) [] [] p1) (callEnv (ksFn nmI qual params (.Expr (.Call (.Attribute (.Call (.Name "super" p0) [] [] p1) "__init__" p2) [.Constant (.str txt) j p3] [] p4) p5 :: fxs.map xStmt) scope dV kV doc pm an (.ref cda) ct cc) (hp0.objs.size + 2) fI)) ?_ ?_) hie rfl)
  · refine ks_wpAt_super_base hks hkc (by decide) rfl (X2 _ _ lk) rfl hp rfl (X2 _ _ lc) rfl hvs hfile XI.top ?_
    have Ns1 : ∀ {b : Addr} {m : Str → Option Value}, hp0.Ns b m → h1.Ns b m := fun {b m} ⟨o, es, ep, z, r⟩ => ⟨o, es, ep, k1' _ _ z, r⟩
    refine ks_loadName_global hkind hks (Calls.loadGlobal_builtin (Ns1 G) hmg (Ns1 Bt) boot ⟨rfl, ?_⟩)
    refine wpAny_loadName_free hkind hkc rfl ⟨_, X2 _ _ lcell, rfl⟩ ?_
    refine wpAny_loadName_local hkind (by rw [ha0]; exact hself) hns (by rw [ha0]; exact s1) ?_
    refine ks_wpAny_isType_cls oC rfl ⟨rfl, ?_⟩
    refine ks_wpAny_call_super oC rfl he2 rfl (fun c z => by cases z) (looks_mroIn X2 XF.self) fun h2 hso kb => ?_
    have X3 : K.In h2 := fun b o z => kb b o (X2 b o z)
    have I3 : InstAt h2 (hp0.objs.size + 1) (xObj C hp0.objs.size none) C none := ⟨kb _ _ he2, rfl, rfl, trivial⟩
    have hal : alongIn K ("__init__" : Str) ((cd.mro.dropWhile (· != .ref C)).drop 1) = some (some (.builtin initId)) := by
      have := XF.sup
      unfold ks_superIn at this
      rw [hcd2] at this
      exact this
    refine kxs_getMethod XB.KF hso (looks_opaque X3 XF.opq) (l₀ := cd.mro) (fun A Q E s k q => wpAny_bind ((looks_clsIn X3 hcd2) A _ E s k (wpAny_pure q))) rfl X3 hal (I3.type.andThen (looks_subIn X3 XF.subB)) (ks_ne X3 I3 hcd2) (by decide) ?_
    refine kxs_callWith (i := initId) (x := hp0.objs.size + 1) (by rfl) (Calls.evalArgs_plain (Calls.spliced_cons (wpAny_Constant_str (k := j) (pos := p3) (Calls.spliced_nil ⟨Heap.get?_push_size h2 rfl, ?_⟩))))
    have he3 : (h2.push (kxs_mw initId (hp0.objs.size + 1))).get? (hp0.objs.size + 1) = some (xObj C hp0.objs.size none) := Heap.get?_push_of_some _ (kb _ _ he2)
    have oC3 : (h2.push (kxs_mw initId (hp0.objs.size + 1))).get? C = some (excClassObj nm qn C N' bs bm hdct sn sub ab col dd k0 k1 k2 k3 k5 newId) := Heap.get?_push_of_some _ (kb _ _ oC)
    refine wpAny_call (codeAny_of_tree ?_)
    show wpAny _ _ (callAny (.ref h2.objs.size) _) _ _ _
    simp only [callAny]
    refine wpAny_bind (wpAny_load (Heap.get?_push_size h2 rfl) ?_)
    simp only [kxs_mw, show (Value.type "method-wrapper" == Value.type "method" || Value.type "method-wrapper" == Value.type "builtin_function_or_method" || Value.type "method-wrapper" == Value.type "method-wrapper") = true by decide, if_true]
    refine KFB.if_so (by decide) (wpAny_bind (check_bound_init XB.FB.toExcCallFacts oC3 he3 rfl ?_))
    refine wpAny_bind (wpAny_pure (wpAny_pure ⟨plainId_quiet XB.FB.init.plain _, codeAny_builtin XB.FB.initEntry ?_⟩))
    refine exc_init_tree (cls := .ref C) (t0 := hp0.objs.size) (dv := none) (c2 := .none) (c3 := .none) (b4 := .bool false) he3 (by show 1 ≤ sizeLine; rw [sizeLine_eq]; omega) fun h3 k3 he4 _ => ?_
    refine wpAt_of_wpAny ?_
    have k13 : ∀ b o, hp0.get? b = some o → h3.get? b = some o := fun b o z => by
      refine k3 b o ?_ (Heap.get?_push_of_some _ (kb _ _ (k1' _ _ z)))
      have := Heap.lt_size z
      exact Nat.ne_of_lt (Nat.lt_succ_of_lt this)
    have nsL : h3.Ns (hp0.objs.size + 2) fun y => (ps.zip (Value.ref (hp0.objs.size + 1) :: us)).reverse.lookup y := by
      obtain ⟨oL, es, ep, z, r⟩ := hns
      exact ⟨oL, es, ep, k3 _ _ (Nat.ne_of_gt (Nat.lt_succ_self _)) (Heap.get?_push_of_some _ (kb _ _ z)), r⟩
    have hz3 : hp0.objs.size + 2 < h3.objs.size := by
      obtain ⟨oL, _, _, z, _⟩ := nsL
      exact Heap.lt_size z
    have en : hp0.get? (hp0.objs.size + 1) = none := by
      cases z : hp0.get? (hp0.objs.size + 1) with
      | none => rfl
      | some o =>
        have := Heap.lt_size z
        exact absurd this (Nat.not_lt.mpr (Nat.le_succ _))
    refine x_stores XB XF (env := callEnv (ksFn nmI qual params (.Expr (.Call (.Attribute (.Call (.Name "super" p0) [] [] p1) "__init__" p2) [.Constant (.str txt) j p3] [] p4) p5 :: fxs.map xStmt) scope dV kV doc pm an (.ref cda) ct cc) (hp0.objs.size + 2) fI) (lo := h3.objs.size) hkind rfl hself s1 X fxs (m := fun _ => none) (nl := []) (dx := none) (fun q hq => ?_) k13 nsL (Nat.le_of_lt (Nat.lt_of_le_of_lt (Nat.le_add_right _ 2) hz3)) (Nat.le_refl _) hz3 (Nat.lt_trans (Nat.lt_succ_self _) hz3) (Nat.ne_of_lt (Nat.lt_succ_self _)) he4 en (fun _ => rfl) Within.nil (by have := XI.few; simp; omega) fun h' tk t' dx' k5 e5 d5 => ?_
    · obtain ⟨q1, q2, q3⟩ := hfx q hq
      obtain ⟨v, hv, _⟩ := zip_lookup (y := q.2.1) XI.nd hlen (by rw [hps]; exact List.mem_cons_of_mem _ q1)
      exact ⟨hloc _ (by rw [hps]; exact List.mem_cons_of_mem _ q1), ⟨v, hv⟩, q2, q3⟩
    · refine ⟨rfl, h h' tk (hp0.objs.size + 1) t' dx' k5 hsz0 e5 ?_⟩
      have em : xFs (fun y => (ps.zip (Value.ref (hp0.objs.size + 1) :: us)).reverse.lookup y) fxs (fun _ => none) = xFs (fun y => (ps.zip (Value.ref (hp0.objs.size + 1) :: us)).lookup y) fxs fun _ => none := by
        have gen : ∀ (l : List (Str × Str × Pos × Pos × Pos × Pos)) (a : Str → Option Value), (∀ q ∈ l, q.2.1 ∈ ps) → xFs (fun y => (ps.zip (Value.ref (hp0.objs.size + 1) :: us)).reverse.lookup y) l a = xFs (fun y => (ps.zip (Value.ref (hp0.objs.size + 1) :: us)).lookup y) l a := by
          intro l
          induction l with
          | nil => intro a _; rfl
          | cons q l ih =>
            intro a hl
            obtain ⟨v, v1, v2⟩ := zip_lookup (y := q.2.1) XI.nd hlen (hl q List.mem_cons_self)
            show xFs _ l (fun y => if y = q.1 then _ else a y) = xFs _ l (fun y => if y = q.1 then _ else a y)
            dsimp only
            rw [v1, v2]
            exact ih _ fun z hz => hl z (List.mem_cons_of_mem _ hz)
        exact gen fxs _ fun q hq => by rw [hps]; exact List.mem_cons_of_mem _ (hfx q hq).1
      rw [← em]
      cases dx' with
      | none => exact d5
      | some d => exact ⟨d5.1, d5.2.1, Nat.le_trans (Nat.le_of_lt (Nat.lt_of_le_of_lt (Nat.le_add_right _ 2) hz3)) d5.2.2⟩
  · rw [arm_eval_Call]
    exact congrArg _ (funext fun ov => congrArg _ (funext fun _ => L2.mcall_line (by rfl) hline))
end
end EL
namespace EL
open PySem PySem.Spec PyProof.Rows L2 PySem.W

/-! ### raise C(e, ..) -/
/-- the fields by the arguments -/
def fsOf {α : Type} (z : α) (fi : List (Str × Nat)) (xs : List α) : List (Str × α) := fi.map fun p => (p.1, xs.getD p.2 z)
theorem zip_ix {y : Str} : ∀ {r : List Str} {us : List Value}, us.length = r.length → y ∈ r → (r.zip us).lookup y = some (us.getD (r.idxOf y) .none)
  | [], _, _, h => by cases h
  | p :: ps, [], hl, _ => by cases hl
  | p :: ps, u :: us, hl, h => by
    rw [List.zip_cons_cons, List.lookup_cons, List.idxOf_cons]
    by_cases hy : y = p
    · subst hy
      simp
    · have e1 : (y == p) = false := by simpa using hy
      have e2 : (p == y) = false := by simpa using (Ne.symm hy)
      rw [e1, e2]
      have := zip_ix (y := y) (r := ps) (us := us) (by simpa using hl) ((List.mem_cons.mp h).resolve_left hy)
      simpa using this
theorem look_cons {α : Type} {f g : Str} {y : α} {fs : List (Str × α)} : ((f, y) :: fs).lookup g = if g = f then some y else fs.lookup g := by
  rw [List.lookup_cons]
  by_cases h : g = f
  · subst h; simp
  · have e : (g == f) = false := by simpa using h
    rw [e, if_neg h]
/-- which field comes from where -/
def fiOf (r : List Str) (fxs : List (Str × Str × Pos × Pos × Pos × Pos)) : List (Str × Nat) := (fxs.map fun q => (q.1, r.idxOf q.2.1)).reverse
theorem fsOf_look {r : List Str} {us : List Value} {e : Value} {y : Str} (hl : us.length = r.length) (hself : ("self" : Str) ∉ r) : ∀ (fxs : List (Str × Str × Pos × Pos × Pos × Pos)) (acc : List (Str × Value)) (a : Str → Option Value), (∀ q ∈ fxs, q.2.1 ∈ r) → (∀ y, acc.lookup y = a y) →
    (fsOf Value.none (fiOf r fxs) us ++ acc).lookup y = xFs (fun y => ((("self" : Str) :: r).zip (e :: us)).lookup y) fxs a y
  | [], acc, a, _, h => h y
  | q :: fxs, acc, a, hq, h => by
    have hx : q.2.1 ∈ r := hq q List.mem_cons_self
    have hv : ((("self" : Str) :: r).zip (e :: us)).lookup q.2.1 = some (us.getD (r.idxOf q.2.1) .none) := by
      rw [List.zip_cons_cons, List.lookup_cons]
      have : (q.2.1 == ("self" : Str)) = false := by
        rw [beq_eq_false_iff_ne]
        intro z
        exact hself (z ▸ hx)
      rw [this]
      exact zip_ix hl hx
    have ih := fsOf_look (e := e) (y := y) hl hself fxs ((q.1, us.getD (r.idxOf q.2.1) .none) :: acc) (fun y => if y = q.1 then ((("self" : Str) :: r).zip (e :: us)).lookup q.2.1 else a y) (fun z hz => hq z (List.mem_cons_of_mem _ hz)) fun z => by
      rw [look_cons, hv, h z]
    show _ = xFs _ fxs _ y
    rw [← ih]
    unfold fsOf fiOf
    simp
theorem fsOf_rel {vs : List V} {us : List Value} (r : Vals vs us) (f : Str) : ∀ fi : List (Str × Nat), RelO ((fsOf V.non fi vs).lookup f) ((fsOf Value.none fi us).lookup f)
  | [] => trivial
  | p :: fi => by
    show RelO (((p.1, vs.getD p.2 .non) :: fsOf V.non fi vs).lookup f) (((p.1, us.getD p.2 .none) :: fsOf Value.none fi us).lookup f)
    rw [List.lookup_cons, List.lookup_cons]
    cases f == p.1 with
    | true => exact Vals.getD' p.2 r
    | false => exact fsOf_rel r f fi
/-- a class of exceptions, all that is asked of it -/
structure Xcl (P : Program) (K : PySem.W.Frag) (C : Addr) (n : Nat) (fi : List (Str × Nat)) : Prop where
  ex : ∃ (B newId initId : String) (bmB : List Value) (fI cc cda : Addr) (fxs : List (Str × Str × Pos × Pos × Pos × Pos)) (r : List Str), XBase B newId initId bmB ∧ XFacts P K C fI cc cda B newId initId bmB ∧ XInit P K C fI cc cda fxs (("self" : Str) :: r) ∧ r.length = n ∧ n ≤ 900 ∧ fi = fiOf r fxs ∧ fi ≠ []
section
variable {g : Glob} {F : Ent} {W : WX} {X : Cx} {a b c e o : Expr} {es : List Expr} {pos : Pos}
theorem pmk_x {C : Addr} {n k : Nat} {fi : List (Str × Nat)} {x : Str} {p : Pos} {t : TA} (T : Xcl X.prog X.K C n fi) (hr : Room (k + 1) X.A) (hg : Gl X x) (hm : X.mg x = some (.ref C)) (hms : X.mg "super" = none) (ha : PA X (e :: es) t)
    (hdb : (x == ("__debug__" : Str)) = false) (hst : ∀ x p, e ≠ .Starred x p) (hpl : (backTo pos (starEach es X.env)).any (·.1) = false) :
    PMk X (.Call (.Name x p) (e :: es) [] pos) (fun σ H Q => t σ H fun vs H1 => vs.length = n ∧ ∀ dx, H1 dx = none → Q (.ref C) (some dx) (L2.upd H1 dx (.xd (fsOf V.non fi vs)))) := by
  obtain ⟨B, newId, initId, bmB, fI, cc, cda, fxs, r, XB, XF, XI, hrn, hn9, hfi, hne⟩ := T.ex
  intro pins s σ H Q I h
  refine wpAny_Call_Name_kw (ld_glob I hg hm ?_ hdb)
  refine PySem.W.callWith_K (h₀ := X.base) I.ok.mod.kin XF.kp (thn (ha.run pos pins s σ H _ I h) fun us s1 ⟨vs, H1, I1, rv, hl, q⟩ => ⟨I1.kIn, ?_⟩) (starEach_cons hst) hpl
  show wpAny _ _ (call (.ref C) us) _ _ s1
  obtain ⟨mb, nb, hmb⟩ := I1.mod.blt
  have hul : us.length = n := rv.length.symm.trans hl
  refine x_make XB XF XI I1.kIn (I1.mod.glob.keeps I1.bk) hms (nb.keeps I1.bk) ((hmb _ (by decide)).trans rfl) (I1.mod.nolimit.keeps I1.bk) (hr.make C us []).depth (by rw [List.length_cons, hul, hrn]) (by rw [hul, sizeLine_eq]; omega) fun h' tk a t0 dx k' ha' e' d' => ?_
  have hnd := XI.nd
  rw [List.nodup_cons] at hnd
  have em : xFs (fun y => ((("self" : Str) :: r).zip (Value.ref a :: us)).lookup y) fxs (fun _ => none) = fun y => (fsOf Value.none fi us).lookup y := by
    funext y
    rw [← fsOf_look (e := .ref a) (y := y) (hul.trans hrn.symm) hnd.1 fxs [] (fun _ => none) (fun q hq => by
      obtain ⟨r', e1, e2⟩ := XI.head
      cases (List.cons.inj e1).2
      exact (e2 q hq).1) fun _ => rfl, hfi, List.append_nil]
  rw [em] at d'
  cases dx with
  | none =>
    exfalso
    obtain ⟨z, fi', rfl⟩ := List.exists_cons_of_ne_nil hne
    have := d' z.1
    simp [fsOf] at this
  | some dx =>
    obtain ⟨hns, hda, hlo⟩ := d'
    obtain ⟨hp, g1, d1, t1, os1⟩ := s1
    dsimp only at k' ha' hlo
    obtain ⟨G, g1', g2'⟩ := restrict h' fun b => decide (b ≠ a)
    have gk : ∀ b, b ≠ a → G.get? b = h'.get? b := fun b hb => g1' b (decide_eq_true hb)
    have ge : G.get? a = none := g2' a (by simp)
    have nha : ∀ {b : Addr} {o : Obj}, hp.get? b = some o → b ≠ a := fun {b o} z => Nat.ne_of_lt (Nat.lt_of_lt_of_le (Heap.lt_size z) ha')
    have J : L2.Inv X pins σ (L2.upd H1 dx (.xd (fsOf V.non fi vs))) ⟨G, g1, d1, tk, os1⟩ := I1.laid (t' := tk) (a := dx) (o := .xd (fsOf V.non fi vs)) (h' := G) (fun b u z => (gk b (nha z)).trans (k' b u z)) hlo ⟨_, hns.at fun o y => (gk dx hda).trans y, fun f => fsOf_rel rv f fi⟩
    have H1a : H1 a = none := I1.hok.fresh ha'
    refine ⟨a, _, _, ⟨G, g1, d1, tk, os1⟩, _, .ref C, some dx, rfl, J, fun b o z => ?_, ge, e', ⟨rfl, rfl⟩, rfl, rfl, by rw [upd_ne (Ne.symm hda)]; exact H1a, rfl, I1.bare, raises_own XF.exC XF.tyC, q dx (I1.hok.fresh hlo)⟩
    by_cases hba : b = a
    · rw [hba, ge] at z
      cases z
    · exact (gk b hba).symm.trans z
def mRaise (k : Nat) (fi : List (Str × Nat)) (mp : M (List D)) : M Fl := mp.bind fun ds env cs => .exc k (fsOf D.non fi ds) env cs
theorem fsOf_rp {S : Hp} {mu : List Addr} {vs : List V} {ds : List D} (r : RpL g S mu vs ds) : ∀ fi : List (Str × Nat), RpF g S mu (fsOf V.non fi vs) (fsOf D.non fi ds)
  | [] => .nil
  | p :: fi => .cons (r.getD p.2) (fsOf_rp r fi)
theorem wRaise {c n k : Nat} {fi : List (Str × Nat)} {x : Str} {p p2 : Pos} {mp : M (List D)} (T : Xcl X.prog X.K (g.ca c) n fi) (hr : Room k X.A) (hm : X.mg x = some (.ref (g.ca c))) (hms : X.mg "super" = none) (tk : Takes X W) (ha : PA X (e :: es) (rdA g F W mp)) (hp : Many n mp)
    (hg : Gl X x := by rfl) (hdb : (x == ("__debug__" : Str)) = false := by decide) (hst : ∀ x p, e ≠ .Starred x p := by intros; intro h; cases h) (hpl : (backTo pos (starEach es X.env)).any (·.1) = false := by rfl) (hc : X.calm = true := by rfl) (hk : k = k - 1 + 1 := by rfl) :
    PS X (.Raise (some (.Call (.Name x p) (e :: es) [] pos)) none p2) (rdS g F W (mRaise c fi mp)) :=
  PS.imp (ps_raise hc tk (pmk_x (k := k - 1) T (hk ▸ hr) hg hm hms ha hdb hst hpl)) fun E σ H ⟨S, mu, env, cs, r, q⟩ => by
    unfold mRaise at q
    rw [PoS.bind] at q
    refine ⟨S, mu, env, cs, r, ?_⟩
    cases e1 : mp env cs with
    | stuck => rw [e1] at q; exact q
    | exc k fs e c => rw [e1] at q; exact q σ
    | ok ds env1 cs1 =>
      rw [e1] at q
      intro vs H1 S1 mu1 gr r1 t
      refine ⟨by rw [t.length]; exact hp _ _ _ _ _ e1, fun dx hd => ?_⟩
      have q : ExS g F W c (fsOf D.non fi ds) env1 cs1 := q
      have up : Up H1 S1 (L2.upd H1 dx (.xd (fsOf V.non fi vs))) S1 := Up.new hd (r1.hs.sNone hd)
      exact q σ dx _ S1 mu1 (up.rel r1) ⟨_, upd_same, fsOf_rp t fi⟩ (r1.newX hd)
end
end EL
namespace EL
open PySem PySem.Spec PyProof.Rows L2

/-! ### try: several clauses, some with a name; clauses that are never reached -/
abbrev HdT := Value × Option Nat × (Addr → Value → Option Addr → TS)
/-- the slot i loses its value behind the suite -/
def unEnds (D : Ends) (i : Nat) : Ends := { nx := fun σ' H' => D.nx (σ'.set i none) H', rt := D.rt, bk := fun σ' H' => D.bk (σ'.set i none) H', ct := fun σ' H' => D.ct (σ'.set i none) H' }
def wHd (K : PySem.W.Frag) (Wout : WX) (D : Ends) : List HdT → Bool → WX
  | [], true => Wout
  | [], false => fun _ _ _ _ => False
  | (c, oi, ts) :: r, fin => fun cls d σ H => ∃ b, PySem.W.exmOne K cls c = some b ∧ (b = true → ∀ a, H a = none → match oi with
      | none => ts a cls d D σ H
      | some i => ts a cls d (unEnds D i) (σ.set i (some (.ref a))) H) ∧ (b = false → wHd K Wout D r fin cls d σ H)
inductive HdL (X : Cx) : List ExceptHandler → List HdT → Bool → Prop
  | nil : HdL X [] [] true
  | any {hs : List ExceptHandler} : HdL X hs [] false
  | plain {x : Str} {c : Value} {ts : Addr → Value → Option Addr → TS} {b₀ : Stmt} {su : List Stmt} {np hp : Pos} {hs : List ExceptHandler} {l : List HdT} {fin : Bool} (hc : Names X x c)
      (hsu : ∀ (a : Addr) (oe : Obj) (cls : Value) (d : Option Addr) (pn : List (Addr × Obj)), Zc cls d oe → (∃ vs, oe.data = .fields vs) → PSs (X.suite a ((a, oe) :: pn)) (b₀ :: su) (ts a cls d)) (r : HdL X hs l fin) :
      HdL X (.ExceptHandler (some (.Name x np)) none (b₀ :: su) hp :: hs) ((c, none, ts) :: l) fin
  | named {x n : Str} {i : Nat} {c : Value} {ts : Addr → Value → Option Addr → TS} {b₀ : Stmt} {su : List Stmt} {np hp : Pos} {hs : List ExceptHandler} {l : List HdT} {fin : Bool} (hc : Names X x c) (hi : X.N[i]? = some n) (hln : X.env.kindOf n = some .local)
      (hsu : ∀ (a : Addr) (oe : Obj) (cls : Value) (d : Option Addr) (pn : List (Addr × Obj)), Zc cls d oe → (∃ vs, oe.data = .fields vs) → PSs (X.suite a ((a, oe) :: pn)) (b₀ :: su) (ts a cls d)) (r : HdL X hs l fin) :
      HdL X (.ExceptHandler (some (.Name x np)) (some n) (b₀ :: su) hp :: hs) ((c, some i, ts) :: l) fin
theorem ps_tryL {X : Cx} {body : List Stmt} {h₀ : ExceptHandler} {hds : List ExceptHandler} {l : List HdT} {fin : Bool} {pos : Pos} {tb : WX → TS} {Wout : WX} (hs : X.stack = X.env :: X.outer) (hf : X.env.frame = some X.env.locals) (hN : X.N.Nodup) (tk : Takes X Wout)
    (hb : ∀ (W : WX) (pn : List (Addr × Obj)) (xe : Value → Shared → Prop), Takes (X.tr pn xe) W → PassesOwn (model X.prog X.w) X.A X.env xe → PSs (X.tr pn xe) body (tb W)) (hh : HdL X (h₀ :: hds) l fin) :
    PS X (.Try body (h₀ :: hds) [] [] pos) (fun D σ H => tb (wHd X.K Wout D l fin) D σ H) := by
  refine ⟨fun pins s σ H D I0 hq0 => wpAny_Try_except ?_⟩
  have okX := I0.ok
  have hframes : X.A.frames = some (X.env :: X.outer) := by rw [okX.frames, hs]
  have core := (hb (wHd X.K Wout D l fin) (X.pn ++ pins) (fun e s₁ => wpAny (model X.prog X.w) X.A (noteFrame e X.env) (fun _ s₂ => wpAny (model X.prog X.w) X.A (setFlight e none) (fun _ s₃ => wpAny (model X.prog X.w) X.A (handleBy e X.env (h₀ :: hds)) (SP X pins D) X.xe s₃) X.xe s₂) X.xe s₁)
    (fun u s' xx => ?_) PassesOwn.looking).run [] s σ H D (I0.toTry _) hq0
  · refine wpAny_mono core (fun f s1 z => ?_) fun _ _ z => z
    cases f with
    | next => obtain ⟨σ1, H1, I1, q⟩ := z; exact wpAny_execs_nil ⟨σ1, H1, I1.ofTry okX, q⟩
    | brk => obtain ⟨σ1, H1, I1, q⟩ := z; exact ⟨σ1, H1, I1.ofTry okX, q⟩
    | cont => obtain ⟨σ1, H1, I1, q⟩ := z; exact ⟨σ1, H1, I1.ofTry okX, q⟩
    | ret u => obtain ⟨v, σ1, H1, I1, rv, q⟩ := z; exact ⟨v, σ1, H1, I1.ofTry okX, rv, q⟩
  · obtain ⟨a, B, sI, pins', σ', H', cls, d, rfl, It, nb, up, sky, na, os, ag, wish⟩ := xx
    have Ib : L2.Inv X pins σ' H' sI := It.ofTry okX
    rw [hs] at sky
    show wpAny (model X.prog X.w) X.A (noteFrame (.ref a) X.env) _ _ _
    refine Sky.land Zc.steady hframes hf sky fun h3 fl3 up3 => ?_
    have I3 : L2.Inv X pins σ' H' { s' with heap := h3 } := Ib.landed nb fl3.1 (up.trans up3) os ag
    obtain ⟨oe3, vs3, q3, z3, d3⟩ := fl3.there
    have offF : a ∉ frs (X.env :: X.outer) := fun hm => by
      obtain ⟨_, o', e', hnf⟩ := fl3.2.2.1.mem hm
      rw [q3] at e'
      cases e'
      exact hnf _ d3
    have nLoc : a ≠ X.env.locals := fun z => offF (List.mem_filterMap.mpr ⟨X.env, List.mem_cons_self, by rw [hf, z]⟩)
    have nFs : a ∉ X.fs := fun hm => by
      obtain ⟨e, he, q⟩ := List.mem_filterMap.mp hm
      exact offF (List.mem_filterMap.mpr ⟨e, List.mem_cons_of_mem _ he, q⟩)
    have I3s := I3.suite q3 d3 na nLoc nFs
    have LT : PySem.W.Looks (model X.prog X.w) h3 (typeOf (.ref a)) cls := fun A Q E s k q => wpAny_typeOf_ref (k _ _ q3) (by rw [z3.1]; exact q)
    have named : ∀ {x : Str} {np : Pos} {c : Value} {Q : Value → Shared → Prop} {E : Value → Shared → Prop}, Names X x c → Q c { s' with heap := h3 } → wpAny (model X.prog X.w) (X.A.mark (some (.ref a))) (eval (.Name x np) X.env) Q E { s' with heap := h3 } := fun {x np c Q E} hc q => by
      obtain ⟨hg, hdbg, hm | ⟨hm, hv, hnn⟩⟩ := hc
      · exact ld_glob (X := X.suite a ((a, oe3) :: (X.pn ++ pins))) I3s hg hm q hdbg
      · exact ld_blt (X := X.suite a ((a, oe3) :: (X.pn ++ pins))) I3s hg hm hv q hnn hdbg
    suffices go : ∀ {hs2 : List ExceptHandler} {l2 : List HdT} {fin2 : Bool}, HdL X hs2 l2 fin2 → wHd X.K Wout D l2 fin2 cls d σ' H' → wpAny (model X.prog X.w) X.A (handleBy (.ref a) X.env hs2) (SP X pins D) X.xe { s' with heap := h3 } from go hh wish
    intro hs2 l2 fin2 hk
    induction hk with
    | any => exact fun w => False.elim w
    | nil =>
      intro w
      refine wpAny_handleBy_nil ?_
      obtain ⟨_, _, _, oe, vs, T, oT, ts', e1, _, e2, e3, _⟩ := id fl3
      unfold PySem.passOn
      refine wpAny_bind (wpAny_field e1 e2 e3 ?_)
      rw [if_neg (show ¬ ((Value.ref T == Value.none) = true) by simp)]
      have last : wpAny (model X.prog X.w) X.A (setFlight (.ref a) X.env.frame) (fun _ s4 => wpAny (model X.prog X.w) X.A (throw (.ref a) : Sem Flow) (SP X pins D) X.xe s4) X.xe { s' with heap := h3 } := by
        rw [hf]
        exact HandSPX.setFlight_upZ fl3 fun h4 hh4 up4 => wpAny_throw (tk _ _ ⟨a, B, sI, pins, σ', H', cls, d, rfl, Ib, nb, (up.trans up3).trans up4, .inr (.inr (by rw [hs]; exact hh4)), na, os, ag, w⟩)
      first
        | exact wpAny_bind (wpAny_pure (wpAny_bind last))
        | exact wpAny_bind last
    | @plain x c ts b₀ su np hp hs3 l3 fin3 hc hsu r ih =>
      intro w
      obtain ⟨b, hb1, hyes, hno⟩ := w
      refine wpAny_handleBy_cons (codeAny_handlers_test ?_) (by intro q; cases q)
      refine named hc ((PySem.W.exm_one (M := model X.prog X.w) I3.kIn LT hb1).here ?_)
      cases b with
      | false =>
        show wpAny _ X.A (handleBy (.ref a) X.env hs3) _ _ _
        exact ih (hno rfl)
      | true =>
        refine codeAny_handlers_suite (HandSPX.lands_againZ fl3 fun h4 fl4 up4 => ?_)
        have I4 : L2.Inv X pins σ' H' { s' with heap := h4 } := Ib.landed nb fl4.1 ((up.trans up3).trans up4) os ag
        obtain ⟨oe4, vs4, q4, z4, d4⟩ := fl4.there
        refine wpAny_mono ((hsu a oe4 cls d (X.pn ++ pins) z4 ⟨_, d4⟩).run [] _ _ H' _ (I4.suite q4 d4 na nLoc nFs) (hyes rfl a na)) (fun f s6 z => ?_) (fun _ _ z => False.elim z)
        cases f with
        | next => obtain ⟨σ6, H6, I6, q⟩ := z; exact ⟨_, _, I6.unsuite okX, q⟩
        | brk => obtain ⟨σ6, H6, I6, q⟩ := z; exact ⟨_, _, I6.unsuite okX, q⟩
        | cont => obtain ⟨σ6, H6, I6, q⟩ := z; exact ⟨_, _, I6.unsuite okX, q⟩
        | ret u => obtain ⟨v6, σ6, H6, I6, r6, q⟩ := z; exact ⟨_, _, _, I6.unsuite okX, r6, q⟩
    | @named x n i c ts b₀ su np hp hs3 l3 fin3 hc hi hln hsu r ih =>
      intro w
      obtain ⟨b, hb1, hyes, hno⟩ := w
      refine wpAny_handleBy_cons (codeAny_handlers_test ?_) (by intro q; cases q)
      refine named hc ((PySem.W.exm_one (M := model X.prog X.w) I3.kIn LT hb1).here ?_)
      cases b with
      | false =>
        show wpAny _ X.A (handleBy (.ref a) X.env hs3) _ _ _
        exact ih (hno rfl)
      | true =>
        refine codeAny_handlers_suite_as (HandSPX.lands_againZ fl3 fun h4 fl4 up4 => ?_)
        have I4 : L2.Inv X pins σ' H' { s' with heap := h4 } := Ib.landed nb fl4.1 ((up.trans up3).trans up4) os ag
        obtain ⟨oe4, vs4, q4, z4, d4⟩ := fl4.there
        refine store_ok (X := X.suite a ((a, oe4) :: (X.pn ++ pins))) (v := .ref a) (I4.suite q4 d4 na nLoc nFs) hN hi (.inl hln) rfl (fun s5 I5 => ?_) (.inr hln)
        refine wpAny_mono ((hsu a oe4 cls d (X.pn ++ pins) z4 ⟨_, d4⟩).run [] s5 _ H' _ I5 (hyes rfl a na)) (fun f s6 z => ?_) (fun _ _ z => False.elim z)
        have gone : ∀ {σ6 : SS} {H6 : Hp} {Q : Shared → Prop}, L2.Inv (X.suite a ((a, oe4) :: (X.pn ++ pins))) [] σ6 H6 s6 → (∀ s7, L2.Inv X pins (σ6.set i none) H6 s7 → Q s7) →
            wpAny (model X.prog X.w) X.A (do bindName X.env n .none; unbindBehindTheSuite X.env n hp) (fun _ s7 => Q s7) X.xe s6 := fun {σ6 H6 Q} I6 hq => gone_ok (I6.unsuite okX) hN hi hln hq
        cases f with
        | next => obtain ⟨σ6, H6, I6, q⟩ := z; exact gone I6 fun s7 I7 => ⟨_, _, I7, q⟩
        | brk => obtain ⟨σ6, H6, I6, q⟩ := z; exact gone I6 fun s7 I7 => ⟨_, _, I7, q⟩
        | cont => obtain ⟨σ6, H6, I6, q⟩ := z; exact gone I6 fun s7 I7 => ⟨_, _, I7, q⟩
        | ret u => obtain ⟨v6, σ6, H6, I6, r6, q⟩ := z; exact gone I6 fun s7 I7 => ⟨_, _, _, I7, r6, q⟩
end EL
namespace EL
open PySem PySem.Spec PyProof.Rows L2

/-! ### runs that do not hang on an address -/
noncomputable def mkR {α : Type} (r : Addr → R α) : R α := by
  classical exact if h : ∃ y, ∀ x, r x = y then h.choose else .stuck
theorem mkR_eq {α : Type} {r : Addr → R α} {y : R α} (h : ∀ x, r x = y) : mkR r = y := by
  have ex : ∃ y, ∀ x, r x = y := ⟨y, h⟩
  unfold mkR
  rw [dif_pos ex]
  exact (ex.choose_spec 0).symm.trans (h 0)
theorem mkR_at {α : Type} {r : Addr → R α} (h : mkR r ≠ .stuck) (x : Addr) : r x = mkR r := by
  unfold mkR at h ⊢
  by_cases ex : ∃ y, ∀ x, r x = y
  · rw [dif_pos ex]
    exact ex.choose_spec x
  · rw [dif_neg ex] at h
    exact (h rfl).elim

/-! ### try -/
abbrev HdM := List Nat × Option Nat × (Addr → Nat → List (Str × D) → M Fl)
@[simp] def aftE : Option Nat → Env → Env
  | some i, e => e.set i .no
  | none, e => e
@[simp] def suR (oi : Option Nat) : R Fl → R Fl
  | .ok fl e c => .ok fl (aftE oi e) c
  | _ => .stuck
noncomputable def tryK : List HdM → Bool → Nat → List (Str × D) → Env → Cells → R Fl
  | [], true, k, fs, e, c => .exc k fs e c
  | [], false, _, _, _, _ => .stuck
  | (ks, oi, su) :: r, fin, k, fs, e, c => if ks.contains k = true then mkR fun a => suR oi (match oi with
      | some i => if i < e.length then su a k fs (e.set i (.fz (.adr a))) c else .stuck
      | none => su a k fs e c) else tryK r fin k fs e c
theorem tryK_none {ks : List Nat} {su : Addr → Nat → List (Str × D) → M Fl} {r : List HdM} {fin : Bool} {k : Nat} {fs : List (Str × D)} {e : Env} {c : Cells} (h : ks.contains k = true) : tryK ((ks, none, su) :: r) fin k fs e c = mkR fun a => suR none (su a k fs e c) := if_pos h
theorem tryK_some {ks : List Nat} {i : Nat} {su : Addr → Nat → List (Str × D) → M Fl} {r : List HdM} {fin : Bool} {k : Nat} {fs : List (Str × D)} {e : Env} {c : Cells} (h : ks.contains k = true) : tryK ((ks, some i, su) :: r) fin k fs e c = mkR fun a => suR (some i) (if i < e.length then su a k fs (e.set i (.fz (.adr a))) c else .stuck) := if_pos h
theorem tryK_out {ks : List Nat} {oi : Option Nat} {su : Addr → Nat → List (Str × D) → M Fl} {r : List HdM} {fin : Bool} {k : Nat} {fs : List (Str × D)} {e : Env} {c : Cells} (h : ks.contains k = false) : tryK ((ks, oi, su) :: r) fin k fs e c = tryK r fin k fs e c := if_neg (by rw [h]; decide)
noncomputable def mTry (all : List Nat) (mb : M Fl) (hs : List HdM) (fin : Bool) : M Fl := fun env cs => match mb env cs with
  | .exc k fs e c => if all.contains k = true then tryK hs fin k fs e c else .stuck
  | .ok fl e c => .ok fl e c
  | .stuck => .stuck
/-- what is known within a suite of the exception at a -/
def XIn (g : Glob) (F : Ent) (a : Addr) (cls : Value) (d : Option Addr) (k : Nat) (fs : List (Str × D)) : Prop := cls = .ref (g.ca k) ∧ ∃ dd vs, d = some dd ∧ F.S dd = some (.xd vs) ∧ RpF g F.S F.mu vs fs
abbrev WN : WX := fun _ _ _ _ => False
def tsM (g : Glob) (ks : List Nat) (su : Addr → Nat → List (Str × D) → M Fl) : Addr → Value → Option Addr → TS := fun a cls d D σ H => ∃ F k fs, ks.contains k = true ∧ XIn g F a cls d k fs ∧ rdS g F WN (su a k fs) D σ H
inductive HdE (g : Glob) (X : Cx) (all : List Nat) : List ExceptHandler → List HdM → Bool → Prop
  | nil : HdE g X all [] [] true
  | any {hs : List ExceptHandler} : HdE g X all hs [] false
  | plain {x : Str} {C : Addr} {ks : List Nat} {su : Addr → Nat → List (Str × D) → M Fl} {b₀ : Stmt} {ss : List Stmt} {np hp : Pos} {hs : List ExceptHandler} {l : List HdM} {fin : Bool} (hc : Names X x (.ref C)) (hex : ∀ k, all.contains k = true → PySem.W.exmOne X.K (.ref (g.ca k)) (.ref C) = some (ks.contains k))
      (hsu : ∀ (a : Addr) (oe : Obj) (cls : Value) (d : Option Addr) (pn : List (Addr × Obj)), Zc cls d oe → (∃ vs, oe.data = .fields vs) → ∀ F k fs, ks.contains k = true → XIn g F a cls d k fs → PSs (X.suite a ((a, oe) :: pn)) (b₀ :: ss) (rdS g F WN (su a k fs))) (r : HdE g X all hs l fin) :
      HdE g X all (.ExceptHandler (some (.Name x np)) none (b₀ :: ss) hp :: hs) ((ks, none, su) :: l) fin
  | named {x n : Str} {i : Nat} {C : Addr} {ks : List Nat} {su : Addr → Nat → List (Str × D) → M Fl} {b₀ : Stmt} {ss : List Stmt} {np hp : Pos} {hs : List ExceptHandler} {l : List HdM} {fin : Bool} (hc : Names X x (.ref C)) (hi : X.N[i]? = some n) (hln : X.env.kindOf n = some .local) (hex : ∀ k, all.contains k = true → PySem.W.exmOne X.K (.ref (g.ca k)) (.ref C) = some (ks.contains k))
      (hsu : ∀ (a : Addr) (oe : Obj) (cls : Value) (d : Option Addr) (pn : List (Addr × Obj)), Zc cls d oe → (∃ vs, oe.data = .fields vs) → ∀ F k fs, ks.contains k = true → XIn g F a cls d k fs → PSs (X.suite a ((a, oe) :: pn)) (b₀ :: ss) (rdS g F WN (su a k fs))) (r : HdE g X all hs l fin) :
      HdE g X all (.ExceptHandler (some (.Name x np)) (some n) (b₀ :: ss) hp :: hs) ((ks, some i, su) :: l) fin
section
variable {g : Glob} {F : Ent} {W : WX} {X : Cx} {pos : Pos} {σ : SS} {H S : Hp} {mu : List Addr} {env : Env} {cs : Cells}
/-- a slot forgotten -/
theorem Rel.unset (r : Rel g F σ H S mu env cs) (i : Nat) : Rel g F (σ.set i none) H S mu (env.set i .no) cs := by
  have old : ∀ (j : Nat) (s : Slot), (env.set i .no)[j]? = some s → s = .no ∨ (j ≠ i ∧ env[j]? = some s ∧ (σ.set i none)[j]? = σ[j]?) := fun j s e => by
    by_cases hj : j = i
    · subst hj
      by_cases hl : j < env.length
      · rw [List.getElem?_set_self hl] at e
        exact .inl (Option.some.inj e).symm
      · rw [List.getElem?_eq_none (by simpa using hl)] at e
        cases e
    · rw [List.getElem?_set_ne (Ne.symm hj)] at e
      exact .inr ⟨hj, e, List.getElem?_set_ne (Ne.symm hj)⟩
  refine ⟨r.hs, r.fi, by rw [List.length_set, List.length_set]; exact r.len, fun j d e => ?_, fun j d e => ?_, fun j k d d' a e1 e2 h1 h2 => ?_⟩
  · rcases old j _ e with z | ⟨_, q, e'⟩
    · cases z
    · rw [e']; exact r.fz j d q
  · rcases old j _ e with z | ⟨_, q, e'⟩
    · cases z
    · rw [e']; exact r.ow j d q
  · rcases old j _ e1 with z | ⟨_, q1, z1⟩
    · cases z
    · rcases old k _ e2 with z | ⟨_, q2, z2⟩
      · cases z
      · rw [z1] at h1
        rw [z2] at h2
        exact r.sep j k d d' a q1 q2 h1 h2
/-- at the catch: what is known of the exception is kept in mind -/
theorem catch_in {fs : List (Str × D)} {dx : Addr} (r : Rel g F σ H S mu env cs) (x : XcOk g H S mu dx fs) (hn : F.H dx = none ∧ dx ∉ F.rs) : ∃ S1, Mo S mu S1 mu ∧ Rel g F σ H S1 mu env cs ∧ ∃ vs, S1 dx = some (.xd vs) ∧ RpF g S1 mu vs fs := by
  obtain ⟨vs, hx, rf⟩ := x
  cases e : S dx with
  | some u =>
    have hu : u = .xd vs := by
      rcases r.hs.sub dx u e with h | ⟨o, h⟩
      · rw [hx] at h; exact (Option.some.inj h).symm
      · rw [hx] at h; cases h
    subst hu
    exact ⟨S, .refl, r, vs, e, rf⟩
  | none =>
    have nm : dx ∉ mu := fun hm => by
      obtain ⟨i, hi⟩ := List.mem_iff_getElem?.mp hm
      obtain ⟨c, _, _, q⟩ := r.hs.cellAt hi
      cases c <;> first | exact q.elim | skip
      all_goals (first | (obtain ⟨_, e2, _⟩ := q; rw [hx] at e2; cases e2; done) | (obtain ⟨_, _, e2, _⟩ := q; rw [hx] at e2; cases e2; done) | (obtain ⟨_, _, _, e2, _⟩ := q; rw [hx] at e2; cases e2))
    have no : ∀ (i : Nat) d', env[i]? = some (.ow d') → σ[i]? ≠ some (some (.ref dx)) := fun i d' q z => by
      obtain ⟨b, k1, _, _, _, k5⟩ := r.ow i d' q
      rw [k1] at z
      cases z
      cases d' <;> first | exact k5.elim | skip
      all_goals (first | (obtain ⟨_, e2, _⟩ := k5; rw [hx] at e2; cases e2; done) | (obtain ⟨_, _, e2, _⟩ := k5; rw [hx] at e2; cases e2; done) | (obtain ⟨_, _, _, e2, _⟩ := k5; rw [hx] at e2; cases e2))
    exact ⟨_, Mo.new e, r.freeze hx e nm hn no, vs, upd_same, rf.mono (Mo.new e)⟩
theorem suR_ok {oi : Option Nat} {r : R Fl} {K : Fl → Env → Cells → Prop} {KX : Nat → List (Str × D) → Env → Cells → Prop} (h : Post (suR oi r) K KX) : ∃ fl e c, r = .ok fl e c ∧ K fl (aftE oi e) c := by
  cases r with
  | ok fl e c => exact ⟨fl, e, c, rfl, h⟩
  | exc k fs e c => exact h.elim
  | stuck => exact h.elim
/-- the clauses, by their class facts -/
theorem HdE.toL {all : List Nat} : ∀ {hs : List ExceptHandler} {hm : List HdM} {fin : Bool}, HdE g X all hs hm fin → ∃ l, HdL X hs l fin ∧ ∀ (E : Ends) (k : Nat) (fs : List (Str × D)) (env : Env) (cs : Cells), all.contains k = true → Post (tryK hm fin k fs env cs) (KS g F E) (ExS g F W) →
    ∀ σ dx H S mu, Rel g F σ H S mu env cs → XcOk g H S mu dx fs → (F.H dx = none ∧ dx ∉ F.rs) → wHd X.K W E l fin (.ref (g.ca k)) (some dx) σ H
  | _, _, _, .nil => ⟨[], .nil, fun E k fs env cs _ q σ dx H S mu r x hn => q σ dx H S mu r x hn⟩
  | _, _, _, .any => ⟨[], .any, fun E k fs env cs _ q σ dx H S mu r x hn => q.elim⟩
  | _, _, _, .plain (C := C) (ks := ks) (su := su) hc hex hsu r => by
    obtain ⟨l, h, w⟩ := HdE.toL r
    refine ⟨_, .plain (ts := tsM g ks su) hc (fun a oe cls d pn z f => ⟨fun pins s σ H D I ⟨F, k, fs, hk, x, q⟩ => (hsu a oe cls d pn z f F k fs hk x).run pins s σ H D I q⟩) h, fun E k fs env cs hk q σ dx H S mu r x hn => ⟨_, hex k hk, fun hb a ha => ?_, fun hb => ?_⟩⟩
    · rw [tryK_none hb] at q
      rw [← mkR_at (r := fun a => suR none (su a k fs env cs)) (fun z => by rw [z] at q; exact q) a] at q
      obtain ⟨fl, e, c, q1, q2⟩ := suR_ok q
      obtain ⟨S1, m1, r1, vs, hx, rf⟩ := catch_in r x hn
      refine ⟨F.at_ S1 mu, k, fs, hb, ⟨rfl, dx, vs, rfl, hx, rf⟩, S1, mu, env, cs, r1.to r1.fi .refl, ?_⟩
      show Post (su a k fs env cs) _ _
      rw [q1]
      have f1 := r1.fi
      cases fl with
      | nx => exact fun σ' H' S' mu' r' => q2 σ' H' S' mu' (r'.back f1)
      | bk => exact fun σ' H' S' mu' r' => q2 σ' H' S' mu' (r'.back f1)
      | ct => exact fun σ' H' S' mu' r' => q2 σ' H' S' mu' (r'.back f1)
      | rt d fr => exact fun v σ' H' S' mu' r' t => q2 v σ' H' S' mu' (r'.back f1) (by rw [← Res.to (F := F)]; exact t)
    · refine w E k fs env cs hk ?_ σ dx H S mu r x hn
      rw [tryK_out hb] at q
      exact q
  | _, _, _, .named (i := i) (C := C) (ks := ks) (su := su) hc hi hln hex hsu r => by
    obtain ⟨l, h, w⟩ := HdE.toL r
    refine ⟨_, .named (ts := tsM g ks su) hc hi hln (fun a oe cls d pn z f => ⟨fun pins s σ H D I ⟨F, k, fs, hk, x, q⟩ => (hsu a oe cls d pn z f F k fs hk x).run pins s σ H D I q⟩) h, fun E k fs env cs hk q σ dx H S mu r x hn => ⟨_, hex k hk, fun hb a ha => ?_, fun hb => ?_⟩⟩
    · rw [tryK_some hb] at q
      rw [← mkR_at (r := fun a => suR (some i) (if i < env.length then su a k fs (env.set i (.fz (.adr a))) cs else .stuck)) (fun z => by rw [z] at q; exact q) a] at q
      by_cases hl : i < env.length
      · rw [if_pos hl] at q
        obtain ⟨fl, e, c, q1, q2⟩ := suR_ok q
        obtain ⟨S1, m1, r1, vs, hx, rf⟩ := catch_in r x hn
        have r2 : Rel g F (σ.set i (some (.ref a))) H S1 mu (env.set i (.fz (.adr a))) cs := r1.putZ hl .adr
        refine ⟨F.at_ S1 mu, k, fs, hb, ⟨rfl, dx, vs, rfl, hx, rf⟩, S1, mu, _, cs, r2.to r2.fi .refl, ?_⟩
        show Post (su a k fs (env.set i (.fz (.adr a))) cs) _ _
        rw [q1]
        have f1 := r2.fi
        cases fl with
        | nx => exact fun σ' H' S' mu' r' => q2 (σ'.set i none) H' S' mu' ((r'.back f1).unset i)
        | bk => exact fun σ' H' S' mu' r' => q2 (σ'.set i none) H' S' mu' ((r'.back f1).unset i)
        | ct => exact fun σ' H' S' mu' r' => q2 (σ'.set i none) H' S' mu' ((r'.back f1).unset i)
        | rt d fr =>
          refine fun v σ' H' S' mu' r' t => q2 v (σ'.set i none) H' S' mu' ((r'.back f1).unset i) ?_
          rw [Res.to] at t
          cases fr with
          | false => exact t
          | true =>
            obtain ⟨b, z1, z2, z3, z4, z5, z6⟩ := t
            refine ⟨b, z1, z2, z3, z4, z5, fun j d' e1 e2 => ?_⟩
            by_cases hj : j = i
            · subst hj
              by_cases hle : j < e.length
              · rw [aftE, List.getElem?_set_self hle] at e1
                cases e1
              · rw [aftE, List.getElem?_eq_none (by simpa using hle)] at e1
                cases e1
            · rw [aftE, List.getElem?_set_ne (Ne.symm hj)] at e1
              rw [List.getElem?_set_ne (Ne.symm hj)] at e2
              exact z6 j d' e1 e2
      · rw [if_neg hl] at q
        exact q.elim
    · refine w E k fs env cs hk ?_ σ dx H S mu r x hn
      rw [tryK_out hb] at q
      exact q
theorem sTry {all : List Nat} {body : List Stmt} {h₀ : ExceptHandler} {hds : List ExceptHandler} {mb : M Fl} {hm : List HdM} {fin : Bool} (hN : X.N.Nodup) (tk : Takes X W) (hh : HdE g X all (h₀ :: hds) hm fin)
    (hb : ∀ (W' : WX) (pn : List (Addr × Obj)) (xe : Value → Shared → Prop), Takes (X.tr pn xe) W' → PassesOwn (model X.prog X.w) X.A X.env xe → PSs (X.tr pn xe) body (rdS g F W' mb))
    (hs : X.stack = X.env :: X.outer := by rfl) (hf : X.env.frame = some X.env.locals := by rfl) : PS X (.Try body (h₀ :: hds) [] [] pos) (rdS g F W (mTry all mb hm fin)) := by
  obtain ⟨l, hl, w⟩ := hh.toL (F := F) (W := W)
  refine PS.imp (ps_tryL (tb := fun W' => rdS g F W' mb) hs hf hN tk hb hl) fun E σ H ⟨S, mu, env, cs, r, q⟩ => ⟨S, mu, env, cs, r, ?_⟩
  unfold PoS mTry at q
  unfold PoS
  cases e : mb env cs with
  | stuck => simp only [e] at q; exact q
  | ok fl e' c' => simp only [e] at q; exact q
  | exc k fs e' c' =>
    simp only [e] at q
    by_cases hk : all.contains k = true
    · rw [if_pos hk] at q
      exact fun σ' dx H' S' mu' r' x hn => w E k fs e' c' hk q σ' dx H' S' mu' r' x hn
    · rw [if_neg hk] at q
      exact q.elim
/-! ### e.f, isinstance(e, C) in a suite -/
def mXAt (i : Nat) (a : Addr) (fs : List (Str × D)) (f : Str) : M D := (mPeek i).bind fun o => match o with
  | .adr b => if b = a then M.opt (fs.lookup f) else M.stuck
  | _ => M.stuck
theorem vo_adr {v : V} {b : Addr} (t : Vo g H S mu v (.adr b)) : v = .ref b := by
  rcases t with t | ⟨_, _, _, t⟩
  · cases t; rfl
  · exact t.elim
theorem wXAt {i : Nat} {a : Addr} {cls : Value} {d : Option Addr} {k : Nat} {fs : List (Str × D)} {oe : Obj} {pn : List (Addr × Obj)} {e : Expr} {f : Str} (hx : XIn g F a cls d k fs) (hz : Zc cls d oe) (hf : ∃ vs, oe.data = .fields vs)
    {ks : List Nat} (hk : ks.contains k = true) (hT : ∀ k, ks.contains k = true → XfC X.K (g.ca k) ∧ PySem.W.findIn X.K (.ref (g.ca k)) f = some none) (ho : PE (X.suite a ((a, oe) :: pn)) e (rdO g F W (mPeek i))) (hb : attributeBase e f X.env (eval e X.env) = eval e X.env := by rfl) :
    PE (X.suite a ((a, oe) :: pn)) (.Attribute e f pos) (rdZ g F W (mXAt i a fs f)) := by
  obtain ⟨hc, dd, vs, hd, hS, rf⟩ := hx
  obtain ⟨t1, t2⟩ := hT k hk
  refine PE.imp (pe_xf t1 t2 hz hf ho hb) fun σ H Q q => rd_bind q fun o env1 cs1 v H1 S1 mu1 t r1 => ?_
  cases o <;> first | exact r1.2.elim | skip
  rename_i b
  have r1 : RA g F W (TRp g) (if b = a then M.opt (fs.lookup f) else M.stuck) σ H1 S1 mu1 env1 cs1 Q := r1
  by_cases hb : b = a
  · subst hb
    rw [if_pos rfl] at r1
    cases e1 : fs.lookup f with
    | none => rw [e1] at r1; exact r1.2.elim
    | some y =>
      rw [e1] at r1
      obtain ⟨w, l, rw_⟩ := (rf.mono r1.1.fi.mo).lookup e1
      have hS1 : S1 dd = some (.xd vs) := r1.1.fi.mo.s _ _ hS
      exact ⟨vo_adr t, hc, dd, vs, w, hd, r1.1.hs.ext _ _ hS1 rfl, l, r1.2 w H1 S1 mu1 .refl r1.1 rw_⟩
  · rw [if_neg hb] at r1
    exact r1.2.elim
end
end EL
namespace EL
open PySem PySem.Spec PyProof.Rows L2

/-! ### frozen dicts are walked: locked for good -/
section
variable {X : Cx} {tg e : Expr} {te : TE}
/-- an expression whose dict is locked behind it -/
def tLkd (td : TE) : TE := fun σ H Q => td σ H fun x H1 => ∃ d kvs, x = .ref d ∧ ((∃ o, H1 d = some (.frz o (.dK kvs)) ∧ Q x H1) ∨ (H1 d = some (.dK kvs) ∧ ∀ o, Q x (L2.upd H1 d (.frz o (.dK kvs)))))
theorem pe_lkd (he : PE X e te) : PE X e (tLkd te) := ⟨fun pins s σ H Q I h => thn (he.run pins s σ H _ I h) fun u s1 ⟨x, H1, I1, rx, d, kvs, ex, q⟩ => by
  rcases q with ⟨o, e1, q⟩ | ⟨e1, q⟩
  · exact ⟨x, H1, I1, rx, q⟩
  · obtain ⟨od, I2⟩ := I1.lock e1 True.intro
    exact ⟨x, _, I2, rx, q od⟩⟩
end
section
variable {g : Glob} {F : Ent} {W : WX} {X : Cx} {tg e : Expr} {pos : Pos} {σ : SS} {H S : Hp} {mu : List Addr} {env : Env} {cs : Cells}
/-- a frozen dict locked -/
theorem Rel.lock {d : Addr} {kvs : List (Key × V)} (r : Rel g F σ H S mu env cs) (hS : S d = some (.dK kvs)) (hH : H d = some (.dK kvs)) (o : Obj) : Rel g F σ (L2.upd H d (.frz o (.dK kvs))) S mu env cs ∧ Gr H S mu (L2.upd H d (.frz o (.dK kvs))) S mu := by
  have kp : ∀ b x, H b = some x → Kp (L2.upd H d (.frz o (.dK kvs))) S b x := fun b x e => by
    by_cases hb : b = d
    · subst hb
      rw [hH] at e
      cases e
      exact .inr ⟨kvs, o, rfl, hS, upd_same⟩
    · exact .inl (by rw [upd_ne hb]; exact e)
  have at_ : ∀ {b : Addr} {x : D}, S b = none → At g H S mu b x → At g (L2.upd H d (.frz o (.dK kvs))) S mu b x := fun {b x} hb h => h.keep .refl fun y hy => by
    rw [upd_ne (fun z => by rw [z, hS] at hb; cases hb)]
    exact hy
  have kept : ∀ {b : Addr} {x : HO}, S b = none → H b = some x → L2.upd H d (.frz o (.dK kvs)) b = some x := fun {b x} hb h => by
    rw [upd_ne (fun z => by rw [z, hS] at hb; cases hb)]
    exact h
  refine ⟨⟨⟨fun b u e => ?_, r.hs.len, r.hs.nd, fun i b c e1 e2 => ?_, fun b u e su => ?_⟩, ⟨r.fi.mo, fun b x e hm => (r.fi.h b x e hm).trans (fun o' h' => kp b o' h') fun _ h => h, r.fi.n, r.fi.t, fun p hp => ?_, fun b hb => ?_⟩, r.len, r.fz, fun i x e => ?_, r.sep⟩, ⟨.refl, fun b x e _ => kp b x e, fun _ h => .inl h⟩⟩
  · by_cases hb : b = d
    · subst hb
      rw [hS] at e
      cases e
      exact .inr ⟨o, upd_same⟩
    · exact rdKeep (r.hs.sub b u e) fun x hx => by rw [upd_ne hb]; exact hx
  · obtain ⟨k1, k2⟩ := r.hs.cell i b c e1 e2
    exact ⟨k1, at_ k1 k2⟩
  · by_cases hb : b = d
    · subst hb
      rw [hS] at e
      cases e
      cases su
    · rw [upd_ne hb]
      exact r.hs.ext b u e su
  · have := r.fi.l p hp
    by_cases hb : p.1 = d
    · rw [hb, hH] at this
      cases this
    · rw [upd_ne hb]
      exact this
  · obtain ⟨k1, k2, k3, x, k4⟩ := r.fi.r b hb
    exact ⟨k1, k2, k3, x, kept k1 k4⟩
  · obtain ⟨a, k1, k2, k3, k4, k5⟩ := r.ow i x e
    exact ⟨a, k1, k2, k3, k4, at_ k2 k5⟩
theorem kv_rp {k : Key} : Rp g S mu (kV k) (match k with
    | .inl i => .int i
    | .inr x => .str x) := by
  cases k with
  | inl i => exact .int i
  | inr x => exact .str x
@[simp] def keyV : Key → D
  | .inl i => .int i
  | .inr x => .str x
theorem keyV_rp {k : Key} : Rp g S mu (kV k) (keyV k) := by
  cases k with
  | inl i => exact .int i
  | inr x => exact .str x
theorem RpK.get : ∀ {vs : List (Key × V)} {ds : List (Key × D)} {i : Nat} {k : Key} {d : D}, RpK g S mu vs ds → ds[i]? = some (k, d) → ∃ v, vs[i]? = some (k, v) ∧ Rp g S mu v d
  | _, _, _, _, _, .nil, e => by simp at e
  | _, _, 0, _, _, .cons h _, e => by
    simp at e
    obtain ⟨rfl, rfl⟩ := e
    exact ⟨_, rfl, h⟩
  | _, _, i + 1, _, _, .cons _ r, e => by
    obtain ⟨v, h1, h2⟩ := RpK.get (i := i) r (by simpa using e)
    exact ⟨v, by simpa using h1, h2⟩
theorem itok_dct {d : Addr} {o : Obj} {vs : List (Key × V)} {ds : List (Key × D)} {J : Addr → Obj → List (Key × V) → It} {f : Key × D → D} {lk : List (Addr × Obj × HO)} (hr : RpK g S mu vs ds) (hz : vs.length ≤ sizeLine) (hl : (d, o, HO.dK vs) ∈ lk)
    (go : ∀ i H, H d = some (.frz o (.dK vs)) → i < vs.length → (J d o vs).go i H) (stop : ∀ i H, H d = some (.frz o (.dK vs)) → vs.length ≤ i → (J d o vs).stop i H)
    (yld : ∀ S1 mu1 H i x H' k v y, RpK g S1 mu1 vs ds → (∀ b u, S1 b = some u → Rd H b u) → vs[i]? = some (k, v) → Rp g S1 mu1 v y → (J d o vs).yld i H x H' → ∃ S2, Up H S1 H' S2 ∧ Rp g S2 mu1 x (f (k, y))) : ItOk g lk (J d o vs) S mu (ds.map f) := by
  have hlen := hr.length
  refine ⟨by rw [List.length_map, ← hlen]; exact hz, fun S1 mu1 H i m h l hi => go i H (l _ hl) (by rw [List.length_map] at hi; omega), fun S1 mu1 H i m h l hi => stop i H (l _ hl) (by rw [List.length_map] at hi; omega), fun S1 mu1 H i x H' d' m h l hd y => ?_⟩
  rw [List.getElem?_map] at hd
  cases e : ds[i]? with
  | none => rw [e] at hd; cases hd
  | some p =>
    obtain ⟨k, y'⟩ := p
    rw [e] at hd
    cases hd
    obtain ⟨v, hv, rv⟩ := (hr.mono m).get e
    exact yld S1 mu1 H i x H' k v y' (hr.mono m) h hv rv y
/-- a dict's data -/
def dctD : D → Option (List (Key × D))
  | .dct kvs => some kvs
  | _ => none
def mWalk (f : Key × D → D) (m : M D) : M (List D) := m.bind fun d => M.opt ((dctD d).bind fun kvs => if kvs.length ≤ sizeLine then some (kvs.map f) else none)
theorem rp_dct {v : V} {kvs : List (Key × D)} (hs : HS g H S mu cs) (t : Rp g S mu v (.dct kvs)) : ∃ a vs, v = .ref a ∧ S a = some (.dK vs) ∧ RpK g S mu vs kvs ∧ (H a = some (.dK vs) ∨ ∃ o, H a = some (.frz o (.dK vs))) := by
  cases t with
  | dct h1 h2 => exact ⟨_, _, rfl, h1, h2, hs.sub _ _ h1⟩
/-- the common part of the walks -/
theorem walk_rd {m : M D} {f : Key × D → D} {J : Addr → Obj → List (Key × V) → It} {R : It → Hp → Prop} (q : rdI g F W (mWalk f m) σ H R)
    (itok : ∀ {S : Hp} {mu : List Addr} {d : Addr} {o : Obj} {vs : List (Key × V)} {ds : List (Key × D)} {lk : List (Addr × Obj × HO)}, RpK g S mu vs ds → vs.length ≤ sizeLine → (d, o, HO.dK vs) ∈ lk → ItOk g lk (J d o vs) S mu (ds.map f)) :
    tLkd (rdZ g F W m) σ H fun x H1 => ∃ d o kvs, x = .ref d ∧ H1 d = some (.frz o (.dK kvs)) ∧ R (J d o kvs) H1 := by
  obtain ⟨S, mu, env, cs, r, q⟩ := q
  unfold mWalk at q
  rw [Post.bind] at q
  refine ⟨S, mu, env, cs, r, q.on fun dd env1 cs1 p v H1 S1 mu1 gr r1 t => ?_⟩
  cases dd <;> first | exact p.elim | skip
  rename_i kvs
  obtain ⟨a, vs, rfl, hS, hr, hH⟩ := rp_dct r1.hs t
  have p : Post (M.opt (if kvs.length ≤ sizeLine then some (kvs.map f) else none) env1 cs1) _ _ := p
  by_cases hz : kvs.length ≤ sizeLine
  · rw [if_pos hz] at p
    have hz' : vs.length ≤ sizeLine := by rw [hr.length]; exact hz
    have fin : ∀ H2 o, Rel g F σ H2 S1 mu1 env1 cs1 → Gr H S mu H2 S1 mu1 → H2 a = some (.frz o (.dK vs)) → R (J a o vs) H2 := fun H2 o r2 gr2 h2 => by
      refine p ((a, o, .dK vs) :: F.lk) _ H2 S1 mu1 (fun q hq => List.mem_cons_of_mem _ hq) gr2 ⟨r2.hs, ⟨r2.fi.mo, r2.fi.h, r2.fi.n, r2.fi.t, fun q hq => ?_, r2.fi.r⟩, r2.len, r2.fz, r2.ow, r2.sep⟩ (itok hr hz' List.mem_cons_self)
      rcases List.mem_cons.mp hq with rfl | hq
      · exact h2
      · exact r2.fi.l q hq
    refine ⟨a, vs, rfl, ?_⟩
    rcases hH with hH | ⟨o, hH⟩
    · refine .inr ⟨hH, fun o => ?_⟩
      obtain ⟨r2, gr2⟩ := r1.lock hS hH o
      exact ⟨a, o, vs, rfl, upd_same, fin _ o r2 (gr.trans gr2) upd_same⟩
    · exact .inl ⟨o, hH, a, o, vs, rfl, hH, fin _ o r1 gr hH⟩
  · rw [if_neg hz] at p
    exact p.elim
@[simp] def fKey : Key × D → D := fun p => keyV p.1
@[simp] def fVal : Key × D → D := fun p => p.2
@[simp] def fItem : Key × D → D := fun p => .tup [keyV p.1, p.2]
theorem itk_ok {d : Addr} {o : Obj} {vs : List (Key × V)} {ds : List (Key × D)} {lk : List (Addr × Obj × HO)} (hr : RpK g S mu vs ds) (hz : vs.length ≤ sizeLine) (hl : (d, o, HO.dK vs) ∈ lk) : ItOk g lk (Itk d o vs) S mu (ds.map fKey) :=
  itok_dct hr hz hl (fun i H h hi => ⟨h, hi⟩) (fun i H h hi => ⟨h, hi⟩) fun S1 mu1 H i x H' k v y _ _ hv _ hy => by
    obtain ⟨rfl, k', v', e, rfl⟩ := hy
    rw [hv] at e
    cases e
    exact ⟨S1, .refl, keyV_rp⟩
theorem itd_ok {d : Addr} {o : Obj} {vs : List (Key × V)} {ds : List (Key × D)} {lk : List (Addr × Obj × HO)} (hr : RpK g S mu vs ds) (hz : vs.length ≤ sizeLine) (hl : (d, o, HO.dK vs) ∈ lk) : ItOk g lk (Itd d o vs) S mu (ds.map fVal) :=
  itok_dct hr hz hl (fun i H h hi => ⟨h, hi⟩) (fun i H h hi => ⟨h, hi⟩) fun S1 mu1 H i x H' k v y _ _ hv ry hy => by
    obtain ⟨rfl, k', e⟩ := hy
    rw [hv] at e
    cases e
    exact ⟨S1, .refl, ry⟩
theorem iti_ok {d : Addr} {o : Obj} {vs : List (Key × V)} {ds : List (Key × D)} {lk : List (Addr × Obj × HO)} (hr : RpK g S mu vs ds) (hz : vs.length ≤ sizeLine) (hl : (d, o, HO.dK vs) ∈ lk) : ItOk g lk (Iti d o vs) S mu (ds.map fItem) :=
  itok_dct hr hz hl (fun i H h hi => ⟨h, hi⟩) (fun i H h hi => ⟨h, hi⟩) fun S1 mu1 H i x H' k v y _ hsub hv ry hy => by
    obtain ⟨T, k', v', e, rfl, hT, rfl⟩ := hy
    rw [hv] at e
    cases e
    have hST : S1 T = none := by
      cases q : S1 T with
      | none => rfl
      | some u =>
        obtain ⟨o', z⟩ := rdHas (hsub T u q)
        rw [hT] at z; cases z
    refine ⟨L2.upd S1 T (.tup [kV k, v]), Up.newS hT hST, .tup (.inl upd_same) (.cons keyV_rp (.cons (ry.mono (Mo.new hST)) .nil))⟩
theorem rd.mono {α β : Type} {T : SS → Env → Hp → Hp → List Addr → β → α → Prop} {m : M α} {Q Q' : β → Hp → Prop} (h : rd g F W T m σ H Q) (i : ∀ v H, Q v H → Q' v H) : rd g F W T m σ H Q' := by
  obtain ⟨S, mu, env, cs, r, q⟩ := h
  exact ⟨S, mu, env, cs, r, q.on fun a e c k v H' S' mu' gr r' t => i v H' (k v H' S' mu' gr r' t)⟩
theorem tLkd.mono {m : M D} {Q Q' : VK} (h : tLkd (rdZ g F W m) σ H Q) (i : ∀ v H, Q v H → Q' v H) : tLkd (rdZ g F W m) σ H Q' :=
  rd.mono h fun v H1 ⟨d, kvs, e, q⟩ => ⟨d, kvs, e, q.imp (fun ⟨o, a, b⟩ => ⟨o, a, i _ _ b⟩) fun ⟨a, b⟩ => ⟨a, fun o => i _ _ (b o)⟩⟩
/-- for k in d -/
theorem wIKeys {m : M D} (he : PE X e (rdZ g F W m)) : PI X tg e (rdI g F W (mWalk fKey m)) :=
  PI.imp (pi_keys (pe_lkd he)) fun σ H R q => tLkd.mono (walk_rd (J := Itk) q itk_ok) fun v H1 ⟨d, o, kvs, ev, h1, h2⟩ => ⟨d, o, ev, .inl ⟨kvs, h1, h2⟩⟩
theorem wIKeysM {m : M D} {apos cpos : Pos} (he : PE X e (rdZ g F W m)) (hbase : attributeBase e "keys" X.env (eval e X.env) = eval e X.env := by rfl) (hline : (apos.endLine == cpos.line) = true := by rfl) : PI X tg (.Call (.Attribute e "keys" apos) [] [] cpos) (rdI g F W (mWalk fKey m)) :=
  PI.imp (pi_keysM (pe_lkd he) hbase hline) fun σ H R q => tLkd.mono (walk_rd (J := Itk) q itk_ok) fun v H1 z => z
theorem wIVals {m : M D} {apos cpos : Pos} (he : PE X e (rdZ g F W m)) (hbase : attributeBase e "values" X.env (eval e X.env) = eval e X.env := by rfl) (hline : (apos.endLine == cpos.line) = true := by rfl) : PI X tg (.Call (.Attribute e "values" apos) [] [] cpos) (rdI g F W (mWalk fVal m)) :=
  PI.imp (pi_values (pe_lkd he) hbase hline) fun σ H R q => tLkd.mono (walk_rd (J := Itd) q itd_ok) fun v H1 z => z
theorem wIItems {elts : List Expr} {kk : Nat} {tpos : Pos} {m : M D} {apos cpos : Pos} (he : PE X e (rdZ g F W m)) (hbase : attributeBase e "items" X.env (eval e X.env) = eval e X.env := by rfl) (hline : (apos.endLine == cpos.line) = true := by rfl) : PI X (.Tuple elts kk tpos) (.Call (.Attribute e "items" apos) [] [] cpos) (rdI g F W (mWalk fItem m)) :=
  PI.imp (pi_items (pe_lkd he) hbase hline) fun σ H R q => tLkd.mono (walk_rd (J := Iti) q iti_ok) fun v H1 z => z
/-- a walk over data of whatever kind: a dict's keys too -/
def itemsA : D → Option (List D)
  | .dct kvs => if kvs.length ≤ sizeLine then some (kvs.map fKey) else none
  | d => itemsD d
end
end EL
namespace EL
open PySem PySem.Spec PyProof.Rows L2
open PySem.W (dataLe alike AllAlike Sortable EachIs sorted_data dataLe_str dataLe_int)

/-! ### sorted -/
def sEnc (d : D) : PyData := (pD d).getD .none
def sLe : D → D → Bool := dataLe false sEnc
def isNn : PyData → Bool
  | .none => true
  | .tuple _ => true
  | _ => false
def isTc : PyData → Bool
  | .tuple (_ :: _) => true
  | _ => false
def okSort (ds : List D) : Bool := match pDs ds with
  | some xs => (xs.all fun x => xs.all fun y => alike x y) && (xs.all isTc || xs.all (fun x => !isNn x)) && xs.all (fun x => decide (x.depth ≤ 40)) && decide (ds.length ≤ sizeLine)
  | none => false
def srtD (ds : List D) : List D := ds.mergeSort sLe
theorem pDs_map : ∀ {ds : List D} {xs : List PyData}, pDs ds = some xs → xs = ds.map sEnc ∧ ∀ d ∈ ds, pD d = some (sEnc d)
  | [], _, e => by cases e; exact ⟨rfl, fun _ h => nomatch h⟩
  | d :: ds, xs, e => by
    unfold pDs at e
    cases e1 : pD d with
    | none => rw [e1] at e; cases e
    | some x =>
      rw [e1] at e
      have e : (pDs ds).map (fun xs => x :: xs) = some xs := e
      cases e2 : pDs ds with
      | none => rw [e2] at e; cases e
      | some ys =>
        rw [e2] at e
        cases e
        obtain ⟨h1, h2⟩ := pDs_map e2
        have h3 : sEnc d = x := by unfold sEnc; rw [e1]; rfl
        refine ⟨by rw [List.map_cons, h3, ← h1], fun z hz => ?_⟩
        rcases List.mem_cons.mp hz with rfl | hz
        · rw [h3]; exact e1
        · exact h2 z hz
theorem okSort_of {ds : List D} (h : okSort ds = true) : (∀ d ∈ ds, pD d = some (sEnc d)) ∧ AllAlike (ds.map sEnc) ∧ Sortable (ds.map sEnc) ∧ (∀ d ∈ ds, (sEnc d).depth ≤ 40) ∧ ds.length ≤ sizeLine := by
  unfold okSort at h
  cases e : pDs ds with
  | none => rw [e] at h; cases h
  | some xs =>
    rw [e] at h
    simp only [Bool.and_eq_true, List.all_eq_true, decide_eq_true_eq, Bool.or_eq_true, Bool.not_eq_true'] at h
    obtain ⟨⟨⟨h1, h2⟩, h3⟩, h4⟩ := h
    obtain ⟨rfl, hp⟩ := pDs_map e
    refine ⟨hp, h1, h2.imp (fun h d hd => ?_) (fun h d hd => ?_), fun d hd => h3 _ (List.mem_map.mpr ⟨d, hd, rfl⟩), h4⟩
    · have := h d hd
      unfold isTc at this
      split at this
      · exact ⟨_, _, rfl⟩
      · cases this
    · have := h d hd
      refine ⟨fun z => ?_, fun ys z => ?_⟩ <;> (subst z; cases this)
section
variable {g : Glob} {F : Ent} {W : WX} {X : Cx} {a e : Expr} {pos : Pos} {σ : SS} {H S : Hp} {mu : List Addr} {cs : Cells}
abbrev RvR (g : Glob) (S : Hp) (mu : List Addr) : Value → D → Prop := fun u d => ∃ v, RelV v u ∧ Rp g S mu v d
theorem rvr_each : ∀ {vs : List V} {us : List Value} {ds : List D}, Vals vs us → RpL g S mu vs ds → EachIs (RvR g S mu) us ds
  | _, _, _, .nil, .nil => .nil
  | _, _, _, .cons h r, .cons k t => .cons ⟨_, h, k⟩ (rvr_each r t)
theorem each_rvr : ∀ {us : List Value} {ds : List D}, EachIs (RvR g S mu) us ds → ∃ vs, Vals vs us ∧ RpL g S mu vs ds
  | _, _, .nil => ⟨[], .nil, .nil⟩
  | _, _, .cons ⟨v, h, k⟩ t => by
    obtain ⟨vs, h1, h2⟩ := each_rvr t
    exact ⟨v :: vs, .cons h h1, .cons k h2⟩
theorem each_reads {pins : List (Addr × Obj)} {s : Shared} (I : L2.Inv X pins σ H s) (hs : HS g H S mu cs) (hK : X.K = g.K) (hy : SysIn X.K) : ∀ {us : List Value} {ds : List D}, EachIs (RvR g S mu) us ds → (∀ d ∈ ds, pD d = some (sEnc d)) → EachIs (fun v b => ∃ as, Reads s.heap v (sEnc b) as) us ds
  | _, _, .nil, _ => .nil
  | _, _, .cons ⟨v, h, k⟩ t, q => .cons ((rp_reads I hs hK hy _ v _ _ k h (q _ List.mem_cons_self)).imp fun as z => z.1) (each_reads I hs hK hy t fun d hd => q d (List.mem_cons_of_mem _ hd))
def rSrt (g : Glob) : List V → Hp → VK → Prop := fun xs H Q => ∃ v S mu cs ds, xs = [v] ∧ HS g H S mu cs ∧ Vw g H S mu v (.lst ds) ∧ okSort ds = true ∧ ∀ p vs, H p = none → RpL g S mu vs (srtD ds) → Q (.ref p) (upd H p (.lst vs))
theorem cr_srt (hK : X.K = g.K) (hu : X.A.units + 64 < cLine) (hy : SysIn X.K) : CallR X (.builtin "sorted") (rSrt g) := by
  intro pins s σ H xs us Q I r h
  obtain ⟨v, S, mu, cs, ds, rfl, hs, w, ok, q⟩ := h
  obtain ⟨a, vs, rfl, h1, h2⟩ := w.lst hs
  obtain ⟨u, rfl, ru⟩ := vals1 r
  cases ru
  obtain ⟨its, rv, hl, hz⟩ := I.list (X := X) (hK.symm ▸ h1)
  obtain ⟨k1, k2, k3, k4, k5⟩ := okSort_of ok
  have ea := rvr_each rv h2
  refine sorted_data (β := D) (enc := sEnc) (R := RvR g S mu) (bs := ds) (vs := its) hl.isList ea (each_reads I hs hK hy ea k1) k2 k3 k5 (fun b hb => ?_) fun out ho eo => ?_
  · have := k4 b hb
    omega
  · obtain ⟨ws, w1, w2⟩ := each_rvr eo
    obtain ⟨c, hc⟩ := sortedAll_at s.heap its (List.toArray out)
    refine ⟨.ref (s.heap.objs.size + 1), upd H (s.heap.objs.size + 1) (.lst ws), I.laid (t' := s.toks) (fun b o e => sortedAll_old e) (Nat.le_succ _)
      (show ObjOk X.prog X.w _ _ _ (.lst ws) from ⟨by rw [w2.length, List.length_mergeSort]; exact k5, out, c, w1, hc⟩), rfl, q _ _ (I.hok.fresh (Nat.le_succ _)) w2⟩
/-! the one arrangement -/
theorem le_antisymm_nats (a b : List Nat) (h1 : a ≤ b) (h2 : b ≤ a) : a = b := List.le_antisymm h1 h2
theorem sLe_str (x y : Str) : sLe (.str x) (.str y) = decide (x.cps.toList ≤ y.cps.toList) := congrFun (congrFun (dataLe_str (fun z : Str => z)) x) y
theorem sLe_int (x y : Int) : sLe (.int x) (.int y) = decide (x ≤ y) := congrFun (congrFun (dataLe_int (fun z : Int => z)) x) y
def sortS (xs : List Str) : List Str := xs.mergeSort fun a b => decide (a.cps.toList ≤ b.cps.toList)
def sortI (xs : List Int) : List Int := xs.mergeSort fun a b => decide (a ≤ b)
theorem srtD_str (xs : List Str) : srtD (xs.map .str) = (sortS xs).map .str := (List.map_mergeSort (fun a _ b _ => (sLe_str a b).symm)).symm
theorem srtD_int (xs : List Int) : srtD (xs.map .int) = (sortI xs).map .int := (List.map_mergeSort (fun a _ b _ => (sLe_int a b).symm)).symm
theorem str_ext {a b : Str} (h : a.cps.toList = b.cps.toList) : a = b := by
  cases a; cases b
  simp at h
  subst h
  rfl
theorem sortS_pw (xs : List Str) : (sortS xs).Pairwise (fun a b => a.cps.toList ≤ b.cps.toList) :=
  (List.pairwise_mergeSort (le := fun a b : Str => decide (a.cps.toList ≤ b.cps.toList)) (fun a b c h1 h2 => by simp only [decide_eq_true_eq] at *; exact List.le_trans h1 h2) (fun a b => by
    simp only [Bool.or_eq_true, decide_eq_true_eq]
    exact List.le_total _ _) xs).imp fun h => of_decide_eq_true h
theorem sortI_pw (xs : List Int) : (sortI xs).Pairwise (· ≤ ·) :=
  (List.pairwise_mergeSort (le := fun a b : Int => decide (a ≤ b)) (fun a b c h1 h2 => by simp only [decide_eq_true_eq] at *; omega) (fun a b => by
    simp only [Bool.or_eq_true, decide_eq_true_eq]
    omega) xs).imp fun h => of_decide_eq_true h
theorem sortS_perm (xs : List Str) : (sortS xs).Perm xs := List.mergeSort_perm _ _
theorem sortI_perm (xs : List Int) : (sortI xs).Perm xs := List.mergeSort_perm _ _
theorem sortS_one {xs ys : List Str} (hp : ys.Perm xs) (h : ys.Pairwise (fun a b => a.cps.toList ≤ b.cps.toList)) : ys = sortS xs :=
  List.Perm.eq_of_pairwise (fun a b _ _ h1 h2 => str_ext (List.le_antisymm h1 h2)) h (sortS_pw xs) (hp.trans (sortS_perm xs).symm)
theorem sortI_one {xs ys : List Int} (hp : ys.Perm xs) (h : ys.Pairwise (· ≤ ·)) : ys = sortI xs :=
  List.Perm.eq_of_pairwise (fun a b _ _ h1 h2 => Int.le_antisymm h1 h2) h (sortI_pw xs) (hp.trans (sortI_perm xs).symm)
theorem rising_pw : ∀ {p : Str} {xs : List Str}, risingS p xs = true → (p :: xs).Pairwise (fun a b => a.cps.toList ≤ b.cps.toList)
  | p, [], _ => List.pairwise_singleton _ _
  | p, x :: r, h => by
    unfold risingS at h
    obtain ⟨h1, h2⟩ := Bool.and_eq_true_iff.mp h
    have q := rising_pw h2
    have hpx : p.cps.toList ≤ x.cps.toList := by
      have h1 : ltCps x.cps.toList p.cps.toList = false := by simpa using h1
      have e := sLe_str p x
      have e2 : sLe (.str p) (.str x) = !ltCps x.cps.toList p.cps.toList := by
        show (!PySem.W.dataLt (.str x) (.str p)) = _
        rw [PySem.W.dataLt_str, le_meets]
      rw [e2, h1] at e
      exact of_decide_eq_true e.symm
    refine List.pairwise_cons.mpr ⟨fun y hy => ?_, q⟩
    rcases List.mem_cons.mp hy with rfl | hy
    · exact hpx
    · exact List.le_trans hpx ((List.pairwise_cons.mp q).1 y hy)
theorem sortedS_pw : ∀ {xs : List Str}, sortedS xs = true → xs.Pairwise (fun a b => a.cps.toList ≤ b.cps.toList)
  | [], _ => .nil
  | _ :: _, h => rising_pw h
/-! sorted of a dict -/
def keysS : List (Key × D) → Option (List Str)
  | [] => some []
  | (.inr x, _) :: r => (keysS r).map fun xs => x :: xs
  | _ => none
def keysI : List (Key × D) → Option (List Int)
  | [] => some []
  | (.inl x, _) :: r => (keysI r).map fun xs => x :: xs
  | _ => none
theorem keysS_of : ∀ {vs : List (Key × V)} {ds : List (Key × D)} {xs : List Str}, RpK g S mu vs ds → keysS ds = some xs → vs.map (·.1) = xs.map Sum.inr
  | _, _, _, .nil, e => by cases e; rfl
  | _, _, _, .cons (k := k) (ds := ds) h r, e => by
    cases k with
    | inl i => cases e
    | inr x =>
      unfold keysS at e
      cases e1 : keysS ds with
      | none => rw [e1] at e; cases e
      | some ys =>
        rw [e1] at e
        cases e
        rw [List.map_cons, List.map_cons, keysS_of r e1]
theorem keysI_of : ∀ {vs : List (Key × V)} {ds : List (Key × D)} {xs : List Int}, RpK g S mu vs ds → keysI ds = some xs → vs.map (·.1) = xs.map Sum.inl
  | _, _, _, .nil, e => by cases e; rfl
  | _, _, _, .cons (k := k) (ds := ds) h r, e => by
    cases k with
    | inr i => cases e
    | inl x =>
      unfold keysI at e
      cases e1 : keysI ds with
      | none => rw [e1] at e; cases e
      | some ys =>
        rw [e1] at e
        cases e
        rw [List.map_cons, List.map_cons, keysI_of r e1]
theorem rpl_strs : ∀ (xs : List Str), RpL g S mu (xs.map .str) (xs.map .str)
  | [] => .nil
  | x :: xs => .cons (.str x) (rpl_strs xs)
theorem rpl_ints : ∀ (xs : List Int), RpL g S mu (xs.map .int) (xs.map .int)
  | [] => .nil
  | x :: xs => .cons (.int x) (rpl_ints xs)
def fSort : Fn
  | [.lst ds] => if okSort ds then some (.lst (srtD ds), true) else none
  | _ => none
def fSortD : Fn
  | [.dct kvs] => match keysS kvs with
    | some xs => if xs.length < 64 then some (.lst ((sortS xs).map .str), true) else none
    | none => match keysI kvs with
      | some xs => if xs.length < 64 then some (.lst ((sortI xs).map .int), true) else none
      | none => none
  | _ => none
theorem s_sorted {hy : SysIn g.K} : CallS g (.builtin "sorted") (drN (orN fSort fSortD)) := fun X hK hu hc => ⟨_, (cr_srt hK hu (hK.symm ▸ hy)).or ((call_sortedD hc).or (call_sortedDI hc)), OpVN.ok (OpVN.or (fun H S mu cs vs ds x Q hs va e k => by
  rcases ds with _ | ⟨d, _ | ⟨d', ds⟩⟩ <;> first | (cases e; done) | (cases d <;> cases e; done) | skip
  · obtain ⟨v, rfl, w⟩ := va.one
    cases d <;> first | (simp [fSort] at e; done) | skip
    rename_i zs
    have e : (if okSort zs then some (D.lst (srtD zs), true) else none) = some x := e
    split at e
    · rename_i ho
      cases e
      exact ⟨v, S, mu, cs, zs, rfl, hs, w, ho, fun p ws hp hr => k _ _ _ (OpRes.lst hs hp hr)⟩
    · cases e) (fun H S mu cs vs ds x Q hs va e k => by
  rcases ds with _ | ⟨d, _ | ⟨d', ds⟩⟩ <;> first | (cases e; done) | (cases d <;> cases e; done) | skip
  · obtain ⟨v, rfl, w⟩ := va.one
    cases d <;> first | (simp [fSortD] at e; done) | skip
    rename_i kvs
    obtain ⟨p, ws, rfl, h1, h2⟩ := w.dct hs
    simp only [fSortD] at e
    cases e1 : keysS kvs with
    | some xs =>
      rw [e1] at e
      have e : (if xs.length < 64 then some (D.lst ((sortS xs).map .str), true) else none) = some x := e
      split at e
      · rename_i hl
        cases e
        refine .inl ⟨p, ws, xs, rfl, h1, keysS_of h2 e1, hl, fun ys q h3 h4 hq => ?_⟩
        rw [sortS_one h3 (sortedS_pw h4)]
        exact k _ _ _ (OpRes.lst hs hq (rpl_strs _))
      · cases e
    | none =>
      rw [e1] at e
      cases e2 : keysI kvs with
      | none => rw [e2] at e; cases e
      | some xs =>
        rw [e2] at e
        have e : (if xs.length < 64 then some (D.lst ((sortI xs).map .int), true) else none) = some x := e
        split at e
        · rename_i hl
          cases e
          refine .inr ⟨p, ws, xs, rfl, h1, keysI_of h2 e2, hl, fun ys q h3 h4 hq => ?_⟩
          rw [sortI_one h3 h4]
          exact k _ _ _ (OpRes.lst hs hq (rpl_ints _))
        · cases e))⟩
end
end EL
namespace EL
open PySem PySem.Spec PyProof.Rows L2

/-! ### tuple(d), d a dict -/
section
variable {prog : Program} {w : World} {A : Around} {E : Value → Shared → Prop} {s : Shared}
theorem code_tupD {K : Type} [DecidableEq K] {knd : KeyKind prog w K} {d : Addr} {kvs : List (K × Value)} {ep : Nat} {Q₁ : Value → Shared → Prop} (lo : (d == sysModules) = false) (hat : s.heap.DictAt knd d kvs ep) (hh : A.handled = none) (hsz : kvs.length ≤ sizeLine)
    (h : ∀ (h' : Heap) (tk : Nat) (acc : Array Value), (∀ b o, s.heap.get? b = some o → h'.get? b = some o) → ItemsOf (fun i v => ∃ k x, kvs[i]? = some (k, x) ∧ knd.is k v = true) acc kvs.length → Q₁ (.ref h'.objs.size) { s with heap := h'.push { cls := .type "tuple", data := .seq acc }, toks := tk }) :
    codeAny (model prog w) A (.call (.builtin "tuple.__new__") ⟨[.type "tuple", .ref d], []⟩) (wants Q₁ E) s := by
  refine codeAny_of_tree ?_
  show wpAny _ A.in1 (do checkBuiltinCall "tuple.__new__" ⟨[.type "tuple", .ref d], []⟩; again (.builtin "tuple.__new__" ⟨[.type "tuple", .ref d], []⟩)) _ _ s
  refine wpAny_bind (wpAny_of_eq (F.newCall_tuple_1 _) (wpAny_pure ⟨plainId_quiet F.plain_tuple_new _, codeAny_builtin F.entry_tuple_new ?_⟩))
  rw [Around.under_plainId F.plain_tuple_new _]
  have hsub := sub_tuple_self
  have hinit := init_tuple_lookup
  have hmh := madeHere_tuple
  have hTI := hat.dictOf.typeIs
  wp_walk using wpAny_typeOf hTI, PySem.W.kdu_collect (A := A.in1) (PySem.W.kdl_dict (knd := knd) (kvs := kvs) (ep := ep) lo) hh hat hsz
  intro h' tk acc hk hacc
  show wpAny _ _ (Builtin.Tuple.tupleExact acc.toList.toArray >>= fun v => ret v) _ _ _
  unfold Builtin.Tuple.tupleExact
  refine wpAny_bind (wpAny_newObj_type ?_ (by show acc.toList.toArray.size ≤ sizeLine; simp only [Array.toArray_toList]; rw [hacc.1]; exact hsz))
  refine wpAny_pure ?_
  have e : acc.toList.toArray = acc := by simp
  rw [e]
  exact h h' tk acc hk hacc
end
section
variable {X : Cx}
theorem call_tupleD (hcalm : X.calm = true) : CallR X (.type "tuple") (fun xs H Q => ∃ (a : Addr) (kvs : List (Key × V)), xs = [.ref a] ∧ Rd H a (.dK kvs) ∧ ∀ p, H p = none → Q (.ref p) (upd H p (.tup (kvs.map fun kv => kV kv.1)))) := by
  intro pins s σ H xs us Q I r q
  obtain ⟨a, kvs, ex, hd, q⟩ := q
  subst ex
  obtain ⟨u, eu, rx⟩ := vals1 r
  subst eu
  cases rx
  obtain ⟨z, lo, vs, rel, dd⟩ := dk_rd I.hok hd
  obtain ⟨ep, hat⟩ := dd.dictAt
  have ek : (kvs.map fun kv => kV kv.1) = vs.map fun p => kV p.1 := by
    have e := congrArg (List.map kV) rel.keys
    rw [List.map_map, List.map_map] at e
    exact e
  refine callType_codes (Q₁ := fun obj s₁ => s₁.TypeIs obj "tuple" ∧ EP X pins σ Q obj s₁) F.called_tuple (F.typeCall_tuple_1 _) F.entry_object_init
    (code_tupD lo hat (I.ok.hd hcalm) (by rw [← rel.length]; exact z) fun h' tk acc hk hacc => ⟨⟨_, Heap.get?_push_size _ rfl, rfl⟩, ?_⟩) fun obj s₁ h₁ => ?_
  · have hv : Vals (vs.map fun p => kV p.1) acc.toList := keys_at (by rw [Array.length_toList]; exact hacc.1) fun j v e => hacc.2 j v (by rw [← Array.getElem?_toList]; exact e)
    have I1 : Inv X pins σ H { s with heap := h', toks := tk } := I.kept hk
    refine ⟨.ref h'.objs.size, upd H h'.objs.size (.tup (kvs.map fun kv => kV kv.1)), I1.laid (t' := tk) (fun b o e => Heap.get?_push_of_some _ e) (Nat.le_refl _)
      (show ObjOk X.prog X.w _ _ _ (.tup (kvs.map fun kv => kV kv.1)) from ⟨by rw [List.length_map]; exact z, acc.toList, by rw [ek]; exact hv, by rw [Array.toArray_toList]; exact IsTup.new _ _⟩), rfl, q _ (I1.hok.fresh (Nat.le_refl _))⟩
  · exact ⟨h₁.1, F.args_object_init_2 obj _, object_init_meets F.called_tuple.init.lookup F.called_tuple.made (by decide) X.prog X.w X.A.in1 _ s₁ ⟨h₁.1, rfl, h₁.2⟩⟩
end
section
variable {g : Glob} {F : Ent} {W : WX} {X : Cx} {a b c e o i : Expr} {es : List Expr} {pos : Pos} {σ : SS} {H S : Hp} {mu : List Addr} {env : Env} {cs : Cells}
/-! ### len, list, tuple, dict of dicts -/
theorem rpk_keys : ∀ {vs : List (Key × V)} {ds : List (Key × D)}, RpK g S mu vs ds → RpL g S mu (vs.map fun kv => kV kv.1) (ds.map fKey)
  | _, _, .nil => .nil
  | _, _, .cons h r => .cons keyV_rp (rpk_keys r)
@[simp] def fLenD : Fn
  | [.dct kvs] => some (.int kvs.length, false)
  | _ => none
def fListD : Fn
  | [.dct kvs] => some (.lst (kvs.map fKey), true)
  | _ => none
def fTupD : Fn
  | [.dct kvs] => some (.tup (kvs.map fKey), false)
  | _ => none
theorem v_dct {f : Fn} {h : List (Key × D) → D × Bool} {r : List V → Hp → VK → Prop} (hf : ∀ ds x, f ds = some x → ∃ kvs, ds = [.dct kvs] ∧ x = h kvs)
    (k : ∀ (H S : Hp) (mu : List Addr) (cs : Cells) (a : Addr) (vs : List (Key × V)) (kvs : List (Key × D)) (Q : VK), HS g H S mu cs → Rd H a (.dK vs) → RpK g S mu vs kvs → (∀ u H' S', OpRes g H S mu H' S' u (h kvs).1 (h kvs).2 → Q u H') → r [.ref a] H Q) : OpVN g f r := fun H S mu cs vs ds x Q hs va e q => by
  obtain ⟨kvs, rfl, rfl⟩ := hf ds x e
  obtain ⟨v, rfl, w⟩ := va.one
  obtain ⟨p, ws, rfl, h1, h2⟩ := w.dct hs
  exact k _ _ _ _ _ _ _ _ hs h1 h2 q
theorem call_lenR : CallR X (.builtin "len") (fun xs H Q => ∃ a kvs, xs = [V.ref a] ∧ Rd H a (.dK kvs) ∧ Q (.int kvs.length) H) := by
  intro pins s σ H xs us Q I r h
  obtain ⟨a, kvs, rfl, ha, q⟩ := h
  obtain ⟨u, rfl, ru⟩ := vals1 r
  cases ru
  exact d_len I ha fun t s' I' => ⟨.int kvs.length, H, I', ⟨t, rfl⟩, q⟩
theorem one_dct {f : Fn} {h : List (Key × D) → D × Bool} (h0 : f [] = none) (h2 : ∀ a b r, f (a :: b :: r) = none) (h1 : ∀ d x, f [d] = some x → ∃ kvs, d = .dct kvs ∧ x = h kvs) : ∀ ds x, f ds = some x → ∃ kvs, ds = [.dct kvs] ∧ x = h kvs := fun ds x e => by
  rcases ds with _ | ⟨d, _ | ⟨d', ds⟩⟩
  · rw [h0] at e; cases e
  · obtain ⟨kvs, rfl, rfl⟩ := h1 d x e
    exact ⟨kvs, rfl, rfl⟩
  · rw [h2] at e; cases e
theorem v_len : OpVN g fLen (fun vs H Q => ∃ x n, vs = [x] ∧ LenV g.K x H n ∧ Q (.int n) H) := fun H S mu cs vs ds x Q hs va e k => by
  rcases ds with _ | ⟨d, _ | ⟨d', ds⟩⟩ <;> first | (cases e; done) | skip
  · obtain ⟨v, rfl, w⟩ := va.one
    cases d <;> first | (simp [fLen] at e; done) | skip
    · simp only [fLen] at e
      split at e
      · rename_i hl
        cases e
        cases w.str
        exact ⟨_, _, rfl, ⟨hl, rfl⟩, k _ _ _ (.val (.int _))⟩
      · cases e
    · cases e
      obtain ⟨a, xs, rfl, h1, h2⟩ := w.lst hs
      refine ⟨_, _, rfl, .inl ⟨xs, h1, rfl⟩, ?_⟩
      rw [h2.length]
      exact k _ _ _ (.val (.int _))
    · cases e
      obtain ⟨a, xs, rfl, h1, h2⟩ := w.tup hs
      refine ⟨_, _, rfl, .inr ⟨xs, h1, rfl⟩, ?_⟩
      rw [h2.length]
      exact k _ _ _ (.val (.int _))
  · cases d <;> cases e
theorem v_lenD : OpVN g fLenD (fun xs H Q => ∃ a kvs, xs = [V.ref a] ∧ Rd H a (.dK kvs) ∧ Q (.int kvs.length) H) :=
  v_dct (h := fun kvs => (.int kvs.length, false)) (one_dct rfl (fun a b r => by cases a <;> rfl) fun d x e => by
    cases d <;> first | (cases e; done) | skip
    cases e
    exact ⟨_, rfl, rfl⟩) fun H S mu cs a vs kvs Q hs h1 h2 k => ⟨a, vs, rfl, h1, by rw [h2.length]; exact k _ _ _ (.val (.int _))⟩
theorem s_lenA : CallS g (.builtin "len") (drN (orN fLen fLenD)) := fun X hK hu hc => ⟨_, call_len.or call_lenR, OpVN.ok (OpVN.or (hK.symm ▸ v_len) v_lenD)⟩
theorem v_list : OpVN g fList (fun xs H Q => ∃ p ys, xs = [V.ref p] ∧ (SqL g.K H p ys ∨ SqT g.K H p ys) ∧ ∀ l, H l = none → Q (.ref l) (upd H l (.lst ys))) := fun H S mu cs vs ds x Q hs va e k => by
  rcases ds with _ | ⟨d, _ | ⟨d', ds⟩⟩ <;> first | (cases e; done) | skip
  · obtain ⟨v, rfl, w⟩ := va.one
    cases d <;> first | (simp [fList] at e; done) | skip
    · cases e
      obtain ⟨a, xs, rfl, h1, h2⟩ := w.lst hs
      exact ⟨a, xs, rfl, .inl h1, fun l hl => k _ _ _ (OpRes.lst hs hl h2)⟩
    · cases e
      obtain ⟨a, xs, rfl, h1, h2⟩ := w.tup hs
      exact ⟨a, xs, rfl, .inr h1, fun l hl => k _ _ _ (OpRes.lst hs hl h2)⟩
  · cases d <;> cases e
theorem s_listA : CallS g (.type "list") (drN (orN fList fListD)) := fun X hK hu hc => ⟨_, call_list_of.or (call_listD hc), OpVN.ok (OpVN.or (hK.symm ▸ v_list)
  (v_dct (h := fun kvs => (.lst (kvs.map fKey), true)) (one_dct rfl (fun a b r => by cases a <;> rfl) fun d x e => by
    cases d <;> first | (cases e; done) | skip
    cases e
    exact ⟨_, rfl, rfl⟩) fun H S mu cs a vs kvs Q hs h1 h2 k => ⟨a, vs, rfl, h1, fun p hp => k _ _ _ (OpRes.lst hs hp (rpk_keys h2))⟩))⟩
theorem v_tuple : OpVN g fTuple (fun xs H Q => ∃ p ys, xs = [V.ref p] ∧ ((SqL g.K H p ys ∧ ∀ l, H l = none → Q (.ref l) (upd H l (.tup ys))) ∨ (SqT g.K H p ys ∧ Q (.ref p) H))) := fun H S mu cs vs ds x Q hs va e k => by
  rcases ds with _ | ⟨d, _ | ⟨d', ds⟩⟩ <;> first | (cases e; done) | skip
  · obtain ⟨v, rfl, w⟩ := va.one
    cases d <;> first | (simp [fTuple] at e; done) | skip
    · cases e
      obtain ⟨a, xs, rfl, h1, h2⟩ := w.lst hs
      exact ⟨a, xs, rfl, .inl ⟨h1, fun l hl => k _ _ _ (OpRes.tup hs hl h2)⟩⟩
    · cases e
      rename_i ds
      have rp : Rp g S mu v (.tup ds) := by
        rcases w with z | ⟨_, _, z⟩
        · exact z
        · exact z.elim
      obtain ⟨a, xs, rfl, h1, h2⟩ := w.tup hs
      exact ⟨a, xs, rfl, .inr ⟨h1, k _ _ _ (.val rp)⟩⟩
  · cases d <;> cases e
theorem s_tupleA : CallS g (.type "tuple") (drN (orN fTuple fTupD)) := fun X hK hu hc => ⟨_, call_tuple_of.or (call_tupleD hc), OpVN.ok (OpVN.or (hK.symm ▸ v_tuple)
  (v_dct (h := fun kvs => (.tup (kvs.map fKey), false)) (one_dct rfl (fun a b r => by cases a <;> rfl) fun d x e => by
    cases d <;> first | (cases e; done) | skip
    cases e
    exact ⟨_, rfl, rfl⟩) fun H S mu cs a vs kvs Q hs h1 h2 k => ⟨a, vs, rfl, h1, fun p hp => k _ _ _ (OpRes.tup hs hp (rpk_keys h2))⟩))⟩
/-- dict(pairs), dict(d) -/
def prsD : List D → Option (List (Key × D))
  | [] => some []
  | .tup [k, x] :: r => (keyD k).bind fun kk => (prsD r).map fun kvs => (kk, x) :: kvs
  | _ => none
def fDictP : Fn
  | [.lst ds] => (prsD ds).map fun kvs => (.dct (mergeD [] kvs), true)
  | _ => none
def fDictD : Fn
  | [.dct kvs] => some (.dct kvs, true)
  | _ => none
theorem prs_of (hs : HS g H S mu cs) : ∀ {ds : List D} {vs : List V} {kvs : List (Key × D)}, RpL g S mu vs ds → prsD ds = some kvs → ∃ (ps : List Addr) (ws : List (Key × V)), vs = ps.map V.ref ∧ Paired (fun p kv => SqT g.K H p [kV kv.1, kv.2]) ps ws ∧ RpK g S mu ws kvs
  | [], _, _, .nil, e => by cases e; exact ⟨[], [], rfl, .nil, .nil⟩
  | d :: ds, _, kvs, .cons h r, e => by
    rcases d with _ | _ | _ | _ | _ | (_ | ⟨k, _ | ⟨x, _ | ⟨z, l⟩⟩⟩) | _ | _ | _ | _ | _ | _ <;> first | (simp [prsD] at e; done) | skip
    simp only [prsD] at e
    cases ek : keyD k with
    | none => rw [ek] at e; cases e
    | some kk =>
      rw [ek] at e
      have e : (prsD ds).map (fun kvs => (kk, x) :: kvs) = some kvs := e
      cases e2 : prsD ds with
      | none => rw [e2] at e; cases e
      | some l =>
        rw [e2] at e
        cases e
        obtain ⟨ps, ws, rfl, k1, k2⟩ := prs_of hs r e2
        obtain ⟨p, xs, rfl, h1, h2⟩ := Vw.tup hs (.inl h)
        cases h2 with
        | cons t1 h2 =>
          cases h2 with
          | cons t2 h2 =>
            cases h2
            have := keyD_v t1 ek
            subst this
            exact ⟨p :: ps, (kk, _) :: ws, rfl, .cons h1 k1, .cons t2 k2⟩
theorem s_dict : CallS g (.type "dict") (drN (orN fDictP fDictD)) := fun X hK hu hc => ⟨_, (call_dictP hc).or call_dictD, OpVN.ok (OpVN.or (fun H S mu cs vs ds x Q hs va e k => by
  rcases ds with _ | ⟨d, _ | ⟨d', ds⟩⟩ <;> first | (cases e; done) | skip
  · obtain ⟨v, rfl, w⟩ := va.one
    cases d <;> first | (simp [fDictP] at e; done) | skip
    rename_i zs
    simp only [fDictP] at e
    cases e1 : prsD zs with
    | none => rw [e1] at e; cases e
    | some kvs =>
      rw [e1] at e
      cases e
      obtain ⟨a, xs, rfl, h1, h2⟩ := w.lst hs
      obtain ⟨ps, ws, rfl, k1, k2⟩ := prs_of hs h2 e1
      exact ⟨a, ps, ws, rfl, hK.symm ▸ h1, hK.symm ▸ k1, fun p hp => k _ _ _ (OpRes.new hs hp ⟨_, upd_same, RpK.merge k2 .nil⟩)⟩
  · cases d <;> cases e)
  (v_dct (h := fun kvs => (.dct kvs, true)) (one_dct rfl (fun a b r => by cases a <;> rfl) fun d x e => by
    cases d <;> first | (cases e; done) | skip
    cases e
    exact ⟨_, rfl, rfl⟩) fun H S mu cs a vs kvs Q hs h1 h2 k => ⟨a, vs, rfl, h1, fun p hp => k _ _ _ (OpRes.new hs hp ⟨_, upd_same, h2⟩)⟩))⟩
/-! ### d[k] = v too -/
def setA (k x : D) : D → Option (Unit × D)
  | .dct kvs => (keyD k).bind fun kk => if kvs.length < sizeLine then some ((), .dct (putD kvs kk x)) else none
  | .lst ds => setD k x (.lst ds)
  | _ => none
def mSetA (ip : Nat) (mi me : M D) : M Fl := me.bind fun x => (mPeek ip).bind fun _ => mi.bind fun k => (mMut ip (setA k x)).bind fun _ => M.pure .nx
theorem Vw.key {v : V} {d : D} {k : Key} (h : Vw g H S mu v d) (e : keyD d = some k) : v = kV k := by
  cases d <;> first | (cases e; done) | skip
  · cases e; cases h.int; rfl
  · cases e; cases h.str; rfl
theorem PSet.or {X : Cx} {r r' : TSet} (h : PSet X r) (h' : PSet X r') : PSet X (fun o i v H Q => r o i v H Q ∨ r' o i v H Q) := fun pins s σ H o i v ov iv u Q I ro ri rv q => by
  rcases q with q | q
  · exact h pins s σ H o i v ov iv u Q I ro ri rv q
  · exact h' pins s σ H o i v ov iv u Q I ro ri rv q
theorem set_itemA {ip : Nat} {k x : D} {w v iv : V} {K : Unit → Env → Cells → Prop} {KX : Nat → List (Str × D) → Env → Cells → Prop} {Q : Hp → Prop} (r : Rel g F σ H S mu env cs) (p : Post (mMut ip (setA k x) env cs) K KX) (hw : σ[ip]? = some (some w)) (ri : Vo g H S mu iv k) (rx : Rp g S mu v x)
    (q : ∀ env' cs' H', K () env' cs' → Rel g F σ H' S mu env' cs' → Q H') : rSetL w iv v H Q ∨ rSetD w iv v H Q := by
  obtain ⟨a, d, y, d', env', cs', rfl, hA, hf, hk, hr⟩ := mut_post r p hw
  cases d <;> first | (cases hf; done) | skip
  · rename_i ds
    refine .inl ?_
    cases k <;> first | (cases hf; done) | skip
    rename_i i
    have hf : (ixN ds.length i).map (fun j => ((), D.lst (ds.set j x))) = some (y, d') := hf
    cases hj : ixN ds.length i with
    | none => rw [hj] at hf; cases hf
    | some j =>
      rw [hj] at hf
      cases hf
      obtain ⟨vs, h1, h2⟩ := hA
      have hi : iv = .int i := (Vo.dr r.hs ri rfl).int
      exact ⟨a, vs, i, j, rfl, hi, h1, by rw [h2.length]; exact hj, q _ _ _ hk (hr _ ⟨_, upd_same, RpL.set rx j h2⟩)⟩
  · rename_i kvs
    refine .inr ?_
    cases ek : keyD k with
    | none => simp [setA, ek] at hf
    | some kk =>
      have hf : (keyD k).bind (fun kk => if kvs.length < sizeLine then some ((), D.dct (putD kvs kk x)) else none) = some (y, d') := hf
      rw [ek] at hf
      have hf : (if kvs.length < sizeLine then some ((), D.dct (putD kvs kk x)) else none) = some (y, d') := hf
      split at hf
      · rename_i hl
        cases hf
        obtain ⟨vs, h1, h2⟩ := hA
        have hi : iv = kV kk := by
          have e : dr cs k = some k := by cases k <;> first | rfl | cases ek
          exact (Vo.dr r.hs ri e).key ek
        subst hi
        exact ⟨a, _, rfl, .k h1 (by rw [h2.length]; exact hl), q _ _ _ hk (hr _ ⟨_, upd_same, RpK.put h2 rx⟩)⟩
      · cases hf
theorem wSetA {ip : Nat} {mi me : M D} {p2 : Pos} (ho : PE X o (tVar ip)) (hi : PE X i (rdO g F W mi)) (he : PE X e (rdZ g F W me)) (hs : swapsWithSole [.Subscript o i p2] e pos.line X.env = pure false := by rfl) (hw : swappedStores [.Subscript o i p2] e X.env = pure none := by rfl)
    (ha : ∀ v, assign (.Subscript o i p2) X.env v = (do
      let ov ← holding [v] (eval o X.env)
      let iv ← holding [v, ov] (eval i X.env)
      standAt p2
      holding [v, ov, iv] (setItem ov iv v)
      release [v, ov, iv] []) := by intro _; rfl) (hu : X.A.units + 64 < cLine := by assumption) : PS X (.Assign [.Subscript o i p2] e pos) (rdS g F W (mSetA ip mi me)) :=
  PS.imp (ps_asg he (pg_sub ho hi (PSet.or set_list (set_dict (by omega))) ha) hs hw) fun E σ H q => rdS.ex q fun x env1 cs1 v H1 S1 mu1 r1 t1 p1 => by
    rw [PoS.bind] at p1
    obtain ⟨w, d, hw, p1⟩ := post_peek r1 p1
    refine ⟨w, hw, PoS.exG r1 p1 fun k env2 cs2 iv H2 S2 mu2 gr2 r2 t2 p2 => ?_⟩
    rw [PoS.bind] at p2
    exact set_itemA r2 p2 hw t2 (t1.mono gr2.mo) fun env' cs' H' k r3 => k σ H' S2 mu2 r3
end
end EL
namespace EL
open PySem PySem.Spec PyProof.Rows L2

/-! ### dict comprehensions -/
def compP (turn : D → M (Option (Key × D))) : List D → M (List (Key × D))
  | [] => M.pure []
  | d :: ds => (turn d).bind fun o => (compP turn ds).bind fun xs => M.pure (o.toList ++ xs)
def turnP (vs : List Nat) (tg : Tg) (mt : M Bool) (mk me : M D) (d : D) : M (Option (Key × D)) :=
  mWipe vs ((mTg tg d).bind fun _ => mt.bind fun b => if b then mk.bind fun x => me.bind fun y => (M.opt (keyD x)).bind fun k => M.pure (some (k, y)) else M.pure none)
def mCompD (mi : M (List D)) (vs : List Nat) (tg : Tg) (mt : M Bool) (mk me : M D) : M (D × Bool) :=
  mi.bind fun ds => (mBlk vs (compP (turnP vs tg mt mk me) ds)).bind fun xs => M.pure (.dct (mergeD [] xs), true)
theorem mergeD_snoc {ds es : List (Key × D)} {k : Key} {z : D} : mergeD ds (es ++ [(k, z)]) = putD (mergeD ds es) k z := by
  unfold mergeD
  rw [List.foldl_append]
  rfl
theorem putD_len (ds : List (Key × D)) (k : Key) (z : D) : (putD ds k z).length ≤ ds.length + 1 := by
  unfold putD
  split
  · rw [List.length_map]; omega
  · rw [List.length_append]; simp
theorem mergeD_len : ∀ (es ds : List (Key × D)), (mergeD ds es).length ≤ ds.length + es.length
  | [], ds => by simp [mergeD]
  | (k, z) :: es, ds => by
    have h := mergeD_len es (putD ds k z)
    have h2 := putD_len ds k z
    have e : mergeD ds ((k, z) :: es) = mergeD (putD ds k z) es := rfl
    rw [e, List.length_cons]
    omega
section
variable {g : Glob} {F : Ent} {W : WX} {X : Cx}
/-- what a comprehension's run has to end with -/
abbrev CEndD (g : Glob) (F' : Ent) (σ : SS) (H1 S1 : Hp) (mu1 : List Addr) (D0 : Addr) (Q : VK) (zs : List (Key × D)) (e : Env) (c : Cells) : Prop :=
  ∀ H2 S2 mu2, Gr H1 S1 mu1 H2 S2 mu2 → Rel g F' σ H2 S2 mu2 e c → (∃ accV, H2 D0 = some (.dK accV) ∧ RpK g S2 mu2 accV (mergeD [] zs)) → Q (.ref D0) H2
theorem sCompD {kx vx tge iter : Expr} {ifs : List Expr} {scope : Scope} {own : List (Str × Nat)} {pos : Pos} {mi : M (List D)} {tg : Tg} {mt : M Bool} {mk me : M D}
    (hc : X.calm = true) (hN : X.N.Nodup) (hi : PI X tge iter (rdI g F W mi)) (ok : BlkOk X.N X.env.scope scope own)
    (hg : ∀ F (s : Shared) (H : Hp) (C : Addr) (cl : List (Str × Addr)) (fp : List Addr), PG (X.blk s H scope (compEnvC scope cl C X.env) fp) tge (rdG g F WF (own.map (·.2)) (mTg tg)))
    (ht : ∀ F (s : Shared) (H : Hp) (C : Addr) (cl : List (Str × Addr)) (fp : List Addr), PTs (X.blk s H scope (compEnvC scope cl C X.env) fp) ifs (rdT g F WF mt))
    (he : ∀ F (s : Shared) (H : Hp) (C : Addr) (cl : List (Str × Addr)) (fp : List Addr), PE (X.blk s H scope (compEnvC scope cl C X.env) fp) vx (rdZ g F WF me))
    (hk : ∀ F (s : Shared) (H : Hp) (C : Addr) (cl : List (Str × Addr)) (fp : List Addr), PE (X.blk s H scope (compEnvC scope cl C X.env) fp) kx (rdZ g F WF mk)) (hs : ∀ x, foldedSetIterable iter X.env x = pure x) :
    (∀ σ H Q, rdE g F W (mCompD mi (own.map (·.2)) tg mt mk me) σ H Q → tDc (rdI g F W mi) (fun v σ H Q => ∃ F', rdG g F' WF (own.map (·.2)) (mTg tg) v σ H Q) (fun σ H Q => ∃ F', rdT g F' WF mt σ H Q) (fun σ H Q => ∃ F', rdZ g F' WF mk σ H Q) (fun σ H Q => ∃ F', rdZ g F' WF me σ H Q) (own.map (·.2)) σ H Q) := by
  intro σ H Q ⟨S, mu, env, cs, r, q⟩
  generalize hv : own.map (·.2) = vs at *
  have turnLen : True := trivial
  unfold mCompD at q
  rw [Post.bind] at q
  refine ⟨S, mu, env, cs, r, q.on fun ds env1 cs1 p lk J H1 S1 mu1 hsub gr r1' it D0 hD => ?_⟩
  have r1 := r1'.unlk hsub
  rw [Post.bind] at p
  have p := post_blk p
  obtain ⟨F', hF'⟩ : ∃ F' : Ent, F' = ((F.lks lk).at_ S1 mu1).res D0 := ⟨_, rfl⟩
  have hlk : F'.lk = lk := by rw [hF']
  have hrs : D0 ∈ F'.rs := by rw [hF']; exact List.mem_cons_self
  have f1 := r1'.fi
  -- the end
  have fin : ∀ zs e c, (KOf g F σ H S mu (TRes g F σ) Q (.dct (mergeD [] zs), true) (restE env1 e vs) c) → CEndD g F' (wipe σ vs) H1 S1 mu1 D0 Q zs e c := fun zs e c k H2 S2 mu2 gr2 r2 ⟨accV, h1, h2⟩ => by
    rw [hF'] at r2
    obtain ⟨a1, a2, a3, a4⟩ := r2.fi.r D0 List.mem_cons_self
    have r3 : Rel g (F.lks lk) (wipe σ vs) H2 S2 mu2 e c := r2.unres.back f1
    have r4 := (Rel.rest (vs := vs) r1' gr2.mo r3).unlk hsub
    refine k _ H2 S2 mu2 (gr.trans gr2) r4 ⟨D0, rfl, a1, a2, ⟨a3, fun z => ?_⟩, ⟨accV, h1, h2⟩, fun i d' e1 e2 => ?_⟩
    · obtain ⟨_, _, _, o, ho⟩ := r1.fi.r D0 z
      rw [ho] at hD; cases hD
    · rcases restE_at e1 with ⟨z1, z2⟩ | ⟨z1, z2⟩
      · cases q2 : env1[i]? with
        | none => rw [q2] at z2; cases z2
        | some s => rw [q2] at z2; cases s <;> cases z2
      · obtain ⟨a, k1, k2, k3, ⟨k4, k5⟩, k6⟩ := r2.ow i d' z2
        rw [wipe_at, if_neg fun h => z1 h.1, e2] at k1
        cases k1
        exact k5 List.mem_cons_self
  have p0 : Post (compP (turnP vs tg mt mk me) ds (wipeE env1 vs) cs1) (fun zs e c => CEndD g F' (wipe σ vs) H1 S1 mu1 D0 Q zs e c) KF := p.on fun zs e c k => fin zs e c k
  clear p fin
  have rw0 : Rel g F' (wipe σ vs) (L2.upd H1 D0 (.dK [])) S1 mu1 (wipeE env1 vs) cs1 := by
    have u : Up H1 S1 (L2.upd H1 D0 (.dK [])) S1 := Up.new hD (r1.hs.sNone hD)
    have r2 := (u.rel r1').to (F := F.lks lk) (H1 := H1) f1 .refl
    rw [hF']
    refine Rel.res r2.wipe (r1.hs.sNone hD) (r1.hs.notMu hD) (f1.fresh r1.hs hD) ⟨_, upd_same⟩ fun i d e1 e2 => ?_
    obtain ⟨a, k1, _, _, _, k6⟩ := (r1.wipe (vs := vs)).ow i d e1
    rw [e2] at k1
    cases k1
    obtain ⟨o, ho⟩ := k6.has
    rw [ho] at hD; cases hD
  refine ⟨fun i m H' => m = ds.length - i ∧ i ≤ ds.length ∧ ∃ S' mu' env' cs' acc, acc.length ≤ i ∧ Gr H1 S1 mu1 H' S' mu' ∧ Rel g F' (wipe σ vs) H' S' mu' env' cs' ∧ (∃ accV, H' D0 = some (.dK accV) ∧ RpK g S' mu' accV (mergeD [] acc)) ∧
      Post (compP (turnP vs tg mt mk me) (ds.drop i) env' cs') (fun xs e c => CEndD g F' (wipe σ vs) H1 S1 mu1 D0 Q (acc ++ xs) e c) KF,
    ⟨ds.length, by omega, Nat.zero_le _, S1, mu1, _, cs1, [], Nat.le_refl _, Gr.refl.upd hD, rw0, ⟨[], upd_same, .nil⟩, by rw [List.drop_zero]; exact p0.on fun xs e c k => by rw [List.nil_append]; exact k⟩, ?_⟩
  rintro i m H' ⟨rfl, hi', S', mu', env', cs', acc, hacc, gr', r', ⟨accV, ha1, ha2⟩, p'⟩
  by_cases hlt : i < ds.length
  · refine .inr ⟨it.go S' mu' H' i gr'.mo r'.hs.sub (hlk ▸ r'.fi.l) hlt, fun H2 => i + 1 ≤ ds.length ∧ ∃ S' mu' env' cs' acc, acc.length ≤ i + 1 ∧ Gr H1 S1 mu1 H2 S' mu' ∧ Rel g F' (wipe σ vs) H2 S' mu' env' cs' ∧ (∃ accV, H2 D0 = some (.dK accV) ∧ RpK g S' mu' accV (mergeD [] acc)) ∧
        Post (compP (turnP vs tg mt mk me) (ds.drop (i + 1)) env' cs') (fun xs e c => CEndD g F' (wipe σ vs) H1 S1 mu1 D0 Q (acc ++ xs) e c) KF,
      fun H2 h => ⟨ds.length - (i + 1), by omega, rfl, h⟩, fun x H2 y => ?_⟩
    have hd : ds.drop i = ds[i] :: ds.drop (i + 1) := by rw [List.drop_eq_getElem_cons hlt]
    rw [hd] at p'
    have p' : Post ((turnP vs tg mt mk me ds[i]).bind (fun o => (compP (turnP vs tg mt mk me) (ds.drop (i + 1))).bind fun xs => M.pure (o.toList ++ xs)) env' cs') _ KF := p'
    rw [Post.bind] at p'
    have p' := post_wipe p'
    rw [Post.bind] at p'
    obtain ⟨S2, up, rx⟩ := it.yld S' mu' H' i x H2 ds[i] gr'.mo r'.hs.sub (hlk ▸ r'.fi.l) (List.getElem?_eq_getElem hlt) y
    refine ⟨F', S2, mu', env', cs', ds[i], up.rel r', rx, p'.on fun _ env3 cs3 p3 σ3 on3 r3 => ⟨on3.wipe.trans wipe_wipe, F', S2, mu', env3, cs3, r3, ?_⟩⟩
    have gr2 : Gr H1 S1 mu1 H2 S2 mu' := gr'.trans up.gr
    have ha1' : H2 D0 = some (.dK accV) := up.h _ _ ha1
    have ha2' := ha2.mono up.mo
    rw [Post.bind] at p3
    refine (Post.false p3 _).on fun b env4 cs4 p4 v H4 S4 mu4 gr4 r4 t => ?_
    obtain rfl : v = b := t
    have ha4 : H4 D0 = some (.dK accV) := (gr4.h _ _ ha1' (r3.fi.r D0 hrs).2.1).own (r4.fi.r D0 hrs).1
    have toW : ∀ {H S mu e c}, Rel g F' σ3 H S mu e c → Rel g F' (wipe σ vs) H S mu (wipeE e vs) c := fun r => by
      have := r.wipe (vs := vs)
      rw [on3.wipe, wipe_wipe] at this
      exact this
    cases v with
    | false =>
      rw [if_neg (by decide)]
      rw [if_neg (by decide)] at p4
      refine ⟨hlt, S4, mu4, _, cs4, acc, by omega, gr2.trans gr4, toW r4, ⟨accV, ha4, ha2'.mono gr4.mo⟩, ?_⟩
      have p4 : Post ((compP (turnP vs tg mt mk me) (ds.drop (i + 1))).bind (fun xs => M.pure ((none : Option (Key × D)).toList ++ xs)) (wipeE env4 vs) cs4) _ KF := p4
      rw [Post.bind] at p4
      exact p4.on fun xs e c k => k
    | true =>
      rw [if_pos rfl]
      rw [if_pos rfl] at p4
      have p4 : Post ((mk.bind fun x => me.bind fun y => (M.opt (keyD x)).bind fun k => M.pure (some (k, y))) env4 cs4) _ KF := p4
      rw [Post.bind] at p4
      refine ⟨F', S4, mu4, env4, cs4, r4, (Post.false p4 _).on fun ky env5 cs5 p5 wk H5 S5 mu5 gr5 r5 rk => ?_⟩
      have ha5 : H5 D0 = some (.dK accV) := (gr5.h _ _ ha4 (r4.fi.r D0 hrs).2.1).own (r5.fi.r D0 hrs).1
      have p5 : Post ((me.bind fun y => (M.opt (keyD ky)).bind fun k => M.pure (some (k, y))) env5 cs5) _ KF := p5
      rw [Post.bind] at p5
      refine ⟨F', S5, mu5, env5, cs5, r5, (Post.false p5 _).on fun z env6 cs6 p6 w H6 S6 mu6 gr6 r6 rz => ?_⟩
      have ha6 : H6 D0 = some (.dK accV) := (gr6.h _ _ ha5 (r5.fi.r D0 hrs).2.1).own (r6.fi.r D0 hrs).1
      cases ek : keyD ky with
      | none => rw [ek] at p6; exact p6.elim
      | some kk =>
        rw [ek] at p6
        have hkv := keyD_v rk ek
        subst hkv
        have hl5 := ha2'.length
        have hm := mergeD_len acc []
        have hz := it.len
        refine ⟨accV, kk, rfl, ha6, by simp at hm; omega, hlt, S6, mu6, wipeE env6 vs, cs6, acc ++ [(kk, z)], by rw [List.length_append]; simp; omega, ?_, ?_, ⟨putK accV kk w, upd_same, ?_⟩, ?_⟩
        · exact (((gr2.trans gr4).trans gr5).trans gr6).upd hD
        · exact (toW r6).upd hrs fun ob u e => by rw [ha6] at e; cases e
        · rw [mergeD_snoc]
          exact (((ha2'.mono gr4.mo).mono gr5.mo).mono gr6.mo).put rz
        · have p6 : Post ((compP (turnP vs tg mt mk me) (ds.drop (i + 1))).bind (fun xs => M.pure ((some (kk, z)).toList ++ xs)) (wipeE env6 vs) cs6) _ KF := p6
          rw [Post.bind] at p6
          exact p6.on fun xs e c k => by
            rw [List.append_assoc]
            exact k
  · have e : i = ds.length := by omega
    subst e
    refine .inl ⟨it.stop S' mu' H' _ gr'.mo r'.hs.sub (hlk ▸ r'.fi.l) (Nat.le_refl _), ?_⟩
    rw [List.drop_length] at p'
    have p' : CEndD g F' (wipe σ vs) H1 S1 mu1 D0 Q (acc ++ []) env' cs' := p'
    rw [List.append_nil] at p'
    exact p' H' S' mu' gr' r' ⟨accV, ha1, ha2⟩
end

section
variable {g : Glob} {F : Ent} {W : WX} {X : Cx} {a b c e o i : Expr} {es : List Expr} {pos : Pos} {σ : SS} {H S : Hp} {mu : List Addr} {env : Env} {cs : Cells}
theorem sDC {kx vx tge iter : Expr} {ifs : List Expr} {scope : Scope} {own : List (Str × Nat)} {pos : Pos} {mi : M (List D)} {tg : Tg} {mt : M Bool} {mk me : M D}
    (hc : X.calm = true) (hN : X.N.Nodup) (hi : PI X tge iter (rdI g F W mi)) (ok : BlkOk X.N X.env.scope scope own)
    (hg : ∀ F (s : Shared) (H : Hp) (C : Addr) (cl : List (Str × Addr)) (fp : List Addr), PG (X.blk s H scope (compEnvC scope cl C X.env) fp) tge (rdG g F WF (own.map (·.2)) (mTg tg)))
    (ht : ∀ F (s : Shared) (H : Hp) (C : Addr) (cl : List (Str × Addr)) (fp : List Addr), PTs (X.blk s H scope (compEnvC scope cl C X.env) fp) ifs (rdT g F WF mt))
    (hk : ∀ F (s : Shared) (H : Hp) (C : Addr) (cl : List (Str × Addr)) (fp : List Addr), PE (X.blk s H scope (compEnvC scope cl C X.env) fp) kx (rdZ g F WF mk))
    (he : ∀ F (s : Shared) (H : Hp) (C : Addr) (cl : List (Str × Addr)) (fp : List Addr), PE (X.blk s H scope (compEnvC scope cl C X.env) fp) vx (rdZ g F WF me)) (hs : ∀ x, foldedSetIterable iter X.env x = pure x) :
    PE X (.DictComp kx vx [⟨tge, iter, ifs, 0⟩] scope pos) (rdE g F W (mCompD mi (own.map (·.2)) tg mt mk me)) :=
  PE.imp (pe_dc (g := fun v σ H Q => ∃ F', rdG g F' WF (own.map (·.2)) (mTg tg) v σ H Q) (tt := fun σ H Q => ∃ F', rdT g F' WF mt σ H Q) (tk := fun σ H Q => ∃ F', rdZ g F' WF mk σ H Q) (tv := fun σ H Q => ∃ F', rdZ g F' WF me σ H Q) hc hN hi ok
    (fun s H C cl fp => ⟨fun pins s σ H v u Q I r ⟨F', q⟩ => (hg F' _ _ C cl fp).run pins s σ H v u Q I r q⟩) (fun s H C cl fp => ⟨fun pins s σ H Q I ⟨F', q⟩ => (ht F' _ _ C cl fp).run pins s σ H Q I q⟩)
    (fun s H C cl fp => ⟨fun pins s σ H Q I ⟨F', q⟩ => (hk F' _ _ C cl fp).run pins s σ H Q I q⟩)
    (fun s H C cl fp => ⟨fun pins s σ H Q I ⟨F', q⟩ => (he F' _ _ C cl fp).run pins s σ H Q I q⟩) hs) (sCompD (pos := pos) hc hN hi ok hg ht he hk hs)

/-! ### xs.extend(ys) -/
def extD (zs : List D) : D → Option (Unit × D)
  | .lst ds => if ds.length + zs.length ≤ sizeLine then some ((), .lst (ds ++ zs)) else none
  | _ => none
/-- a new list -/
def mNewL (m : M (D × Bool)) : M (List D) := m.bind fun r => M.opt (match r with
  | (.lst ds, true) => some ds
  | _ => none)
/-- a name's own list -/
def mOwnL (ip : Nat) : M (List D) := fun env cs => match env[ip]? with
  | some (.ow (.lst ds)) => .ok ds env cs
  | some (.fz (.cell n)) => match cs[n]? with
    | some (.lst ds) => .ok ds env cs
    | _ => .stuck
  | _ => .stuck
abbrev TOl (g : Glob) : SS → Env → Hp → Hp → List Addr → V → List D → Prop := fun _ _ H S mu v ds => ∃ a vs, v = .ref a ∧ H a = some (.lst vs) ∧ RpL g S mu vs ds
theorem wNewL {m : M (D × Bool)} (h : PE X e (rdE g F W m)) : PE X e (rd g F W (TOl g) (mNewL m)) := PE.imp h fun σ H Q ⟨S, mu, env, cs, r, q⟩ => by
  unfold mNewL at q
  rw [Post.bind] at q
  refine ⟨S, mu, env, cs, r, q.on fun x env1 cs1 k v H1 S1 mu1 gr r1 t => ?_⟩
  obtain ⟨d, fr⟩ := x
  cases fr with
  | false => cases d <;> exact k.elim
  | true =>
    cases d <;> first | exact k.elim | skip
    rename_i ds
    obtain ⟨a, rfl, h1, h2, h3, ⟨vs, h4, h5⟩, h6⟩ := t
    exact k _ H1 S1 mu1 gr r1 ⟨a, vs, rfl, h4, h5⟩
theorem wOwnL {ip : Nat} (h : PE X e (tVar ip)) : PE X e (rd g F W (TOl g) (mOwnL ip)) := PE.imp h fun σ H Q ⟨S, mu, env, cs, r, q⟩ => by
  unfold mOwnL at q
  cases e1 : env[ip]? with
  | none => rw [e1] at q; exact q.elim
  | some sl =>
    rw [e1] at q
    cases sl with
    | no => exact q.elim
    | ow d =>
      cases d <;> first | exact q.elim | skip
      obtain ⟨a, h1, h2, h3, h4, ⟨vs, h5, h6⟩⟩ := r.ow ip _ e1
      exact ⟨_, h1, q _ H S mu .refl r ⟨a, vs, rfl, h5, h6⟩⟩
    | fz d =>
      cases d <;> first | exact q.elim | skip
      rename_i n
      obtain ⟨w, h1, h2⟩ := r.fz ip _ e1
      cases h2 with
      | cell hn =>
        obtain ⟨c, hc, hS, hA⟩ := r.hs.cellAt hn
        simp only [hc] at q
        cases c <;> first | exact q.elim | skip
        obtain ⟨vs, h5, h6⟩ := hA
        exact ⟨_, h1, q _ H S mu .refl r ⟨_, vs, rfl, h5, h6⟩⟩
def mExtend (ip : Nat) (me : M (List D)) : M Fl := (mLook ip isLst).bind fun _ => me.bind fun x => (mMut ip (extD x)).bind fun _ => M.pure .nx
theorem wExtend {ip : Nat} {me : M (List D)} {apos p2 : Pos} (ho : PE X o (tVar ip)) (he : PE X e (rd g F W (TOl g) me)) (hst : ∀ x p, e ≠ .Starred x p := by intros; intro h; cases h) (hbase : attributeBase o "extend" X.env (eval o X.env) = eval o X.env := by rfl)
    (hfew : ((backTo pos (starEach [e] X.env)).all (fun x => !x.1) && (backToKw pos (keywordEach [] X.env)).all (fun x => x.1.isSome)
      && decide (([e] : List Expr).length + ([] : List Keyword).length + (if ([] : List Keyword).isEmpty then 0 else 1) < 30)) = true := by rfl) (hline : (apos.endLine == pos.line) = true := by rfl) (hsw : (swapsWith (.Call (.Attribute o "extend" apos) [e] [] pos) none p2.line X.env) = pure false := by rfl) :
    PS X (.Expr (.Call (.Attribute o "extend" apos) [e] [] pos) p2) (rdS g F W (mExtend ip me)) :=
  PS.imp (ps_expr (pe_bm PySem.F.plainAttrs_list PySem.F.slot_list_extend PySem.F.type_list_extend mt_extend ho (pa_cons he pa_nil (starEach_cons hst)) hbase hfew hline (starEach_cons hst) rfl) (noComp_sw rfl)) fun E σ H ⟨S, mu, env, cs, r, q⟩ => by
    unfold mExtend at q
    rw [PoS.bind] at q
    obtain ⟨ad, d, hσ, hA, hd, q⟩ := look_post r q
    cases d <;> first | (cases hd; done) | skip
    obtain ⟨vs, h1, h2⟩ := hA
    refine ⟨_, hσ, .inl ⟨rfl, vs, .inl (.inl h1)⟩, PoS.exG r q fun x env1 cs1 v H1 S1 mu1 gr1 r1 t1 q1 => ?_⟩
    rw [PoS.bind] at q1
    obtain ⟨a2, d2, y, d3, env2, cs2, ea, hA2, hf, hk, hr⟩ := mut_post r1 q1 hσ
    cases ea
    cases d2 <;> first | (cases hf; done) | skip
    rename_i ds
    have hf : (if ds.length + x.length ≤ sizeLine then some ((), D.lst (ds ++ x)) else none) = some (y, d3) := hf
    split at hf
    · rename_i hl
      cases hf
      obtain ⟨vs2, k1, k2⟩ := hA2
      obtain ⟨b, zs, rfl, k3, k4⟩ := t1
      exact ⟨ad, b, vs2, zs, rfl, rfl, k1, k3, by rw [k2.length, k4.length]; exact hl, hk σ _ S1 mu1 (hr (.lst (vs2 ++ zs)) ⟨_, upd_same, k2.append k4⟩)⟩
    · cases hf
end
end EL
namespace EL
open PySem PySem.Spec PyProof.Rows L2
section
variable {g : Glob} {F : Ent} {W : WX} {X : Cx} {a b c e o i : Expr} {es : List Expr} {pos : Pos} {σ : SS} {H S : Hp} {mu : List Addr} {env : Env} {cs : Cells}
/-! ### xs.index(v) of flat values -/
def flV : D → Option V
  | .non => some .non
  | .bl b => some (.bl b)
  | .int i => some (.int i)
  | .str x => some (.str x)
  | _ => none
def flVs : List D → Option (List V)
  | [] => some []
  | d :: ds => (flV d).bind fun v => (flVs ds).map fun vs => v :: vs
theorem flV_of {v w : V} {d : D} (h : Rp g S mu v d) (e : flV d = some w) : v = w ∧ flatV w = true := by
  cases d <;> first | (cases e; done) | skip
  all_goals (cases e; cases h; exact ⟨rfl, rfl⟩)
theorem flVs_of : ∀ {ds : List D} {vs ws : List V}, RpL g S mu vs ds → flVs ds = some ws → vs = ws ∧ ws.all flatV = true
  | [], _, _, .nil, e => by cases e; exact ⟨rfl, rfl⟩
  | d :: ds, _, ws, .cons h r, e => by
    unfold flVs at e
    cases e1 : flV d with
    | none => rw [e1] at e; cases e
    | some v =>
      rw [e1] at e
      have e : (flVs ds).map (fun vs => v :: vs) = some ws := e
      cases e2 : flVs ds with
      | none => rw [e2] at e; cases e
      | some us =>
        rw [e2] at e
        cases e
        obtain ⟨rfl, h1⟩ := flV_of h e1
        obtain ⟨rfl, h2⟩ := flVs_of r e2
        exact ⟨rfl, by rw [List.all_cons, h1, h2]; rfl⟩
def idxV (y : V) : List V → Option Nat
  | [] => none
  | z :: zs => if eqV z y then some 0 else (idxV y zs).map (· + 1)
theorem idxV_of {y : V} : ∀ {zs : List V} {j : Nat}, idxV y zs = some j → ∃ z, zs[j]? = some z ∧ eqV z y = true ∧ ∀ (m : Nat) (z' : V), m < j → zs[m]? = some z' → eqV z' y = false
  | [], _, e => by cases e
  | z :: zs, j, e => by
    unfold idxV at e
    by_cases h : eqV z y = true
    · rw [if_pos h] at e
      cases e
      exact ⟨z, rfl, h, fun m z' hm => absurd hm (by omega)⟩
    · rw [if_neg h] at e
      cases e1 : idxV y zs with
      | none => rw [e1] at e; cases e
      | some k =>
        rw [e1] at e
        cases e
        obtain ⟨z2, h1, h2, h3⟩ := idxV_of e1
        refine ⟨z2, h1, h2, fun m z' hm hz => ?_⟩
        cases m with
        | zero =>
          cases hz
          simpa using h
        | succ m => exact h3 m z' (Nat.lt_of_succ_lt_succ hm) hz
def opIdxL (o d : D) : Option (D × Bool) := match o with
  | .lst ds => (flVs ds).bind fun vs => (flV d).bind fun v => (idxV v vs).map fun j => (.int (j : Nat), false)
  | _ => none
def mIndex (mo me : M D) : M (D × Bool) := mo.bind fun x => match x with
  | .lst ds => me.bind fun d => mCs fun _ => opIdxL (.lst ds) d
  | _ => M.stuck
theorem wIndex {mo me : M D} {apos : Pos} (ho : PE X o (rdO g F W mo)) (he : PE X e (rdZ g F W me)) (hst : ∀ x p, e ≠ .Starred x p := by intros; intro h; cases h) (hbase : attributeBase o "index" X.env (eval o X.env) = eval o X.env := by rfl)
    (hfew : ((backTo pos (starEach [e] X.env)).all (fun x => !x.1) && (backToKw pos (keywordEach [] X.env)).all (fun x => x.1.isSome)
      && decide (([e] : List Expr).length + ([] : List Keyword).length + (if ([] : List Keyword).isEmpty then 0 else 1) < 30)) = true := by rfl) (hline : (apos.endLine == pos.line) = true := by rfl) (hK : X.K = g.K := by rfl) :
    PE X (.Call (.Attribute o "index" apos) [e] [] pos) (rdE g F W (mIndex mo me)) :=
  PE.imp (pe_bm PySem.F.plainAttrs_list PySem.F.slot_list_index PySem.F.type_list_index mt_index ho (pa_cons he pa_nil (starEach_cons hst)) hbase hfew hline (starEach_cons hst) rfl) fun σ H Q q => rd_bind q fun x env1 cs1 v H1 S1 mu1 va r1 => by
    cases x <;> first | exact r1.2.elim | skip
    rename_i ds
    obtain ⟨p, vs, rfl, h1, h2⟩ := (Vo.dr r1.1.hs va (rfl : dr cs1 (.lst ds) = some (.lst ds))).lst r1.1.hs
    refine ⟨.inl ⟨rfl, vs, hK.symm ▸ h1⟩, (RA.bind r1 fun d env2 cs2 w H2 S2 mu2 gr vb r2 => ?_).rd⟩
    obtain ⟨y, ey, k⟩ := r2.cs
    obtain ⟨p', vs', ep, h3, h4⟩ := (Vo.dr r2.1.hs (va.keep gr r1.1.hs) (rfl : dr cs2 (.lst ds) = some (.lst ds))).lst r2.1.hs
    cases ep
    have ey : (flVs ds).bind (fun vs => (flV d).bind fun v => (idxV v vs).map fun j => (D.int (j : Nat), false)) = some y := ey
    cases e1 : flVs ds with
    | none => rw [e1] at ey; cases ey
    | some us =>
      rw [e1] at ey
      have ey : (flV d).bind (fun v => (idxV v us).map fun j => (D.int (j : Nat), false)) = some y := ey
      cases e2 : flV d with
      | none => rw [e2] at ey; cases ey
      | some u =>
        rw [e2] at ey
        have ey : (idxV u us).map (fun j => (D.int (j : Nat), false)) = some y := ey
        cases e3 : idxV u us with
        | none => rw [e3] at ey; cases ey
        | some j =>
          rw [e3] at ey
          cases ey
          obtain ⟨rfl, f1⟩ := flV_of vb e2
          obtain ⟨rfl, f2⟩ := flVs_of h4 e1
          obtain ⟨z, z1, z2, z3⟩ := idxV_of e3
          exact ⟨p, vs', _, j, z, rfl, rfl, hK.symm ▸ h3, f1, f2, z1, z2, z3, k _ _ _ (.val (.int _))⟩
end
end EL
namespace EL
open PySem PySem.Spec PyProof.Rows L2
section
variable {g : Glob} {F : Ent} {W : WX} {X : Cx} {a b c e o i : Expr} {es : List Expr} {pos : Pos} {σ : SS} {H S : Hp} {mu : List Addr} {env : Env} {cs : Cells}
/-! ### a, b = x, y, new objects stay new -/
def mPar2 (i j : Nat) (ma mb : M (D × Bool)) : M Fl := ma.bind fun x => mb.bind fun y => (mPut i x).bind fun _ => (mPut j y).bind fun _ => M.pure .nx
theorem wPar2 {i j : Nat} {x y : Str} {ma mb : M (D × Bool)} {px py pt : Pos} {kt k2 pt2} (hN : X.N.Nodup) (ha : PE X a (rdE g F W ma)) (hb : ∀ F, PE X b (rdE g F W mb)) (hi : X.N[i]? = some x := by rfl) (hj : X.N[j]? = some y := by rfl)
    (hsa : ∀ x p, a ≠ .Starred x p := by intros; intro h; cases h) (hsb : ∀ x p, b ≠ .Starred x p := by intros; intro h; cases h)
    (hw : swappedStores [.Tuple [.Name x px, .Name y py] kt pt] (.Tuple [a, b] k2 pt2) X.env = pure (some [x, y]) := by rfl) (hs : swapsWithSole [.Tuple [.Name x px, .Name y py] kt pt] (.Tuple [a, b] k2 pt2) pos.line X.env = pure false := by rfl)
    (hij : i ≠ j := by decide) (hx : X.env.scope.names.lookup x = some .local := by rfl) (hy : X.env.scope.names.lookup y = some .local := by rfl) (hc : X.calm = true := by rfl) :
    PS X (.Assign [.Tuple [.Name x px, .Name y py] kt pt] (.Tuple [a, b] k2 pt2) pos) (rdS g F W (mPar2 i j ma mb)) :=
  PS.imp (ps_par hc hN hi hj hij hx hy (pa_cons ha (pa_cons (t := tNil) (te := fun σ H Q => ∃ F, rdE g F W mb σ H Q) ⟨fun pins s σ H Q I ⟨F, q⟩ => (hb F).run pins s σ H Q I q⟩ pa_nil (starEach_cons hsb)) (starEach_cons hsa)) hw hs) fun E σ H q => rdS.ex q fun x env1 cs1 v H1 S1 mu1 r1 t1 p1 => by
    obtain ⟨d, fr⟩ := x
    cases fr with
    | false =>
      refine ⟨F, PoS.exG r1 p1 fun y env2 cs2 w H2 S2 mu2 gr2 r2 t2 p2 => ?_⟩
      obtain ⟨h1, p2⟩ := p2.put
      obtain ⟨h2, p2⟩ := p2.put
      have t1 : Rp g S1 mu1 v d := t1
      have ra := r2.putZ h1 (t1.mono gr2.mo)
      refine ⟨_, _, rfl, p2 _ H2 S2 mu2 (ra.put h2 ?_)⟩
      obtain ⟨d2, fr2⟩ := y
      cases fr2 with
      | false => exact t2
      | true =>
        obtain ⟨ad, rfl, k1, k2, k3, k4, k5⟩ := t2
        refine ⟨ad, rfl, k1, k2, k3, k4, fun n d' e1 e2 => ?_⟩
        by_cases hn : n = i
        · subst hn
          rw [List.getElem?_set_self h1] at e1
          cases e1
        · rw [List.getElem?_set_ne (Ne.symm hn)] at e1 e2
          exact k5 n d' e1 e2
    | true =>
      obtain ⟨ad, rfl, k1, k2, ⟨k3, k3'⟩, k4, k5⟩ := t1
      have rr := Rel.res r1 k1 k2 k3 k4.has k5
      rw [PoS.bind] at p1
      refine ⟨F.res ad, S1, mu1, env1, cs1, rr, Post.mono p1 (fun y env2 cs2 p2 w H2 S2 mu2 gr2 r2 t2 => ?_) fun k fs e c z => fun dx H' S' mu' r' x hn => z σ dx H' S' mu' r'.unres x ⟨hn.1, fun q => hn.2 (List.mem_cons_of_mem _ q)⟩⟩
      obtain ⟨h1, p2⟩ := PoS.put (F := F) p2
      obtain ⟨h2, p2⟩ := p2.put
      obtain ⟨z1, z2, z3, z4⟩ := r2.fi.r ad List.mem_cons_self
      have own1 : Res g F σ env2 H2 S2 mu2 (.ref ad) d true := by
        refine ⟨ad, rfl, z1, z2, ⟨k3, k3'⟩, k4.keep gr2.mo fun o ho => (gr2.h _ _ ho k2).own z1, fun n d' e1 e2 => ?_⟩
        obtain ⟨a', q1, _, _, ⟨_, q2⟩, _⟩ := r2.ow n d' e1
        rw [e2] at q1
        cases q1
        exact q2 List.mem_cons_self
      have ra := (r2.unres).put (x := (d, true)) h1 own1
      refine ⟨_, _, rfl, p2 _ H2 S2 mu2 (ra.put h2 ?_)⟩
      obtain ⟨d2, fr2⟩ := y
      cases fr2 with
      | false => exact t2
      | true =>
        obtain ⟨ad2, rfl, q1, q2, ⟨q3, q3'⟩, q4, q5⟩ := t2
        refine ⟨ad2, rfl, q1, q2, ⟨q3, fun z => q3' (List.mem_cons_of_mem _ z)⟩, q4, fun n d' e1 e2 => ?_⟩
        by_cases hn : n = i
        · subst hn
          rw [List.getElem?_set_self (by rw [← r2.len]; exact h1)] at e2
          cases e2
          exact q3' List.mem_cons_self
        · rw [List.getElem?_set_ne (Ne.symm hn)] at e1 e2
          exact q5 n d' e1 e2
/-! ### classes: lists of candidates -/
theorem attr_nil {f : Str} : AttrOk g X f [] := fun c k e => by cases e
theorem attr_fld {f : Str} {c : Nat} {cands : Cand} (hc : Cls X.K (g.ca c)) (hn : NoAttr X.K (g.ca c) f) (r : AttrOk g X f cands) : AttrOk g X f ((c, none) :: cands) := fun c' k e => by
  rw [List.lookup_cons] at e
  by_cases h : c' = c
  · subst h
    simp at e
    cases e
    exact ⟨hc, hn⟩
  · have : (c' == c) = false := by simpa using h
    rw [this] at e
    exact r c' k e
theorem attr_prp {f : Str} {c k kk : Nat} {cands : Cand} {p gg : Addr} {fd : FuncData} {ps : List Str} {φ : Phi} (hc : Cls X.K (g.ca c)) (P : PropOf X.K (g.ca c) f p gg) (G : FnG X.prog X.w X.K X.mg X.base (L2.CX X.prog X.w) k gg fd ps (spF g ps.length φ)) (B : L2.Binds X.K fd ps []) (hr : Room kk X.A) (hle : k + 1 ≤ kk := by decide) (r : AttrOk g X f cands)
    (h1 : ps.length = 1 := by rfl) : AttrOk g X f ((c, some φ) :: cands) := fun c' k' e => by
  rw [List.lookup_cons] at e
  by_cases h : c' = c
  · subst h
    simp at e
    cases e
    exact ⟨hc, hc, p, gg, k, fd, ps, P, h1 ▸ G, hr.mono hle, B⟩
  · have : (c' == c) = false := by simpa using h
    rw [this] at e
    exact r c' k' e
theorem meth_nil {k n : Nat} {ks : List Str} {m : Str} : MethOk g X k n ks m [] := fun c sh φ e => by cases e
theorem meth_cons {k n : Nat} {ks : List Str} {m : Str} {c j : Nat} {sh : List Src} {φ : Phi} {cands : MCand} {f : Addr} {fd : FuncData} {ps : List Str} {gU : List Value → List Value → List Value} (hc : Cls X.K (g.ca c)) (hm : Meth X.K (g.ca c) m f)
    (G : FnG X.prog X.w X.K X.mg X.base (L2.CX X.prog X.w) j f fd ps (spF g ps.length φ)) (B : KBn X.K fd ps (n + 1) ks gU (arrV (.p 0 :: sh.map shf))) (hd : DflOk g sh) (r : MethOk g X k n ks m cands) (hle : j ≤ k := by decide) (hs : sh.length + 1 = ps.length := by rfl) : MethOk g X k n ks m ((c, sh, φ) :: cands) := fun c' sh' φ' e => by
  rw [List.lookup_cons] at e
  by_cases h : c' = c
  · subst h
    simp at e
    obtain ⟨rfl, rfl⟩ := e
    exact ⟨hc, hd, f, fd, ps, gU, hm, G.mono hle, B, hs⟩
  · have : (c' == c) = false := by simpa using h
    rw [this] at e
    exact r c' sh' φ' e
end

end EL
namespace EL
open PySem PySem.Spec PyProof.Rows L2
/-- a method, a property's getter -/
theorem mth_ok {g : Glob} {base : Heap} {k : Nat} {N ps : List Str} {x qual : Str} {params : Arguments} {body : List Stmt} {scope : Scope} {dvs : List V} {kws : List (Str × V)} {f : Addr} {fd : FuncData} {m : M Fl} (F : FunD g.K x qual params body scope dvs kws f fd) (S : FnScope N ps scope)
    (b : BodyOk g base k N qual scope f body m) : FnG g.P g.w g.K g.mg base (L2.CX g.P g.w) (k + 1) f fd ps (spF g ps.length (runDef N.length m)) :=
  fn_ofG F S (fun vs H Q E h => h.1) fun cdv A outer s H vs Q E hr hgd h => by
    obtain ⟨Fe, q⟩ := run_start h
    exact ⟨_, b cdv A outer s H E Fe hr hgd, q⟩
end EL
namespace EL
open PySem PySem.Spec L2
/-! ### runs, step by step: classes, dicts, .. -/
section
variable {α β : Type} {e : Env} {c : Cells} {ds : List D} {kvs : List (Key × D)} {k x d : D}
@[simp] theorem keyD_int {i : Int} : keyD (.int i) = some (.inl i) := rfl
@[simp] theorem keyD_str {s : Str} : keyD (.str s) = some (.inr s) := rfl
@[simp] theorem setA_lst : setA k x (.lst ds) = setD k x (.lst ds) := rfl
@[simp] theorem setA_dct : setA k x (.dct kvs) = (keyD k).bind fun kk => if kvs.length < sizeLine then some ((), .dct (putD kvs kk x)) else none := rfl
@[simp] theorem ap_setA {ip : Nat} {mi me : M D} : mSetA ip mi me e c = M.bind me (fun x => (mPeek ip).bind fun _ => mi.bind fun k => (mMut ip (setA k x)).bind fun _ => M.pure .nx) e c := rfl
@[simp] theorem ap_par2 {i j : Nat} {ma mb : M (D × Bool)} : mPar2 i j ma mb e c = M.bind ma (fun x => mb.bind fun y => (mPut i x).bind fun _ => (mPut j y).bind fun _ => M.pure .nx) e c := rfl
@[simp] theorem ap_look {ip : Nat} {p : D → Bool} : mLook ip p e c = (match e[ip]? with
  | some (.ow d) => if p d then .ok () e c else .stuck
  | some (.fz (.cell n)) => (match c[n]? with
    | some d => if p d then .ok () e c else .stuck
    | none => .stuck)
  | _ => .stuck) := rfl
@[simp] theorem isLst_lst : isLst (.lst ds) = true := rfl
@[simp] theorem ap_append {ip : Nat} {me : M D} : mAppend ip me e c = M.bind (mLook ip isLst) (fun _ => me.bind fun x => (mMut ip (appD x)).bind fun _ => M.pure .nx) e c := rfl
@[simp] theorem appD_lst : appD x (.lst ds) = if ds.length < sizeLine then some ((), .lst (ds ++ [x])) else none := rfl
@[simp] theorem ap_extend {ip : Nat} {me : M (List D)} : mExtend ip me e c = M.bind (mLook ip isLst) (fun _ => me.bind fun x => (mMut ip (extD x)).bind fun _ => M.pure .nx) e c := rfl
@[simp] theorem extD_lst {zs : List D} : extD zs (.lst ds) = if ds.length + zs.length ≤ sizeLine then some ((), .lst (ds ++ zs)) else none := rfl
def newL : D × Bool → Option (List D)
  | (.lst ds, true) => some ds
  | _ => none
@[simp] theorem newL_lst : newL (.lst ds, true) = some ds := rfl
@[simp] theorem ap_newL {m : M (D × Bool)} : mNewL m e c = M.bind m (fun r => M.opt (newL r)) e c := rfl
@[simp] theorem ap_ownL {ip : Nat} : mOwnL ip e c = (match e[ip]? with
  | some (.ow (.lst ds)) => .ok ds e c
  | some (.fz (.cell n)) => (match c[n]? with
    | some (.lst ds) => .ok ds e c
    | _ => .stuck)
  | _ => .stuck) := rfl
def indexK (me : M D) (x : D) : M (D × Bool) := match x with
  | .lst ds => me.bind fun d => mCs fun _ => opIdxL (.lst ds) d
  | _ => M.stuck
@[simp] theorem ap_index {mo me : M D} : mIndex mo me e c = M.bind mo (indexK me) e c := rfl
@[simp] theorem ap_indexK {me : M D} : indexK me (.lst ds) e c = M.bind me (fun d => mCs fun _ => opIdxL (.lst ds) d) e c := rfl
@[simp] theorem idxL_lst : opIdxL (.lst ds) d = (flVs ds).bind fun vs => (flV d).bind fun v => (idxV v vs).map fun j => (.int (j : Nat), false) := rfl
@[simp] theorem ap_compD {mi : M (List D)} {vs : List Nat} {tg : Tg} {mt : M Bool} {mk me : M D} : mCompD mi vs tg mt mk me e c = M.bind mi (fun ds => (mBlk vs (compP (turnP vs tg mt mk me) ds)).bind fun xs => M.pure (.dct (mergeD [] xs), true)) e c := rfl
@[simp] theorem ap_turnP {vs : List Nat} {tg : Tg} {mt : M Bool} {mk me : M D} {d : D} : turnP vs tg mt mk me d e c = (match M.bind (mTg tg d) (fun _ => mt.bind fun b => if b then mk.bind fun x => me.bind fun y => (M.opt (keyD x)).bind fun k => M.pure (some (k, y)) else M.pure none) e c with
  | .ok a e' c' => .ok a (wipeE e' vs) c'
  | _ => .stuck) := by
  unfold turnP mWipe
  cases M.bind (mTg tg d) (fun _ => mt.bind fun b => if b then mk.bind fun x => me.bind fun y => (M.opt (keyD x)).bind fun k => M.pure (some (k, y)) else M.pure none) e c <;> rfl
@[simp] theorem dctD_dct : dctD (.dct kvs) = some kvs := rfl
@[simp] theorem ap_walk {f : Key × D → D} {m : M D} : mWalk f m e c = M.bind m (fun d => M.opt ((dctD d).bind fun kvs => if kvs.length ≤ sizeLine then some (kvs.map f) else none)) e c := rfl
@[simp] theorem ap_attr {cands : Cand} {f : Str} {mo : M D} : mAttr cands f mo e c = M.bind mo (attrK cands f) e c := rfl
@[simp] theorem ap_attrK {cands : Cand} {f : Str} {n : Nat} {fs : List (Str × D)} : attrK cands f (.ins n fs) e c = (match cands.lookup n with
  | some none => M.opt ((fs.lookup f).map fun d => (d, false)) e c
  | some (some φ) => mPhi0 φ [.ins n fs] e c
  | none => .stuck) := rfl
@[simp] theorem ap_phi0 {φ : Phi} : mPhi0 φ ds e c = (match φ ds c with
  | .ok d fr c => .ok (d, fr) e c
  | _ => .stuck) := rfl
@[simp] theorem ap_methF {m : Str} {cands : MCand} {mo : M D} {mp mk : M (List D)} : mMethF m cands mo mp mk e c = M.bind mo (fun o => (mNoF m o).bind fun _ => (mCls o).bind fun c => methK cands mp mk o c) e c := rfl
@[simp] theorem ap_noF {m : Str} {n : Nat} {fs : List (Str × D)} : mNoF m (.ins n fs) e c = if (fs.lookup m).isNone then .ok () e c else .stuck := rfl
@[simp] theorem ap_cls {n : Nat} {fs : List (Str × D)} : mCls (.ins n fs) e c = .ok n e c := rfl
@[simp] theorem ap_methK {cands : MCand} {mp mk : M (List D)} {o : D} {n : Nat} : methK cands mp mk o n e c = (match cands.lookup n with
  | some (sh, φ) => M.bind mp (fun ds => mk.bind fun es => mPhi φ (o :: arrD sh ds es)) e c
  | none => .stuck) := by
  unfold methK
  cases cands.lookup n <;> rfl
@[simp] theorem ap_stF {ip n : Nat} {f : Str} {me : M D} : mStF ip n f me e c = M.bind me (fun x => (mPeek ip).bind fun _ => (mMut ip (stFD n f x)).bind fun _ => M.pure .nx) e c := rfl
@[simp] theorem stFD_slf {a : Addr} {n m : Nat} {f : Str} {fs : List (Str × D)} : stFD n f x (.slf a m fs) = if m = n ∧ fs.length < 900 then some ((), .slf a m (putFD f x fs)) else none := rfl
end
/-! dict comprehensions over known rows -/
theorem compP_if {α : Type} {turn : D → M (Option (Key × D))} {h : α → D} {k : α → Key × D} {p : α → Bool} {env : Env} {cs : Cells} : ∀ (l : List α), (∀ x ∈ l, turn (h x) env cs = .ok (if p x then some (k x) else none) env cs) → compP turn (l.map h) env cs = .ok ((l.filter p).map k) env cs
  | [], _ => rfl
  | x :: l, ht => by
    have ih := compP_if (turn := turn) (h := h) (k := k) (p := p) (env := env) (cs := cs) l fun y hy => ht y (List.mem_cons_of_mem _ hy)
    have h1 := ht x List.mem_cons_self
    show M.bind (turn (h x)) (fun o => (compP turn (l.map h)).bind fun xs => M.pure (o.toList ++ xs)) env cs = _
    rw [ap_bind, h1]
    simp only [ap_bind, ih, ap_pure]
    cases hp : p x with
    | true => simp [hp]
    | false => simp [hp]
theorem compP_map {α : Type} {turn : D → M (Option (Key × D))} {h : α → D} {k : α → Key × D} {env : Env} {cs : Cells} (l : List α) (ht : ∀ x ∈ l, turn (h x) env cs = .ok (some (k x)) env cs) : compP turn (l.map h) env cs = .ok (l.map k) env cs := by
  have := compP_if (turn := turn) (h := h) (k := k) (p := fun _ => true) (env := env) (cs := cs) l fun x hx => by rw [ht x hx]; rfl
  rw [this, List.filter_eq_self.mpr fun _ _ => rfl]
/-! keys all different -/
theorem putD_new {kvs : List (Key × D)} {k : Key} {v : D} (h : ∀ p ∈ kvs, p.1 ≠ k) : putD kvs k v = kvs ++ [(k, v)] := by
  unfold putD
  rw [if_neg]
  simp only [List.any_eq_true, decide_eq_true_eq, not_exists, not_and]
  exact h
theorem mergeD_new : ∀ (es ds : List (Key × D)), ((ds ++ es).map (·.1)).Nodup → mergeD ds es = ds ++ es
  | [], ds, _ => by simp [mergeD]
  | (k, v) :: es, ds, h => by
    have e : mergeD ds ((k, v) :: es) = mergeD (putD ds k v) es := rfl
    rw [e, putD_new, mergeD_new es (ds ++ [(k, v)])]
    · simp
    · simpa using h
    · intro p hp hk
      rw [List.map_append, List.nodup_append] at h
      exact h.2.2 p.1 (List.mem_map.mpr ⟨p, hp, rfl⟩) k (by simp) hk
theorem valD_at {β : Type} {f : β → Key} {g : β → D} : ∀ {l : List β} {b : β}, (l.map f).Nodup → b ∈ l → valD (l.map fun b => (f b, g b)) (f b) = some (g b)
  | [], _, _, h => by cases h
  | a :: l, b, hn, h => by
    obtain ⟨h1, h2⟩ := List.nodup_cons.mp hn
    rcases List.mem_cons.mp h with rfl | h
    · simp [valD]
    · have hne : f a ≠ f b := fun e => h1 (e ▸ List.mem_map.mpr ⟨b, h, rfl⟩)
      have ih := valD_at (g := g) h2 h
      simp only [valD, List.map_cons, List.find?_cons] at ih ⊢
      simp [hne]
      simpa using ih
theorem srtD_perm (ds : List D) : (srtD ds).Perm ds := List.mergeSort_perm _ _
end EL
namespace EL
open PySem PySem.Spec L2
/-! ### sorted, of plain data; slices from the front -/
theorem pDs_of {α : Type} {h : α → D} {k : α → PyData} (hk : ∀ x, pD (h x) = some (k x)) : ∀ l : List α, pDs (l.map h) = some (l.map k)
  | [] => rfl
  | x :: l => by
    show (pD (h x)).bind (fun y => (pDs (l.map h)).map fun xs => y :: xs) = _
    rw [hk x, pDs_of hk l]
    rfl
theorem okSort_of' {α : Type} {h : α → D} {k : α → PyData} (hk : ∀ x, pD (h x) = some (k x)) (ha : ∀ x y, PySem.W.alike (k x) (k y) = true) (hn : ∀ x, isNn (k x) = false) (hd : ∀ x, (k x).depth ≤ 40) {l : List α} (hl : l.length ≤ sizeLine) : okSort (l.map h) = true := by
  unfold okSort
  rw [pDs_of hk l]
  have z1 : (l.map k).all (fun x => (l.map k).all fun y => PySem.W.alike x y) = true := by simp [List.all_eq_true, ha]
  have z2 : (l.map k).all (fun x => !isNn x) = true := by simp [List.all_eq_true, hn]
  have z3 : (l.map k).all (fun x => decide (x.depth ≤ 40)) = true := by simp [List.all_eq_true, hd]
  simp only [z1, z2, z3, Bool.or_true, Bool.and_true, Bool.true_and, decide_eq_true_eq, List.length_map]
  exact hl
theorem fSort_int {L : List Int} (hl : L.length ≤ sizeLine) : fSort [.lst (L.map .int)] = some (.lst ((sortI L).map .int), true) := by
  have ok : okSort (L.map .int) = true := okSort_of' (k := fun i => .int i) (fun _ => rfl) (fun _ _ => rfl) (fun _ => rfl) (fun _ => Nat.zero_le _) hl
  show (if okSort (L.map .int) then some (D.lst (srtD (L.map .int)), true) else none) = _
  rw [if_pos ok, srtD_int]
theorem fSort_str {L : List Str} (hl : L.length ≤ sizeLine) : fSort [.lst (L.map .str)] = some (.lst ((sortS L).map .str), true) := by
  have ok : okSort (L.map .str) = true := okSort_of' (k := fun i => .str i) (fun _ => rfl) (fun _ _ => rfl) (fun _ => rfl) (fun _ => Nat.zero_le _) hl
  show (if okSort (L.map .str) then some (D.lst (srtD (L.map .str)), true) else none) = _
  rw [if_pos ok, srtD_str]
theorem keysS_map {α : Type} {f : α → Str} {h : α → D} : ∀ l : List α, keysS (l.map fun x => (.inr (f x), h x)) = some (l.map f)
  | [] => rfl
  | x :: l => by
    show (keysS (l.map fun x => (.inr (f x), h x))).map (fun xs => f x :: xs) = _
    rw [keysS_map l]
    rfl
theorem fSortD_str {α : Type} {f : α → Str} {h : α → D} {l : List α} (hl : l.length < 64) : orN fSort fSortD [.dct (l.map fun x => (.inr (f x), h x))] = some (.lst ((sortS (l.map f)).map .str), true) := by
  show (match keysS (l.map fun x => (.inr (f x), h x)) with
    | some xs => if xs.length < 64 then some (D.lst ((sortS xs).map .str), true) else none
    | none => match keysI (l.map fun x => (.inr (f x), h x)) with
      | some xs => if xs.length < 64 then some (.lst ((sortI xs).map .int), true) else none
      | none => none) = _
  rw [keysS_map]
  simp [hl]
theorem orN_l {f f' : Fn} {ds : List D} {x : D × Bool} (h : f ds = some x) : orN f f' ds = some x := by
  unfold orN
  rw [h]
theorem cut_take {ds : List D} {k : Nat} (h : k ≤ ds.length) : cutD ds none (some (k : Int)) = ds.take k := by
  have e1 : HT.sIx ds.length 0 none = 0 := rfl
  have e3 : HT.sIx ds.length ds.length (some (k : Int)) = k := by
    have hn : ¬ (k : Int) < 0 := by omega
    simp [HT.sIx, hn]
    omega
  unfold cutD
  rw [e1, e3]
  simp
theorem cut_drop {ds : List D} {k : Nat} (h : k ≤ ds.length) : cutD ds (some (k : Int)) none = ds.drop k := by
  have e2 : HT.sIx ds.length ds.length none = ds.length := rfl
  have e4 : HT.sIx ds.length 0 (some (k : Int)) = k := by
    have hn : ¬ (k : Int) < 0 := by omega
    simp only [HT.sIx, hn, if_false]
    omega
  unfold cutD
  rw [e2, e4]
  exact List.take_of_length_le (by simp)
end EL
namespace K81
open PySem PySem.Spec L2 EL
def nn__law_draw : List Str := [(Str.ofString "_law_pot_here"), (Str.ofString "_law_size"), (Str.ofString "_law_digit")]
noncomputable def m__law_draw : M Fl := (mSeq (mIf (mBl (mOp2 (dr2 opGt) (mZ (mOp2 (dr2 opItem) (mPeek 0) (M.pure (.int 0)))) (M.pure (.int 0)))) (mSeq (mPot 0 2 (M.pure (.int 0)) (mZ (mOpN (drN fDivmod) (mCons (mZ (mOp2 (dr2 opItem) (mPeek 0) (M.pure (.int 0)))) (mCons (mPeek 1) (M.pure []))))))
    (mSeq (mRet (mE (mVar 2)))
    (M.pure .nx))) (M.pure .nx))
    (mSeq (mSetA 0 (M.pure (.int 1)) (mZ (mOp2 (dr2 opMod) (mZ (mOpN (drN fInt) (mCons (mZ (mOp2 (dr2 opAdd) (mZ (mOp2 (dr2 opMul) (mZ (mOp2 (dr2 opItem) (mPeek 0) (M.pure (.int 1)))) (M.pure (.int 48271)))) (M.pure (.int 12437)))) (M.pure [])))) (M.pure (.int 2147483587)))))
    (mSeq (mRet (mOp2 (dr2 opMod) (mZ (mOpN (drN fInt) (mCons (mZ (mOp2 (dr2 opFdiv) (mZ (mOp2 (dr2 opMod) (mZ (mOpN (drN fInt) (mCons (mZ (mOp2 (dr2 opMul) (mZ (mOp2 (dr2 opItem) (mPeek 0) (M.pure (.int 1)))) (mZ (mOp2 (dr2 opItem) (mPeek 0) (M.pure (.int 1)))))) (M.pure [])))) (M.pure (.int 2147483549)))) (M.pure (.int 17)))) (M.pure [])))) (mPeek 1)))
    (M.pure .nx))))
noncomputable def ph__law_draw : Phi := runDef 3 m__law_draw
def nn__law_drawn_sorts : List Str := [(Str.ofString "_law_pot_here"), (Str.ofString "_law_size"), (Str.ofString "_law_top"), (Str.ofString "_law_turn")]
noncomputable def m__law_drawn_sorts : M Fl := (mSeq (mRet (mComp (mRng1 (mCons (mZ (mOp2 (dr2 opAdd) (M.pure (.int 1)) (mZ (mCall ph__law_draw [.p 0, .p 1] (mCons (mVar 0) (mCons (M.pure (.int 3)) (M.pure []))) (M.pure []))))) (M.pure []))) [3] (.name 3) (M.pure true) (mZ (mTup (mCons (mZ (mCall ph__law_draw [.p 0, .p 1] (mCons (mVar 0) (mCons (mZ (mOp2 (dr2 opAdd) (mPeek 1) (M.pure (.int 1)))) (M.pure []))) (M.pure []))) (mCons (mZ (mCall ph__law_draw [.p 0, .p 1] (mCons (mVar 0) (mCons (mZ (mOp2 (dr2 opAdd) (mPeek 2) (M.pure (.int 1)))) (M.pure []))) (M.pure []))) (M.pure [])))))))
    (M.pure .nx))
noncomputable def ph__law_drawn_sorts : Phi := runDef 4 m__law_drawn_sorts
def nn__law_put : List Str := [(Str.ofString "_law_sorts_now"), (Str.ofString "_law_many_now"), (Str.ofString "_law_copies_now"), (Str.ofString "_law_left"), (Str.ofString "_law_turn"), (Str.ofString "_law_size"), (Str.ofString "_law_room_now")]
noncomputable def m__law_put : M Fl := (mSeq (mSet 3 (mLst (M.pure [])))
    (mSeq (mFor (mItems (mVar 0)) (.tup [(.name 5), (.name 6)]) (mSeq (mSet 3 (mOp2 (dr2 opAdd) (mPeek 3) (mZ (mOp2 (dr2 opMul) (mZ (mLst (mCons (mVar 6) (M.pure [])))) (mPeek 5)))))
    (M.pure .nx)))
    (mSeq (mFor (mRng1 (mCons (mVar 1) (M.pure []))) (.name 4) (mSeq (mSet 3 (mOp1 fRev (mZ (mOpN (drN (orN fSort fSortD)) (mCons (mPeek 3) (M.pure []))))))
    (mSeq (mIf (mOr (mBl (mOp2 (dr2 opLt) (mZ (mOpN (drN (orN fLen fLenD)) (mCons (mPeek 3) (M.pure [])))) (mPeek 2))) (mBl (mOp2 (dr2 opEq) (mZ (mOp2 (dr2 opItem) (mPeek 3) (mZ (mOp2 (dr2 opSub) (mPeek 2) (M.pure (.int 1)))))) (M.pure (.int 0))))) (mSeq (mRet (mE (M.pure (.bl false))))
    (M.pure .nx)) (M.pure .nx))
    (mSeq (mSet 3 (mOp2 (dr2 opAdd) (mZ (mComp (mItems (mZ (mSlice (mPeek 3) (M.pure none) (mPart (mPeek 2))))) [6] (.name 6) (M.pure true) (mZ (mOp2 (dr2 opSub) (mPeek 6) (M.pure (.int 1)))))) (mZ (mSlice (mPeek 3) (mPart (mPeek 2)) (M.pure none)))))
    (M.pure .nx)))))
    (mSeq (mRet (mE (M.pure (.bl true))))
    (M.pure .nx)))))
noncomputable def ph__law_put : Phi := runDef 7 m__law_put
def nn_is_list : List Str := [(Str.ofString "value")]
noncomputable def m_is_list : M Fl := (mSeq (mRet (mOp1 (fIsi (isiD ["list", "tuple"])) (mPeek 0)))
    (M.pure .nx))
noncomputable def ph_is_list : Phi := runDef 1 m_is_list
def nn_is_integer : List Str := [(Str.ofString "value")]
noncomputable def m_is_integer : M Fl := (mSeq (mRet (mAndV (mZ (mOp1 (fIsi (isiD ["int"])) (mPeek 0))) (mNotV (mZ (mOp1 (fIsi (isiD ["bool"])) (mPeek 0))))))
    (M.pure .nx))
noncomputable def ph_is_integer : Phi := runDef 1 m_is_integer
def nn_is_count : List Str := [(Str.ofString "value")]
noncomputable def m_is_count : M Fl := (mSeq (mRet (mAndV (mZ (mCall ph_is_integer [.p 0] (mCons (mVar 0) (M.pure [])) (M.pure []))) (mOp2 (dr2 opGe) (mPeek 0) (M.pure (.int 0)))))
    (M.pure .nx))
noncomputable def ph_is_count : Phi := runDef 1 m_is_count
def nn_is_sort : List Str := [(Str.ofString "value")]
noncomputable def m_is_sort : M Fl := (mSeq (mRet (mAndV (mZ (mOp1 (fIsi (isiD ["tuple"])) (mPeek 0))) (mAndV (mZ (mOp2 (dr2 opEq) (mZ (mOpN (drN (orN fLen fLenD)) (mCons (mPeek 0) (M.pure [])))) (M.pure (.int 2)))) (mAndV (mZ (mCall ph_is_count [.p 0] (mCons (mZ (mOp2 (dr2 opItem) (mPeek 0) (M.pure (.int 0)))) (M.pure [])) (M.pure []))) (mCall ph_is_count [.p 0] (mCons (mZ (mOp2 (dr2 opItem) (mPeek 0) (M.pure (.int 1)))) (M.pure [])) (M.pure []))))))
    (M.pure .nx))
noncomputable def ph_is_sort : Phi := runDef 1 m_is_sort
def nn_want_sorts : List Str := [(Str.ofString "sorts"), (Str.ofString "sort")]
noncomputable def m_want_sorts : M Fl := (mSeq (mIf (mOr (mNot (mTr (mZ (mCall ph_is_list [.p 0] (mCons (mVar 0) (M.pure [])) (M.pure []))))) (mOr (mNot (mBl (mChain (dr2 opLe) (dr2 opLe) (M.pure (.int 1)) (mZ (mOpN (drN (orN fLen fLenD)) (mCons (mPeek 0) (M.pure [])))) (M.pure (.int 3))))) (mNot (mTr (mZ (mOpN (drN fAll) (mCons (mZ (mComp (mItems (mVar 0)) [1] (.name 1) (M.pure true) (mZ (mCall ph_is_sort [.p 0] (mCons (mVar 1) (M.pure [])) (M.pure []))))) (M.pure [])))))))) (mSeq M.stuck
    (M.pure .nx)) (M.pure .nx))
    (M.pure .nx))
noncomputable def ph_want_sorts : Phi := runDef 2 m_want_sorts
def nn_want_copies_each : List Str := [(Str.ofString "copies")]
noncomputable def m_want_copies_each : M Fl := (mSeq (mIf (mOr (mNot (mTr (mZ (mCall ph_is_count [.p 0] (mCons (mVar 0) (M.pure [])) (M.pure []))))) (mBl (mOp2 (dr2 opEq) (mPeek 0) (M.pure (.int 0))))) (mSeq M.stuck
    (M.pure .nx)) (M.pure .nx))
    (M.pure .nx))
noncomputable def ph_want_copies_each : Phi := runDef 1 m_want_copies_each
def nn_want_many : List Str := [(Str.ofString "sorts"), (Str.ofString "many"), (Str.ofString "copies")]
noncomputable def m_want_many : M Fl := (mSeq (mDrop (mCall ph_want_sorts [.p 0] (mCons (mVar 0) (M.pure [])) (M.pure [])))
    (mSeq (mIf (mNot (mTr (mZ (mCall ph_is_count [.p 0] (mCons (mVar 1) (M.pure [])) (M.pure []))))) (mSeq M.stuck
    (M.pure .nx)) (M.pure .nx))
    (mSeq (mDrop (mCall ph_want_copies_each [.p 0] (mCons (mVar 2) (M.pure [])) (M.pure [])))
    (M.pure .nx))))
noncomputable def ph_want_many : Phi := runDef 3 m_want_many
def nn_carried : List Str := [(Str.ofString "sorts"), (Str.ofString "many"), (Str.ofString "hosts"), (Str.ofString "rooms")]
noncomputable def m_carried : M Fl := (mSeq (mRet (mOpN (drN fSum) (mCons (mZ (mComp (mItems (mVar 0)) [2, 3] (.tup [(.name 2), (.name 3)]) (M.pure true) (mZ (mOp2 (dr2 opMul) (mPeek 2) (mZ (mOpN (drN fMin) (mCons (mPeek 3) (mCons (mPeek 1) (M.pure []))))))))) (M.pure []))))
    (M.pure .nx))
noncomputable def ph_carried : Phi := runDef 4 m_carried
def nn_do_fit : List Str := [(Str.ofString "sorts"), (Str.ofString "many"), (Str.ofString "copies")]
noncomputable def m_do_fit : M Fl := (mSeq (mDrop (mCall ph_want_many [.p 0, .p 1, .p 2] (mCons (mVar 0) (mCons (mVar 1) (mCons (mVar 2) (M.pure [])))) (M.pure [])))
    (mSeq (mRet (mOp2 (dr2 opGe) (mZ (mCall ph_carried [.p 0, .p 1] (mCons (mVar 0) (mCons (mVar 1) (M.pure []))) (M.pure []))) (mZ (mOp2 (dr2 opMul) (mPeek 1) (mPeek 2)))))
    (M.pure .nx)))
noncomputable def ph_do_fit : Phi := runDef 3 m_do_fit
def nn_is_known : List Str := [(Str.ofString "value"), (Str.ofString "names")]
noncomputable def m_is_known : M Fl := (mSeq (mRet (mAndV (mZ (mOp1 (fIsi (isiD ["str"])) (mPeek 0))) (mOp2 (drR (opInA false)) (mVar 0) (mPeek 1))))
    (M.pure .nx))
noncomputable def ph_is_known : Phi := runDef 2 m_is_known
def nn_wrong_place : List Str := [(Str.ofString "value"), (Str.ofString "names"), (Str.ofString "position"), (Str.ofString "element")]
noncomputable def m_wrong_place : M Fl := (mSeq (mIf (mNot (mTr (mZ (mCall ph_is_list [.p 0] (mCons (mVar 0) (M.pure [])) (M.pure []))))) (mSeq (mRet (mE (M.pure .non)))
    (M.pure .nx)) (M.pure .nx))
    (mSeq (mFor (mEnum (mCons (mVar 0) (M.pure []))) (.tup [(.name 2), (.name 3)]) (mSeq (mIf (mOr (mNot (mTr (mZ (mCall ph_is_known [.p 0, .p 1] (mCons (mVar 3) (mCons (mVar 1) (M.pure []))) (M.pure []))))) (mBl (mOp2 (drR (opInA false)) (mVar 3) (mZ (mSlice (mPeek 0) (M.pure none) (mPart (mPeek 2))))))) (mSeq (mRet (mE (mVar 2)))
    (M.pure .nx)) (M.pure .nx))
    (M.pure .nx)))
    (mSeq (mRet (mE (M.pure .non)))
    (M.pure .nx))))
noncomputable def ph_wrong_place : Phi := runDef 4 m_wrong_place
def nn_are_different : List Str := [(Str.ofString "value"), (Str.ofString "names")]
noncomputable def m_are_different : M Fl := (mSeq (mRet (mAndV (mZ (mCall ph_is_list [.p 0] (mCons (mVar 0) (M.pure [])) (M.pure []))) (mOp2 (dr2 (isF false)) (mZ (mCall ph_wrong_place [.p 0, .p 1] (mCons (mVar 0) (mCons (mVar 1) (M.pure []))) (M.pure []))) (M.pure .non))))
    (M.pure .nx))
noncomputable def ph_are_different : Phi := runDef 2 m_are_different
def nn_want_out : List Str := [(Str.ofString "house"), (Str.ofString "out")]
noncomputable def m_want_out : M Fl := (mSeq (mIf (mNot (mTr (mZ (mCall ph_are_different [.p 0, .p 1] (mCons (mVar 1) (mCons (mZ (mAttr [(0, none)] (Str.ofString "own_hosts") (mVar 0))) (M.pure []))) (M.pure []))))) (mSeq M.stuck
    (M.pure .nx)) (M.pure .nx))
    (M.pure .nx))
noncomputable def ph_want_out : Phi := runDef 2 m_want_out
def nn_House_rooms : List Str := [(Str.ofString "self"), (Str.ofString "name"), (Str.ofString "row")]
noncomputable def m_House_rooms : M Fl := (mSeq (mRet (mCompD (mWalk fItem (mZ (mAttr [(0, none)] (Str.ofString "own_hosts") (mVar 0)))) [1, 2] (.tup [(.name 1), (.name 2)]) (M.pure true) (mVar 1) (mZ (mOp2 (dr2 opItem) (mPeek 2) (M.pure (.int 0))))))
    (M.pure .nx))
noncomputable def ph_House_rooms : Phi := runDef 3 m_House_rooms
def nn_House_hosts : List Str := [(Str.ofString "self")]
noncomputable def m_House_hosts : M Fl := (mSeq (mRet (mOpN (drN (orN fTuple fTupD)) (mCons (mZ (mAttr [(0, none)] (Str.ofString "own_hosts") (mVar 0))) (M.pure []))))
    (M.pure .nx))
noncomputable def ph_House_hosts : Phi := runDef 1 m_House_hosts
def nn_House_fellows : List Str := [(Str.ofString "self"), (Str.ofString "host"), (Str.ofString "group"), (Str.ofString "other"), (Str.ofString "row")]
noncomputable def m_House_fellows : M Fl := (mSeq (mSet 2 (mOp2 (dr2 opItem) (mZ (mOp2 (dr2 opItem) (mZ (mAttr [(0, none)] (Str.ofString "own_hosts") (mVar 0))) (mPeek 1))) (M.pure (.int 1))))
    (mSeq (mIf (mBl (mOp2 (dr2 (isF false)) (mPeek 2) (M.pure .non))) (mSeq (mRet (mLst (mCons (mVar 1) (M.pure []))))
    (M.pure .nx)) (M.pure .nx))
    (mSeq (mRet (mComp (mWalk fItem (mZ (mAttr [(0, none)] (Str.ofString "own_hosts") (mVar 0)))) [3, 4] (.tup [(.name 3), (.name 4)]) (mBl (mOp2 (dr2 opEq) (mZ (mOp2 (dr2 opItem) (mPeek 4) (M.pure (.int 1)))) (mPeek 2))) (mVar 3)))
    (M.pure .nx))))
noncomputable def ph_House_fellows : Phi := runDef 5 m_House_fellows
def nn_House_groups : List Str := [(Str.ofString "self"), (Str.ofString "host")]
noncomputable def m_House_groups : M Fl := (mSeq (mRet (mOpN (drN (orN fSort fSortD)) (mCons (mZ (mComp (mItems (mZ (mAttr [(0, some ph_House_hosts)] (Str.ofString "hosts") (mVar 0)))) [1] (.name 1) (mBl (mOp2 (dr2 opEq) (mZ (mOp2 (dr2 opItem) (mZ (mMethF (Str.ofString "fellows") [(0, [.p 0], ph_House_fellows)] (mVar 0) (mCons (mVar 1) (M.pure [])) (M.pure []))) (M.pure (.int 0)))) (mPeek 1))) (mZ (mMethF (Str.ofString "fellows") [(0, [.p 0], ph_House_fellows)] (mVar 0) (mCons (mVar 1) (M.pure [])) (M.pure []))))) (M.pure []))))
    (M.pure .nx))
noncomputable def ph_House_groups : Phi := runDef 2 m_House_groups
def nn_House_things : List Str := [(Str.ofString "self")]
noncomputable def m_House_things : M Fl := (mSeq (mRet (mOpN (drN (orN fTuple fTupD)) (mCons (mZ (mAttr [(0, none)] (Str.ofString "own_things") (mVar 0))) (M.pure []))))
    (M.pure .nx))
noncomputable def ph_House_things : Phi := runDef 1 m_House_things
def nn_want_thing : List Str := [(Str.ofString "house"), (Str.ofString "thing")]
noncomputable def m_want_thing : M Fl := (mSeq (mIf (mNot (mTr (mZ (mCall ph_is_known [.p 0, .p 1] (mCons (mVar 1) (mCons (mZ (mAttr [(0, none)] (Str.ofString "own_things") (mVar 0))) (M.pure []))) (M.pure []))))) (mSeq M.stuck
    (M.pure .nx)) (M.pure .nx))
    (M.pure .nx))
noncomputable def ph_want_thing : Phi := runDef 2 m_want_thing
def nn_House_copies : List Str := [(Str.ofString "self"), (Str.ofString "thing")]
noncomputable def m_House_copies : M Fl := (mSeq (mDrop (mCall ph_want_thing [.p 0, .p 1] (mCons (mVar 0) (mCons (mVar 1) (M.pure []))) (M.pure [])))
    (mSeq (mRet (mOp2 (dr2 opItem) (mZ (mAttr [(0, none)] (Str.ofString "own_things") (mVar 0))) (mPeek 1)))
    (M.pure .nx)))
noncomputable def ph_House_copies : Phi := runDef 2 m_House_copies
def nn_Sums_init : List Str := [(Str.ofString "self"), (Str.ofString "house"), (Str.ofString "out"), (Str.ofString "group"), (Str.ofString "thing"), (Str.ofString "host"), (Str.ofString "many")]
noncomputable def m_Sums_init : M Fl := (mSeq (mStF 0 1 (Str.ofString "own_rooms") (mZ (mCompD (mWalk fItem (mZ (mAttr [(0, some ph_House_rooms)] (Str.ofString "rooms") (mVar 1)))) [5, 6] (.tup [(.name 5), (.name 6)]) (mBl (mOp2 (drR (opInA true)) (mVar 5) (mPeek 2))) (mVar 5) (mVar 6))))
    (mSeq (mStF 0 1 (Str.ofString "own_groups") (mZ (mComp (mItems (mZ (mAttr [(0, some ph_House_groups)] (Str.ofString "groups") (mVar 1)))) [3] (.name 3) (M.pure true) (mZ (mComp (mItems (mVar 3)) [5] (.name 5) (mBl (mOp2 (drR (opInA true)) (mVar 5) (mPeek 2))) (mVar 5))))))
    (mSeq (mStF 0 1 (Str.ofString "own_copies") (mZ (mComp (mItems (mZ (mAttr [(0, some ph_House_things)] (Str.ofString "things") (mVar 1)))) [4] (.name 4) (M.pure true) (mZ (mMethF (Str.ofString "copies") [(0, [.p 0], ph_House_copies)] (mVar 1) (mCons (mVar 4) (M.pure [])) (M.pure []))))))
    (M.pure .nx))))
noncomputable def ph_Sums_init : Addr → Phi := runInit 1 7 m_Sums_init
def nn_subsets : List Str := [(Str.ofString "names"), (Str.ofString "turn"), (Str.ofString "found"), (Str.ofString "level"), (Str.ofString "longer"), (Str.ofString "some"), (Str.ofString "name")]
noncomputable def m_subsets : M Fl := (mSeq (mPar2 2 3 (mLst (mCons (mZ (mLst (M.pure []))) (M.pure []))) (mLst (mCons (mZ (mLst (M.pure []))) (M.pure []))))
    (mSeq (mFor (mRng1 (mCons (mZ (mOpN (drN (orN fLen fLenD)) (mCons (mPeek 0) (M.pure [])))) (M.pure []))) (.name 1) (mSeq (mSet 4 (mLst (M.pure [])))
    (mSeq (mFor (mItems (mVar 3)) (.name 5) (mSeq (mExtend 4 (mNewL (mComp (mItems (mVar 0)) [6] (.name 6) (mOr (mBl (mOp2 (dr2 opEq) (mPeek 5) (mZ (mLst (M.pure []))))) (mBl (mOp2 (dr2 opLt) (mZ (mOp2 (dr2 opItem) (mPeek 5) (mZ (mOp1 fNeg (M.pure (.int 1)))))) (mPeek 6)))) (mZ (mOp2 (dr2 opAdd) (mPeek 5) (mZ (mLst (mCons (mVar 6) (M.pure [])))))))))
    (M.pure .nx)))
    (mSeq (mExtend 2 (mOwnL 4))
    (mSeq (mSet 3 (mOpN (drN (orN fList fListD)) (mCons (mPeek 4) (M.pure []))))
    (M.pure .nx))))))
    (mSeq (mRet (mE (mVar 2)))
    (M.pure .nx))))
noncomputable def ph_subsets : Phi := runDef 7 m_subsets
def nn_Sums_sets : List Str := [(Str.ofString "self")]
noncomputable def m_Sums_sets : M Fl := (mSeq (mRet (mCall ph_subsets [.p 0] (mCons (mZ (mOpN (drN (orN fList fListD)) (mCons (mZ (mAttr [(1, none)] (Str.ofString "own_rooms") (mVar 0))) (M.pure [])))) (M.pure [])) (M.pure [])))
    (M.pure .nx))
noncomputable def ph_Sums_sets : Phi := runDef 1 m_Sums_sets
def nn_Sums_left : List Str := [(Str.ofString "self"), (Str.ofString "some"), (Str.ofString "group"), (Str.ofString "host")]
noncomputable def m_Sums_left : M Fl := (mSeq (mRet (mOpN (drN (orN fLen fLenD)) (mCons (mZ (mComp (mItems (mZ (mAttr [(1, none)] (Str.ofString "own_groups") (mVar 0)))) [2] (.name 2) (mTr (mZ (mOpN (drN fAny) (mCons (mZ (mComp (mItems (mVar 2)) [3] (.name 3) (M.pure true) (mZ (mOp2 (drR (opInA true)) (mVar 3) (mPeek 1))))) (M.pure []))))) (mVar 2))) (M.pure []))))
    (M.pure .nx))
noncomputable def ph_Sums_left : Phi := runDef 4 m_Sums_left
def nn_Sums_need : List Str := [(Str.ofString "self"), (Str.ofString "some"), (Str.ofString "left"), (Str.ofString "many")]
noncomputable def m_Sums_need : M Fl := (mSeq (mSet 2 (mMethF (Str.ofString "left") [(1, [.p 0], ph_Sums_left)] (mVar 0) (mCons (mVar 1) (M.pure [])) (M.pure [])))
    (mSeq (mRet (mOpN (drN fSum) (mCons (mZ (mComp (mItems (mZ (mAttr [(0, none), (1, none)] (Str.ofString "own_copies") (mVar 0)))) [3] (.name 3) (M.pure true) (mZ (mOpN (drN fMax) (mCons (M.pure (.int 0)) (mCons (mZ (mOp2 (dr2 opSub) (mPeek 3) (mPeek 2))) (M.pure []))))))) (M.pure []))))
    (M.pure .nx)))
noncomputable def ph_Sums_need : Phi := runDef 4 m_Sums_need
def nn_Sums_room_sum : List Str := [(Str.ofString "self"), (Str.ofString "some"), (Str.ofString "host")]
noncomputable def m_Sums_room_sum : M Fl := (mSeq (mRet (mOpN (drN fSum) (mCons (mZ (mComp (mItems (mVar 1)) [2] (.name 2) (M.pure true) (mZ (mOp2 (dr2 opItem) (mZ (mAttr [(1, none)] (Str.ofString "own_rooms") (mVar 0))) (mPeek 2))))) (M.pure []))))
    (M.pure .nx))
noncomputable def ph_Sums_room_sum : Phi := runDef 3 m_Sums_room_sum
def nn_Sums_excess : List Str := [(Str.ofString "self"), (Str.ofString "some")]
noncomputable def m_Sums_excess : M Fl := (mSeq (mRet (mOp2 (dr2 opSub) (mZ (mMethF (Str.ofString "need") [(1, [.p 0], ph_Sums_need)] (mVar 0) (mCons (mVar 1) (M.pure [])) (M.pure []))) (mZ (mMethF (Str.ofString "room_sum") [(1, [.p 0], ph_Sums_room_sum)] (mVar 0) (mCons (mVar 1) (M.pure [])) (M.pure [])))))
    (M.pure .nx))
noncomputable def ph_Sums_excess : Phi := runDef 2 m_Sums_excess
def nn_can_be_out : List Str := [(Str.ofString "house"), (Str.ofString "out"), (Str.ofString "sums"), (Str.ofString "some")]
noncomputable def m_can_be_out : M Fl := (mSeq (mDrop (mCall ph_want_out [.p 0, .p 1] (mCons (mVar 0) (mCons (mVar 1) (M.pure []))) (M.pure [])))
    (mSeq (mSet 2 (mCall (mkPhi ph_Sums_init) [.p 0, .p 1] (mCons (mVar 0) (mCons (mVar 1) (M.pure []))) (M.pure [])))
    (mSeq (mRet (mOpN (drN fAll) (mCons (mZ (mComp (mItems (mZ (mMethF (Str.ofString "sets") [(1, [], ph_Sums_sets)] (mVar 2) (M.pure []) (M.pure [])))) [3] (.name 3) (M.pure true) (mZ (mOp2 (dr2 opLe) (mZ (mMethF (Str.ofString "excess") [(1, [.p 0], ph_Sums_excess)] (mVar 2) (mCons (mVar 3) (M.pure [])) (M.pure []))) (M.pure (.int 0)))))) (M.pure []))))
    (M.pure .nx))))
noncomputable def ph_can_be_out : Phi := runDef 4 m_can_be_out
def nn_is_name : List Str := [(Str.ofString "value"), (Str.ofString "sign")]
noncomputable def m_is_name : M Fl := (mSeq (mIf (mOr (mNot (mTr (mZ (mOp1 (fIsi (isiD ["str"])) (mPeek 0))))) (mNot (mBl (mChain (dr2 opLe) (dr2 opLe) (M.pure (.int 1)) (mZ (mOpN (drN (orN fLen fLenD)) (mCons (mPeek 0) (M.pure [])))) (M.pure (.int 6)))))) (mSeq (mRet (mE (M.pure (.bl false))))
    (M.pure .nx)) (M.pure .nx))
    (mSeq (mRet (mAndV (mZ (mOp2 (drR (opInA false)) (mZ (mOp2 (dr2 opItem) (mPeek 0) (M.pure (.int 0)))) (M.pure (.str (Str.ofString "abcdefghijklmnopqrstuvwxyz"))))) (mOpN (drN fAll) (mCons (mZ (mComp (mItems (mVar 0)) [1] (.name 1) (M.pure true) (mZ (mOp2 (drR (opInA false)) (mVar 1) (mZ (mOp2 (dr2 opAdd) (M.pure (.str (Str.ofString "abcdefghijklmnopqrstuvwxyz"))) (M.pure (.str (Str.ofString "0123456789"))))))))) (M.pure [])))))
    (M.pure .nx)))
noncomputable def ph_is_name : Phi := runDef 2 m_is_name
def nn_is_host_row : List Str := [(Str.ofString "value")]
noncomputable def m_is_host_row : M Fl := (mSeq (mIf (mOr (mNot (mTr (mZ (mOp1 (fIsi (isiD ["tuple"])) (mPeek 0))))) (mOr (mBl (mOp2 (dr2 opNe) (mZ (mOpN (drN (orN fLen fLenD)) (mCons (mPeek 0) (M.pure [])))) (M.pure (.int 2)))) (mNot (mTr (mZ (mCall ph_is_count [.p 0] (mCons (mZ (mOp2 (dr2 opItem) (mPeek 0) (M.pure (.int 0)))) (M.pure [])) (M.pure []))))))) (mSeq (mRet (mE (M.pure (.bl false))))
    (M.pure .nx)) (M.pure .nx))
    (mSeq (mRet (mOrV (mZ (mOp2 (dr2 (isF false)) (mZ (mOp2 (dr2 opItem) (mPeek 0) (M.pure (.int 1)))) (M.pure .non))) (mCall ph_is_name [.p 0] (mCons (mZ (mOp2 (dr2 opItem) (mPeek 0) (M.pure (.int 1)))) (M.pure [])) (M.pure []))))
    (M.pure .nx)))
noncomputable def ph_is_host_row : Phi := runDef 1 m_is_host_row
def nn_want_hosts : List Str := [(Str.ofString "value"), (Str.ofString "name"), (Str.ofString "row")]
noncomputable def m_want_hosts : M Fl := (mSeq (mIf (mOr (mNot (mTr (mZ (mOp1 (fIsi (isiD ["dict"])) (mPeek 0))))) (mBl (mOp2 (dr2 opEq) (mZ (mOpN (drN (orN fLen fLenD)) (mCons (mPeek 0) (M.pure [])))) (M.pure (.int 0))))) (mSeq M.stuck
    (M.pure .nx)) (M.pure .nx))
    (mSeq (mIf (mNot (mTr (mZ (mOpN (drN fAll) (mCons (mZ (mComp (mWalk fItem (mVar 0)) [1, 2] (.tup [(.name 1), (.name 2)]) (M.pure true) (mZ (mAndV (mZ (mCall ph_is_name [.p 0] (mCons (mVar 1) (M.pure [])) (M.pure []))) (mCall ph_is_host_row [.p 0] (mCons (mVar 2) (M.pure [])) (M.pure [])))))) (M.pure [])))))) (mSeq M.stuck
    (M.pure .nx)) (M.pure .nx))
    (M.pure .nx)))
noncomputable def ph_want_hosts : Phi := runDef 3 m_want_hosts
def nn_is_copies : List Str := [(Str.ofString "value")]
noncomputable def m_is_copies : M Fl := (mSeq (mRet (mAndV (mZ (mCall ph_is_integer [.p 0] (mCons (mVar 0) (M.pure [])) (M.pure []))) (mChain (dr2 opLe) (dr2 opLe) (M.pure (.int 1)) (mPeek 0) (M.pure (.int 4)))))
    (M.pure .nx))
noncomputable def ph_is_copies : Phi := runDef 1 m_is_copies
def nn_want_things : List Str := [(Str.ofString "value"), (Str.ofString "name"), (Str.ofString "many")]
noncomputable def m_want_things : M Fl := (mSeq (mIf (mOr (mNot (mTr (mZ (mOp1 (fIsi (isiD ["dict"])) (mPeek 0))))) (mNot (mTr (mZ (mOpN (drN fAll) (mCons (mZ (mComp (mWalk fItem (mVar 0)) [1, 2] (.tup [(.name 1), (.name 2)]) (M.pure true) (mZ (mAndV (mZ (mCall ph_is_name [.p 0] (mCons (mVar 1) (M.pure [])) (M.pure []))) (mCall ph_is_copies [.p 0] (mCons (mVar 2) (M.pure [])) (M.pure [])))))) (M.pure []))))))) (mSeq M.stuck
    (M.pure .nx)) (M.pure .nx))
    (M.pure .nx))
noncomputable def ph_want_things : Phi := runDef 3 m_want_things
def nn_want_limit : List Str := [(Str.ofString "many"), (Str.ofString "what"), (Str.ofString "limit")]
noncomputable def m_want_limit : M Fl := (mSeq (mIf (mBl (mOp2 (dr2 opGt) (mPeek 0) (mPeek 2))) (mSeq M.stuck
    (M.pure .nx)) (M.pure .nx))
    (M.pure .nx))
noncomputable def ph_want_limit : Phi := runDef 3 m_want_limit
def nn_greatest_rooms : List Str := [(Str.ofString "hosts"), (Str.ofString "row")]
noncomputable def m_greatest_rooms : M Fl := (mSeq (mRet (mOpN (drN fMax) (mCons (mZ (mComp (mWalk fVal (mVar 0)) [1] (.name 1) (M.pure true) (mZ (mOp2 (dr2 opItem) (mPeek 1) (M.pure (.int 0)))))) (M.pure []))))
    (M.pure .nx))
noncomputable def ph_greatest_rooms : Phi := runDef 2 m_greatest_rooms
def nn_in_order : List Str := [(Str.ofString "table"), (Str.ofString "key")]
noncomputable def m_in_order : M Fl := (mSeq (mRet (mCompD (mItems (mZ (mOpN (drN (orN fSort fSortD)) (mCons (mPeek 0) (M.pure []))))) [1] (.name 1) (M.pure true) (mVar 1) (mZ (mOp2 (dr2 opItem) (mPeek 0) (mPeek 1)))))
    (M.pure .nx))
noncomputable def ph_in_order : Phi := runDef 2 m_in_order
def nn_each_copy : List Str := [(Str.ofString "things"), (Str.ofString "found"), (Str.ofString "name")]
noncomputable def m_each_copy : M Fl := (mSeq (mSet 1 (mLst (M.pure [])))
    (mSeq (mFor (mItems (mZ (mOpN (drN (orN fSort fSortD)) (mCons (mPeek 0) (M.pure []))))) (.name 2) (mSeq (mExtend 1 (mNewL (mOp2 (dr2 opMul) (mZ (mLst (mCons (mVar 2) (M.pure [])))) (mZ (mOp2 (dr2 opItem) (mPeek 0) (mPeek 2))))))
    (M.pure .nx)))
    (mSeq (mRet (mE (mVar 1)))
    (M.pure .nx))))
noncomputable def ph_each_copy : Phi := runDef 3 m_each_copy
def nn_House_init : List Str := [(Str.ofString "self"), (Str.ofString "hosts"), (Str.ofString "things"), (Str.ofString "most_rooms")]
noncomputable def m_House_init : M Fl := (mSeq (mDrop (mCall ph_want_hosts [.p 0] (mCons (mVar 1) (M.pure [])) (M.pure [])))
    (mSeq (mDrop (mCall ph_want_things [.p 0] (mCons (mVar 2) (M.pure [])) (M.pure [])))
    (mSeq (mDrop (mCall ph_want_limit [.p 0, .p 1, .p 2] (mCons (mZ (mOpN (drN (orN fLen fLenD)) (mCons (mPeek 1) (M.pure [])))) (mCons (M.pure (.str (Str.ofString "hosts"))) (mCons (M.pure (.int 7)) (M.pure [])))) (M.pure [])))
    (mSeq (mDrop (mCall ph_want_limit [.p 0, .p 1, .p 2] (mCons (mZ (mOpN (drN (orN fLen fLenD)) (mCons (mPeek 2) (M.pure [])))) (mCons (M.pure (.str (Str.ofString "things"))) (mCons (M.pure (.int 8)) (M.pure [])))) (M.pure [])))
    (mSeq (mDrop (mCall ph_want_limit [.p 0, .p 1, .p 2] (mCons (mZ (mCall ph_greatest_rooms [.p 0] (mCons (mVar 1) (M.pure [])) (M.pure []))) (mCons (M.pure (.str (Str.ofString "rooms"))) (mCons (mVar 3) (M.pure [])))) (M.pure [])))
    (mSeq (mStF 0 0 (Str.ofString "own_hosts") (mZ (mCall ph_in_order [.p 0] (mCons (mVar 1) (M.pure [])) (M.pure []))))
    (mSeq (mStF 0 0 (Str.ofString "own_things") (mZ (mCall ph_in_order [.p 0] (mCons (mVar 2) (M.pure [])) (M.pure []))))
    (mSeq (mStF 0 0 (Str.ofString "own_copies") (mZ (mCall ph_each_copy [.p 0] (mCons (mVar 2) (M.pure [])) (M.pure []))))
    (M.pure .nx)))))))))
noncomputable def ph_House_init : Addr → Phi := runInit 0 4 m_House_init
def nn__law_house : List Str := [(Str.ofString "_law_sorts_now"), (Str.ofString "_law_many_now"), (Str.ofString "_law_copies_now"), (Str.ofString "_law_hosts_now"), (Str.ofString "_law_at"), (Str.ofString "_law_k"), (Str.ofString "_law_size"), (Str.ofString "_law_room_now")]
noncomputable def m__law_house : M Fl := (mSeq (mSet 3 (mDict []))
    (mSeq (mFor (mEnum (mCons (mVar 0) (M.pure []))) (.tup [(.name 4), (.tup [(.name 6), (.name 7)])]) (mSeq (mFor (mRng1 (mCons (mVar 6) (M.pure []))) (.name 5) (mSeq (mSetA 3 (mZ (mOp2 (dr2 opAdd) (mZ (mOp2 (dr2 opAdd) (M.pure (.str (Str.ofString "h"))) (mZ (mOp2 (dr2 opItem) (M.pure (.str (Str.ofString "abc"))) (mPeek 4))))) (mZ (mOpN (drN fStr) (mCons (mPeek 5) (M.pure [])))))) (mZ (mTup (mCons (mVar 7) (mCons (M.pure .non) (M.pure []))))))
    (M.pure .nx)))
    (M.pure .nx)))
    (mSeq (mRet (mCall (mkPhi ph_House_init) [.p 0, .p 1, .d (.int 20) (.int 20)] (mCons (mVar 3) (mCons (mZ (mOpN (drN (orN fDictP fDictD)) (mCons (mZ (mComp (mRng1 (mCons (mVar 1) (M.pure []))) [5] (.name 5) (M.pure true) (mZ (mTup (mCons (mZ (mOp2 (dr2 opAdd) (M.pure (.str (Str.ofString "t"))) (mZ (mOpN (drN fStr) (mCons (mPeek 5) (M.pure [])))))) (mCons (mVar 2) (M.pure []))))))) (M.pure [])))) (M.pure []))) (M.pure [])))
    (M.pure .nx))))
noncomputable def ph__law_house : Phi := runDef 8 m__law_house
def nn_most_that_fit : List Str := [(Str.ofString "sorts"), (Str.ofString "copies"), (Str.ofString "low"), (Str.ofString "full"), (Str.ofString "wide"), (Str.ofString "hosts"), (Str.ofString "rooms")]
noncomputable def m_most_that_fit : M Fl := (mSeq (mSet 2 (mOpN (drN fMax) (mCons (mZ (mOp2 (dr2 opAdd) (mZ (mLst (mCons (M.pure (.int 0)) (M.pure [])))) (mZ (mComp (mItems (mVar 0)) [5, 6] (.tup [(.name 5), (.name 6)]) (mBl (mOp2 (dr2 opGe) (mZ (mCall ph_carried [.p 0, .p 1] (mCons (mVar 0) (mCons (mVar 6) (M.pure []))) (M.pure []))) (mZ (mOp2 (dr2 opMul) (mPeek 6) (mPeek 1))))) (mVar 6))))) (M.pure []))))
    (mSeq (mSet 3 (mOpN (drN fSum) (mCons (mZ (mComp (mItems (mVar 0)) [5, 6] (.tup [(.name 5), (.name 6)]) (mBl (mOp2 (dr2 opLe) (mPeek 6) (mPeek 2))) (mZ (mOp2 (dr2 opMul) (mPeek 5) (mPeek 6))))) (M.pure []))))
    (mSeq (mSet 4 (mOpN (drN fSum) (mCons (mZ (mComp (mItems (mVar 0)) [5, 6] (.tup [(.name 5), (.name 6)]) (mBl (mOp2 (dr2 opGt) (mPeek 6) (mPeek 2))) (mVar 5))) (M.pure []))))
    (mSeq (mRet (mOp2 (dr2 opFdiv) (mPeek 3) (mZ (mOp2 (dr2 opSub) (mPeek 1) (mPeek 4)))))
    (M.pure .nx)))))
noncomputable def ph_most_that_fit : Phi := runDef 7 m_most_that_fit
def nn_most_things : List Str := [(Str.ofString "sorts"), (Str.ofString "copies")]
noncomputable def m_most_things : M Fl := (mSeq (mDrop (mCall ph_want_sorts [.p 0] (mCons (mVar 0) (M.pure [])) (M.pure [])))
    (mSeq (mDrop (mCall ph_want_copies_each [.p 0] (mCons (mVar 1) (M.pure [])) (M.pure [])))
    (mSeq (mRet (mCall ph_most_that_fit [.p 0, .p 1] (mCons (mVar 0) (mCons (mVar 1) (M.pure []))) (M.pure [])))
    (M.pure .nx))))
noncomputable def ph_most_things : Phi := runDef 2 m_most_things
def nn__law_right : List Str := [(Str.ofString "_law_pot_here"), (Str.ofString "_law_sorts_now"), (Str.ofString "_law_copies_now"), (Str.ofString "_law_size"), (Str.ofString "_law_due"), (Str.ofString "_law_many_now"), (Str.ofString "_law_most_now"), (Str.ofString "_law_told"), (Str.ofString "_law_part"), (Str.ofString "_law_parted"), (Str.ofString "_law_room_now"), (Str.ofString "_law_near")]
noncomputable def m__law_right : M Fl := (mSeq (mSet 1 (mCall ph__law_drawn_sorts [.p 0, .p 1, .p 2] (mCons (mVar 0) (mCons (M.pure (.int 4)) (mCons (M.pure (.int 6)) (M.pure [])))) (M.pure [])))
    (mSeq (mSet 2 (mOp2 (dr2 opAdd) (M.pure (.int 1)) (mZ (mCall ph__law_draw [.p 0, .p 1] (mCons (mVar 0) (mCons (M.pure (.int 5)) (M.pure []))) (M.pure [])))))
    (mSeq (mSet 3 (mOpN (drN fSum) (mCons (mZ (mComp (mItems (mVar 1)) [11] (.name 11) (M.pure true) (mZ (mOp2 (dr2 opItem) (mPeek 11) (M.pure (.int 0)))))) (M.pure []))))
    (mSeq (mSet 4 (mComp (mRng1 (mCons (M.pure (.int 30)) (M.pure []))) [5] (.name 5) (M.pure true) (mZ (mCall ph__law_put [.p 0, .p 1, .p 2] (mCons (mVar 1) (mCons (mVar 5) (mCons (mVar 2) (M.pure [])))) (M.pure [])))))
    (mSeq (mFor (mRng1 (mCons (M.pure (.int 12)) (M.pure []))) (.name 5) (mSeq (mSet 7 (mLst (mCons (mZ (mCall ph_do_fit [.p 0, .p 1, .p 2] (mCons (mVar 1) (mCons (mVar 5) (mCons (mVar 2) (M.pure [])))) (M.pure []))) (M.pure []))))
    (mSeq (mAppend 7 (mZ (mCall ph_do_fit [.k 2, .k 1, .k 0] (M.pure []) (mCons (mVar 2) (mCons (mVar 5) (mCons (mZ (mOpN (drN (orN fTuple fTupD)) (mCons (mPeek 1) (M.pure [])))) (M.pure [])))))))
    (mSeq (mAppend 7 (mZ (mCall ph_do_fit [.p 0, .p 1, .p 2] (mCons (mZ (mOp1 fRev (mPeek 1))) (mCons (mVar 5) (mCons (mVar 2) (M.pure [])))) (M.pure []))))
    (mSeq (mIf (mBl (mOp2 (dr2 opNe) (mZ (mRepr (mPeek 7))) (mZ (mRepr (mZ (mOp2 (dr2 opMul) (mZ (mLst (mCons (mZ (mOp2 (dr2 opItem) (mPeek 4) (mPeek 5))) (M.pure [])))) (M.pure (.int 3)))))))) (mSeq (mRet (mE (M.pure (.bl false))))
    (M.pure .nx)) (M.pure .nx))
    (mSeq (mIf (mAnd (mBl (mChain (dr2 opLt) (dr2 opLt) (M.pure (.int 0)) (mPeek 3) (M.pure (.int 8)))) (mAnd (mBl (mOp2 (dr2 opLt) (mPeek 5) (M.pure (.int 9)))) (mBl (mOp2 (dr2 opLt) (mPeek 2) (M.pure (.int 5)))))) (mSeq (mIf (mBl (mOp2 (dr2 opNe) (mZ (mCall ph_can_be_out [.p 0, .p 1] (mCons (mZ (mCall ph__law_house [.p 0, .p 1, .p 2] (mCons (mVar 1) (mCons (mVar 5) (mCons (mVar 2) (M.pure [])))) (M.pure []))) (mCons (mZ (mLst (M.pure []))) (M.pure []))) (M.pure []))) (mZ (mOp2 (dr2 opItem) (mPeek 4) (mPeek 5))))) (mSeq (mRet (mE (M.pure (.bl false))))
    (M.pure .nx)) (M.pure .nx))
    (M.pure .nx)) (M.pure .nx))
    (M.pure .nx)))))))
    (mSeq (mSet 6 (mIf (mBl (mOp2 (drR (opInA false)) (M.pure (.bl false)) (mPeek 4))) (mOp2 (dr2 opSub) (mZ (mIndex (mPeek 4) (M.pure (.bl false)))) (M.pure (.int 1))) (mE (M.pure .non))))
    (mSeq (mIf (mBl (mOp2 (dr2 (isF true)) (mPeek 6) (M.pure .non))) (mSeq (mSet 7 (mLst (mCons (mZ (mCall ph_most_things [.p 0, .p 1] (mCons (mVar 1) (mCons (mVar 2) (M.pure []))) (M.pure []))) (mCons (mZ (mCall ph_most_things [.k 1, .k 0] (M.pure []) (mCons (mVar 2) (mCons (mZ (mOp1 fRev (mPeek 1))) (M.pure []))))) (M.pure [])))))
    (mSeq (mIf (mBl (mOp2 (dr2 opNe) (mZ (mRepr (mPeek 7))) (mZ (mRepr (mZ (mLst (mCons (mVar 6) (mCons (mVar 6) (M.pure []))))))))) (mSeq (mRet (mE (M.pure (.bl false))))
    (M.pure .nx)) (M.pure .nx))
    (M.pure .nx))) (M.pure .nx))
    (mSeq (mIf (mBl (mOp2 (dr2 opLt) (mZ (mOpN (drN (orN fLen fLenD)) (mCons (mPeek 1) (M.pure [])))) (M.pure (.int 3)))) (mSeq (mSetT (mZ (mOp2 (dr2 opItem) (mPeek 1) (M.pure (.int 0)))) (.tup [(.name 3), (.name 10)]))
    (mSeq (mSet 8 (mCall ph__law_draw [.p 0, .p 1] (mCons (mVar 0) (mCons (mZ (mOp2 (dr2 opAdd) (mPeek 3) (M.pure (.int 1)))) (M.pure []))) (M.pure [])))
    (mSeq (mSet 9 (mOp2 (dr2 opAdd) (mZ (mLst (mCons (mZ (mTup (mCons (mVar 8) (mCons (mVar 10) (M.pure []))))) (mCons (mZ (mTup (mCons (mZ (mOp2 (dr2 opSub) (mPeek 3) (mPeek 8))) (mCons (mVar 10) (M.pure []))))) (M.pure []))))) (mZ (mSlice (mPeek 1) (mPart (M.pure (.int 1))) (M.pure none)))))
    (mSeq (mRet (mOp2 (dr2 opEq) (mZ (mCall ph_most_things [.p 0, .p 1] (mCons (mVar 9) (mCons (mVar 2) (M.pure []))) (M.pure []))) (mZ (mCall ph_most_things [.p 0, .p 1] (mCons (mVar 1) (mCons (mVar 2) (M.pure []))) (M.pure [])))))
    (M.pure .nx))))) (M.pure .nx))
    (mSeq (mRet (mE (M.pure (.bl true))))
    (M.pure .nx))))))))))
noncomputable def ph__law_right : Phi := runDef 12 m__law_right
def nn__law_pot : List Str := [(Str.ofString "_law_script"), (Str.ofString "_law_k"), (Str.ofString "_law_cell")]
noncomputable def m__law_pot : M Fl := (mSeq (mSet 2 (mOp2 (dr2 opAdd) (mZ (mOp2 (dr2 opMul) (M.pure (.int 43)) (mPeek 1))) (M.pure (.int 9))))
    (mSeq (mIf (mBl (mOp2 (dr2 opLt) (mPeek 1) (mZ (mOpN (drN (orN fLen fLenD)) (mCons (mPeek 0) (M.pure [])))))) (mSeq (mSet 2 (mOpN (drN fAbs) (mCons (mZ (mOp2 (dr2 opItem) (mPeek 0) (mPeek 1))) (M.pure []))))
    (M.pure .nx)) (M.pure .nx))
    (mSeq (mRet (mLst (mCons (mZ (mOpN (drN fMax) (mCons (M.pure (.int 0)) (mCons (mZ (mOp2 (dr2 opSub) (mPeek 2) (mZ (mOp2 (dr2 opPow) (M.pure (.int 10)) (M.pure (.int 18)))))) (M.pure []))))) (mCons (mZ (mOp2 (dr2 opAdd) (mZ (mOp2 (dr2 opMod) (mZ (mOp2 (dr2 opMul) (mZ (mOpN (drN fInt) (mCons (mZ (mOp2 (dr2 opAdd) (mZ (mOp2 (dr2 opMod) (mZ (mOpN (drN fInt) (mCons (mPeek 2) (M.pure [])))) (M.pure (.int 2147483549)))) (M.pure (.int 17)))) (M.pure [])))) (mZ (mOp2 (dr2 opPow) (mZ (mOp2 (dr2 opAdd) (mZ (mOp2 (dr2 opMul) (M.pure (.int 2)) (mPeek 1))) (M.pure (.int 3)))) (M.pure (.int 3)))))) (M.pure (.int 2147483477)))) (M.pure (.int 1)))) (M.pure [])))))
    (M.pure .nx))))
noncomputable def ph__law_pot : Phi := runDef 3 m__law_pot
def nn_law : List Str := [(Str.ofString "_law_script"), (Str.ofString "_law_k")]
noncomputable def m_law : M Fl := (mSeq (mRet (mOpN (drN fAll) (mCons (mZ (mComp (mRng1 (mCons (mZ (mOpN (drN fMax) (mCons (M.pure (.int 1)) (mCons (mZ (mOpN (drN fMin) (mCons (mZ (mOpN (drN (orN fLen fLenD)) (mCons (mPeek 0) (M.pure [])))) (mCons (M.pure (.int 4)) (M.pure []))))) (M.pure []))))) (M.pure []))) [1] (.name 1) (M.pure true) (mZ (mCall ph__law_right [.p 0] (mCons (mCell (mCall ph__law_pot [.p 0, .p 1] (mCons (mVar 0) (mCons (mVar 1) (M.pure []))) (M.pure []))) (M.pure [])) (M.pure []))))) (M.pure []))))
    (M.pure .nx))
noncomputable def ph_law : Phi := runDef 2 m_law
end K81
namespace K81
open PySem PySem.Spec L2 EL
section
variable {g : Glob} {base : Heap} {f : Addr}
theorem sc__law_draw : FnScope nn__law_draw [(Str.ofString "_law_pot_here"), (Str.ofString "_law_size")] (defScope (top 64)) := ⟨rfl, rfl, rfl, by decide +kernel, rfl, by decide +kernel, by decide +kernel⟩
theorem bd__law_draw (n_divmod : g.mg (Str.ofString "divmod") = none) (n_int : g.mg (Str.ofString "int") = none) : BodyOk g base 0 nn__law_draw (Str.ofString "_law_draw") (defScope (top 64)) f (defBody (top 64)) m__law_draw := by
  intro cdv A outer s H E F hr hgd
  have hu := hr.units
  have tk := takes_cxF (g := g) (base := base) (N := nn__law_draw) (qual := (Str.ofString "_law_draw")) (scope := defScope (top 64)) (f := f) (cdv := cdv) (A := A) (outer := outer) (s := s) (H := H) (E := E)
  have hN := sc__law_draw.nd
  exact (sSCons (sIf (wCmpT s_gt (sO (sZ (wItem (wPeek 0) (sO wInt)))) (sO wInt)) (sSCons (wPot (ip := 0) (jd := 2) hN (pv 0) (sO wInt) (sZ (wB s_divmod n_divmod (wOCons (sO (sZ (wItem (wPeek 0) (sO wInt)))) (wOCons (wPeek 1) sONil)))))
    (sSCons (sRet (wE (wVar 2)))
    sSNil)) sSNil)
    (sSCons (wSetA (ip := 0) (pv 0) (sO wInt) (sZ (wBin s_mod (sO (sZ (wTy s_int n_int (wOCons (sO (sZ (wBin s_add (sO (sZ (wBin s_mul (sO (sZ (wItem (wPeek 0) (sO wInt)))) (sO wInt)))) (sO wInt)))) sONil)))) (sO wInt))))
    (sSCons (sRet (wBin s_mod (sO (sZ (wTy s_int n_int (wOCons (sO (sZ (wBin s_fdiv (sO (sZ (wBin s_mod (sO (sZ (wTy s_int n_int (wOCons (sO (sZ (wBin s_mul (sO (sZ (wItem (wPeek 0) (sO wInt)))) (sO (sZ (wItem (wPeek 0) (sO wInt))))))) sONil)))) (sO wInt)))) (sO wInt)))) sONil)))) (wPeek 1)))
    sSNil)))
theorem sc__law_drawn_sorts : FnScope nn__law_drawn_sorts [(Str.ofString "_law_pot_here"), (Str.ofString "_law_size"), (Str.ofString "_law_top")] (defScope (top 68)) := ⟨rfl, rfl, rfl, by decide +kernel, rfl, by decide +kernel, by decide +kernel⟩
theorem bd__law_drawn_sorts (n_range : g.mg (Str.ofString "range") = none) {f__law_draw : Addr} {fd__law_draw : FuncData} (c__law_draw : Fnc g base 1 (Str.ofString "_law_draw") [(Str.ofString "_law_pot_here"), (Str.ofString "_law_size")] ph__law_draw f__law_draw fd__law_draw) {gb__law_draw_2 : List Value → List Value → List Value} (b__law_draw_2 : KBn g.K fd__law_draw [(Str.ofString "_law_pot_here"), (Str.ofString "_law_size")] 2 [] gb__law_draw_2 (arrV [.p 0, .p 1])) : BodyOk g base 1 nn__law_drawn_sorts (Str.ofString "_law_drawn_sorts") (defScope (top 68)) f (defBody (top 68)) m__law_drawn_sorts := by
  intro cdv A outer s H E F hr hgd
  have hu := hr.units
  have tk := takes_cxF (g := g) (base := base) (N := nn__law_drawn_sorts) (qual := (Str.ofString "_law_drawn_sorts")) (scope := defScope (top 68)) (f := f) (cdv := cdv) (A := A) (outer := outer) (s := s) (H := H) (E := E)
  have hN := sc__law_drawn_sorts.nd
  exact (sSCons (sRet (sLC (own := [(Str.ofString "_law_turn", 3)]) rfl hN (wRng1 n_range (wACons (sZ (wBin s_add (sO wInt) (sO (sZ (sNE (wCall (ks := []) [.p 0, .p 1] c__law_draw.ok c__law_draw.mg c__law_draw.kp hr b__law_draw_2 tk (wACons (wVar 0) (wACons wInt sANil)) sKNil (Many.cons (Many.cons Many.nil)) Many.nil (dfl_nil rfl))))))) sANil)) (blkOk_by rfl) (fun F s H C cl fp => (wTgN hN)) (fun F s H C cl fp => sTsNil) (fun F s H C cl fp => (sZ (wTup (wACons (sZ (sNE (wCall (ks := []) [.p 0, .p 1] c__law_draw.ok c__law_draw.mg c__law_draw.kp hr b__law_draw_2 takes0 (wACons (wVar 0) (wACons (sZ (wBin s_add (wPeek 1) (sO wInt))) sANil)) sKNil (Many.cons (Many.cons Many.nil)) Many.nil (dfl_nil rfl)))) (wACons (sZ (sNE (wCall (ks := []) [.p 0, .p 1] c__law_draw.ok c__law_draw.mg c__law_draw.kp hr b__law_draw_2 takes0 (wACons (wVar 0) (wACons (sZ (wBin s_add (wPeek 2) (sO wInt))) sANil)) sKNil (Many.cons (Many.cons Many.nil)) Many.nil (dfl_nil rfl)))) sANil)) (Many.cons (Many.cons Many.nil))))) (fun _ => rfl)))
    sSNil)
theorem sc__law_put : FnScope nn__law_put [(Str.ofString "_law_sorts_now"), (Str.ofString "_law_many_now"), (Str.ofString "_law_copies_now")] (defScope (top 67)) := ⟨rfl, rfl, rfl, by decide +kernel, rfl, by decide +kernel, by decide +kernel⟩
theorem bd__law_put (hsy : SysIn g.K) (n_range : g.mg (Str.ofString "range") = none) (n_sorted : g.mg (Str.ofString "sorted") = none) (n_len : g.mg (Str.ofString "len") = none) : BodyOk g base 0 nn__law_put (Str.ofString "_law_put") (defScope (top 67)) f (defBody (top 67)) m__law_put := by
  intro cdv A outer s H E F hr hgd
  have hu := hr.units
  have tk := takes_cxF (g := g) (base := base) (N := nn__law_put) (qual := (Str.ofString "_law_put")) (scope := defScope (top 67)) (f := f) (cdv := cdv) (A := A) (outer := outer) (s := s) (H := H) (E := E)
  have hN := sc__law_put.nd
  exact (sSCons (wSet (i := 3) hN (wLst sANil Many.nil))
    (sSCons (wFor [5, 6] owns_cxF (wISeq (wVar 0)) (fun F => (wTgT (wTgsCons (wTgN hN) (wTgsCons (wTgN hN) sTgsNil)))) (fun F => (sSCons (wSet (i := 3) hN (wBin s_add (wPeek 3) (sO (sZ (wBin s_mul (sO (sZ (wLst (wACons (wVar 6) sANil) (Many.cons Many.nil)))) (wPeek 5))))))
    sSNil)))
    (sSCons (wFor [4] owns_cxF (wRng1 n_range (wACons (wVar 1) sANil)) (fun F => (wTgN hN)) (fun F => (sSCons (wSet (i := 3) hN (wRev (sO (sZ (wB (s_sorted (hy := hsy)) n_sorted (wOCons (wPeek 3) sONil))))))
    (sSCons (sIf (PW.pt (sOrC (wCmpT s_lt (sO (sZ (wB s_lenA n_len (wOCons (wPeek 3) sONil)))) (wPeek 2)) (sOr1 (wCmpT s_eq (sO (sZ (wItem (wPeek 3) (sO (sZ (wBin s_sub (wPeek 2) (sO wInt))))))) (sO wInt))))) (sSCons (sRet (wE wBl))
    sSNil) sSNil)
    (sSCons (wSet (i := 3) hN (wBin s_add (sO (sZ (sLC (own := [(Str.ofString "_law_room_now", 6)]) rfl hN (wISeq (sZ (wSlice (wPeek 3) sPNone (sPSome (wPeek 2))))) (blkOk_by rfl) (fun F s H C cl fp => (wTgN hN)) (fun F s H C cl fp => sTsNil) (fun F s H C cl fp => (sZ (wBin s_sub (wPeek 6) (sO wInt)))) (fun _ => rfl)))) (sO (sZ (wSlice (wPeek 3) (sPSome (wPeek 2)) sPNone)))))
    sSNil)))))
    (sSCons (sRet (wE wBl))
    sSNil))))
theorem sc_is_list : FnScope nn_is_list [(Str.ofString "value")] (defScope (top 7)) := ⟨rfl, rfl, rfl, by decide +kernel, rfl, by decide +kernel, by decide +kernel⟩
theorem bd_is_list (n_isinstance : g.mg (Str.ofString "isinstance") = none) (n_tuple : g.mg (Str.ofString "tuple") = none) (n_list : g.mg (Str.ofString "list") = none) : BodyOk g base 0 nn_is_list (Str.ofString "is_list") (defScope (top 7)) f (defBody (top 7)) m_is_list := by
  intro cdv A outer s H E F hr hgd
  have hu := hr.units
  have tk := takes_cxF (g := g) (base := base) (N := nn_is_list) (qual := (Str.ofString "is_list")) (scope := defScope (top 7)) (f := f) (cdv := cdv) (A := A) (outer := outer) (s := s) (H := H) (E := E)
  have hN := sc_is_list.nd
  exact (sSCons (sRet (wIsiT ["list", "tuple"] n_isinstance (wPeek 0) (wAcCons (wT "list" n_list) (wAcCons (wT "tuple" n_tuple) ac_nil))))
    sSNil)
theorem sc_is_integer : FnScope nn_is_integer [(Str.ofString "value")] (defScope (top 5)) := ⟨rfl, rfl, rfl, by decide +kernel, rfl, by decide +kernel, by decide +kernel⟩
theorem bd_is_integer (n_isinstance : g.mg (Str.ofString "isinstance") = none) (n_int : g.mg (Str.ofString "int") = none) (n_bool : g.mg (Str.ofString "bool") = none) : BodyOk g base 0 nn_is_integer (Str.ofString "is_integer") (defScope (top 5)) f (defBody (top 5)) m_is_integer := by
  intro cdv A outer s H E F hr hgd
  have hu := hr.units
  have tk := takes_cxF (g := g) (base := base) (N := nn_is_integer) (qual := (Str.ofString "is_integer")) (scope := defScope (top 5)) (f := f) (cdv := cdv) (A := A) (outer := outer) (s := s) (H := H) (E := E)
  have hN := sc_is_integer.nd
  exact (sSCons (sRet (wAndV (sZ (wIsi "int" n_isinstance (wPeek 0) (wT "int" n_int))) (wOneV (wNotV (sO (sZ (wIsi "bool" n_isinstance (wPeek 0) (wT "bool" n_bool))))))))
    sSNil)
theorem sc_is_count : FnScope nn_is_count [(Str.ofString "value")] (defScope (top 6)) := ⟨rfl, rfl, rfl, by decide +kernel, rfl, by decide +kernel, by decide +kernel⟩
theorem bd_is_count {f_is_integer : Addr} {fd_is_integer : FuncData} (c_is_integer : Fnc g base 1 (Str.ofString "is_integer") [(Str.ofString "value")] ph_is_integer f_is_integer fd_is_integer) {gb_is_integer_1 : List Value → List Value → List Value} (b_is_integer_1 : KBn g.K fd_is_integer [(Str.ofString "value")] 1 [] gb_is_integer_1 (arrV [.p 0])) : BodyOk g base 1 nn_is_count (Str.ofString "is_count") (defScope (top 6)) f (defBody (top 6)) m_is_count := by
  intro cdv A outer s H E F hr hgd
  have hu := hr.units
  have tk := takes_cxF (g := g) (base := base) (N := nn_is_count) (qual := (Str.ofString "is_count")) (scope := defScope (top 6)) (f := f) (cdv := cdv) (A := A) (outer := outer) (s := s) (H := H) (E := E)
  have hN := sc_is_count.nd
  exact (sSCons (sRet (wAndV (sZ (sNE (wCall (ks := []) [.p 0] c_is_integer.ok c_is_integer.mg c_is_integer.kp hr b_is_integer_1 tk (wACons (wVar 0) sANil) sKNil (Many.cons Many.nil) Many.nil (dfl_nil rfl)))) (wOneV (wCmp s_ge (wPeek 0) (sO wInt)))))
    sSNil)
theorem sc_is_sort : FnScope nn_is_sort [(Str.ofString "value")] (defScope (top 29)) := ⟨rfl, rfl, rfl, by decide +kernel, rfl, by decide +kernel, by decide +kernel⟩
theorem bd_is_sort (n_isinstance : g.mg (Str.ofString "isinstance") = none) (n_tuple : g.mg (Str.ofString "tuple") = none) (n_len : g.mg (Str.ofString "len") = none) {f_is_count : Addr} {fd_is_count : FuncData} (c_is_count : Fnc g base 2 (Str.ofString "is_count") [(Str.ofString "value")] ph_is_count f_is_count fd_is_count) {gb_is_count_1 : List Value → List Value → List Value} (b_is_count_1 : KBn g.K fd_is_count [(Str.ofString "value")] 1 [] gb_is_count_1 (arrV [.p 0])) : BodyOk g base 2 nn_is_sort (Str.ofString "is_sort") (defScope (top 29)) f (defBody (top 29)) m_is_sort := by
  intro cdv A outer s H E F hr hgd
  have hu := hr.units
  have tk := takes_cxF (g := g) (base := base) (N := nn_is_sort) (qual := (Str.ofString "is_sort")) (scope := defScope (top 29)) (f := f) (cdv := cdv) (A := A) (outer := outer) (s := s) (H := H) (E := E)
  have hN := sc_is_sort.nd
  exact (sSCons (sRet (wAndV (sZ (wIsi "tuple" n_isinstance (wPeek 0) (wT "tuple" n_tuple))) (wAndV (sZ (wCmp s_eq (sO (sZ (wB s_lenA n_len (wOCons (wPeek 0) sONil)))) (sO wInt))) (wAndV (sZ (sNE (wCall (ks := []) [.p 0] c_is_count.ok c_is_count.mg c_is_count.kp hr b_is_count_1 tk (wACons (sZ (wItem (wPeek 0) (sO wInt))) sANil) sKNil (Many.cons Many.nil) Many.nil (dfl_nil rfl)))) (wOneV (sNE (wCall (ks := []) [.p 0] c_is_count.ok c_is_count.mg c_is_count.kp hr b_is_count_1 tk (wACons (sZ (wItem (wPeek 0) (sO wInt))) sANil) sKNil (Many.cons Many.nil) Many.nil (dfl_nil rfl))))))))
    sSNil)
theorem sc_want_sorts : FnScope nn_want_sorts [(Str.ofString "sorts")] (defScope (top 30)) := ⟨rfl, rfl, rfl, by decide +kernel, rfl, by decide +kernel, by decide +kernel⟩
theorem bd_want_sorts (n_len : g.mg (Str.ofString "len") = none) (n_all : g.mg (Str.ofString "all") = none) (i_MOST_SORTS : ∃ t, g.mg (Str.ofString "MOST_SORTS") = some (.int 3 t)) {f_is_list : Addr} {fd_is_list : FuncData} (c_is_list : Fnc g base 1 (Str.ofString "is_list") [(Str.ofString "value")] ph_is_list f_is_list fd_is_list) {f_is_sort : Addr} {fd_is_sort : FuncData} (c_is_sort : Fnc g base 3 (Str.ofString "is_sort") [(Str.ofString "value")] ph_is_sort f_is_sort fd_is_sort) {gb_is_list_1 : List Value → List Value → List Value} (b_is_list_1 : KBn g.K fd_is_list [(Str.ofString "value")] 1 [] gb_is_list_1 (arrV [.p 0])) {gb_is_sort_1 : List Value → List Value → List Value} (b_is_sort_1 : KBn g.K fd_is_sort [(Str.ofString "value")] 1 [] gb_is_sort_1 (arrV [.p 0])) : BodyOk g base 3 nn_want_sorts (Str.ofString "want_sorts") (defScope (top 30)) f (defBody (top 30)) m_want_sorts := by
  intro cdv A outer s H E F hr hgd
  have hu := hr.units
  have tk := takes_cxF (g := g) (base := base) (N := nn_want_sorts) (qual := (Str.ofString "want_sorts")) (scope := defScope (top 30)) (f := f) (cdv := cdv) (A := A) (outer := outer) (s := s) (H := H) (E := E)
  have hN := sc_want_sorts.nd
  exact (sSCons (sIf (PW.pt (sOrC (wNotT (wTrue (sO (sZ (sNE (wCall (ks := []) [.p 0] c_is_list.ok c_is_list.mg c_is_list.kp hr b_is_list_1 tk (wACons (wVar 0) sANil) sKNil (Many.cons Many.nil) Many.nil (dfl_nil rfl))))))) (sOrC (wNotT (wChainT s_le s_le (sO wInt) (sO (sZ (wB s_lenA n_len (wOCons (wPeek 0) sONil)))) (sO (wGInt i_MOST_SORTS)))) (sOr1 (wNotT (wTrue (sO (sZ (wB s_all n_all (wOCons (sO (sZ (sLC (own := [(Str.ofString "sort", 1)]) rfl hN (wISeq (wVar 0)) (blkOk_by rfl) (fun F s H C cl fp => (wTgN hN)) (fun F s H C cl fp => sTsNil) (fun F s H C cl fp => (sZ (sNE (wCall (ks := []) [.p 0] c_is_sort.ok c_is_sort.mg c_is_sort.kp hr b_is_sort_1 takes0 (wACons (wVar 1) sANil) sKNil (Many.cons Many.nil) Many.nil (dfl_nil rfl))))) (fun _ => rfl)))) sONil)))))))))) (sSCons wNever
    sSNil) sSNil)
    sSNil)
theorem sc_want_copies_each : FnScope nn_want_copies_each [(Str.ofString "copies")] (defScope (top 31)) := ⟨rfl, rfl, rfl, by decide +kernel, rfl, by decide +kernel, by decide +kernel⟩
theorem bd_want_copies_each {f_is_count : Addr} {fd_is_count : FuncData} (c_is_count : Fnc g base 2 (Str.ofString "is_count") [(Str.ofString "value")] ph_is_count f_is_count fd_is_count) {gb_is_count_1 : List Value → List Value → List Value} (b_is_count_1 : KBn g.K fd_is_count [(Str.ofString "value")] 1 [] gb_is_count_1 (arrV [.p 0])) : BodyOk g base 2 nn_want_copies_each (Str.ofString "want_copies_each") (defScope (top 31)) f (defBody (top 31)) m_want_copies_each := by
  intro cdv A outer s H E F hr hgd
  have hu := hr.units
  have tk := takes_cxF (g := g) (base := base) (N := nn_want_copies_each) (qual := (Str.ofString "want_copies_each")) (scope := defScope (top 31)) (f := f) (cdv := cdv) (A := A) (outer := outer) (s := s) (H := H) (E := E)
  have hN := sc_want_copies_each.nd
  exact (sSCons (sIf (PW.pt (sOrC (wNotT (wTrue (sO (sZ (sNE (wCall (ks := []) [.p 0] c_is_count.ok c_is_count.mg c_is_count.kp hr b_is_count_1 tk (wACons (wVar 0) sANil) sKNil (Many.cons Many.nil) Many.nil (dfl_nil rfl))))))) (sOr1 (wCmpT s_eq (wPeek 0) (sO wInt))))) (sSCons wNever
    sSNil) sSNil)
    sSNil)
theorem sc_want_many : FnScope nn_want_many [(Str.ofString "sorts"), (Str.ofString "many"), (Str.ofString "copies")] (defScope (top 33)) := ⟨rfl, rfl, rfl, by decide +kernel, rfl, by decide +kernel, by decide +kernel⟩
theorem bd_want_many {f_want_sorts : Addr} {fd_want_sorts : FuncData} (c_want_sorts : Fnc g base 4 (Str.ofString "want_sorts") [(Str.ofString "sorts")] ph_want_sorts f_want_sorts fd_want_sorts) {f_is_count : Addr} {fd_is_count : FuncData} (c_is_count : Fnc g base 2 (Str.ofString "is_count") [(Str.ofString "value")] ph_is_count f_is_count fd_is_count) {f_want_copies_each : Addr} {fd_want_copies_each : FuncData} (c_want_copies_each : Fnc g base 3 (Str.ofString "want_copies_each") [(Str.ofString "copies")] ph_want_copies_each f_want_copies_each fd_want_copies_each) {gb_want_sorts_1 : List Value → List Value → List Value} (b_want_sorts_1 : KBn g.K fd_want_sorts [(Str.ofString "sorts")] 1 [] gb_want_sorts_1 (arrV [.p 0])) {gb_is_count_1 : List Value → List Value → List Value} (b_is_count_1 : KBn g.K fd_is_count [(Str.ofString "value")] 1 [] gb_is_count_1 (arrV [.p 0])) {gb_want_copies_each_1 : List Value → List Value → List Value} (b_want_copies_each_1 : KBn g.K fd_want_copies_each [(Str.ofString "copies")] 1 [] gb_want_copies_each_1 (arrV [.p 0])) : BodyOk g base 4 nn_want_many (Str.ofString "want_many") (defScope (top 33)) f (defBody (top 33)) m_want_many := by
  intro cdv A outer s H E F hr hgd
  have hu := hr.units
  have tk := takes_cxF (g := g) (base := base) (N := nn_want_many) (qual := (Str.ofString "want_many")) (scope := defScope (top 33)) (f := f) (cdv := cdv) (A := A) (outer := outer) (s := s) (H := H) (E := E)
  have hN := sc_want_many.nd
  exact (sSCons (wExpr (sNE (wCall (ks := []) [.p 0] c_want_sorts.ok c_want_sorts.mg c_want_sorts.kp hr b_want_sorts_1 tk (wACons (wVar 0) sANil) sKNil (Many.cons Many.nil) Many.nil (dfl_nil rfl))))
    (sSCons (sIf (wNotT (wTrue (sO (sZ (sNE (wCall (ks := []) [.p 0] c_is_count.ok c_is_count.mg c_is_count.kp hr b_is_count_1 tk (wACons (wVar 1) sANil) sKNil (Many.cons Many.nil) Many.nil (dfl_nil rfl))))))) (sSCons wNever
    sSNil) sSNil)
    (sSCons (wExpr (sNE (wCall (ks := []) [.p 0] c_want_copies_each.ok c_want_copies_each.mg c_want_copies_each.kp hr b_want_copies_each_1 tk (wACons (wVar 2) sANil) sKNil (Many.cons Many.nil) Many.nil (dfl_nil rfl))))
    sSNil)))
theorem sc_carried : FnScope nn_carried [(Str.ofString "sorts"), (Str.ofString "many")] (defScope (top 32)) := ⟨rfl, rfl, rfl, by decide +kernel, rfl, by decide +kernel, by decide +kernel⟩
theorem bd_carried (n_min : g.mg (Str.ofString "min") = none) (n_sum : g.mg (Str.ofString "sum") = none) : BodyOk g base 0 nn_carried (Str.ofString "carried") (defScope (top 32)) f (defBody (top 32)) m_carried := by
  intro cdv A outer s H E F hr hgd
  have hu := hr.units
  have tk := takes_cxF (g := g) (base := base) (N := nn_carried) (qual := (Str.ofString "carried")) (scope := defScope (top 32)) (f := f) (cdv := cdv) (A := A) (outer := outer) (s := s) (H := H) (E := E)
  have hN := sc_carried.nd
  exact (sSCons (sRet (wB s_sum n_sum (wOCons (sO (sZ (sLC (own := [(Str.ofString "hosts", 2), (Str.ofString "rooms", 3)]) rfl hN (wISeq (wVar 0)) (blkOk_by rfl) (fun F s H C cl fp => (wTgT (wTgsCons (wTgN hN) (wTgsCons (wTgN hN) sTgsNil)))) (fun F s H C cl fp => sTsNil) (fun F s H C cl fp => (sZ (wBin s_mul (wPeek 2) (sO (sZ (wB s_min n_min (wOCons (wPeek 3) (wOCons (wPeek 1) sONil)))))))) (fun _ => rfl)))) sONil)))
    sSNil)
theorem sc_do_fit : FnScope nn_do_fit [(Str.ofString "sorts"), (Str.ofString "many"), (Str.ofString "copies")] (defScope (top 34)) := ⟨rfl, rfl, rfl, by decide +kernel, rfl, by decide +kernel, by decide +kernel⟩
theorem bd_do_fit {f_want_many : Addr} {fd_want_many : FuncData} (c_want_many : Fnc g base 5 (Str.ofString "want_many") [(Str.ofString "sorts"), (Str.ofString "many"), (Str.ofString "copies")] ph_want_many f_want_many fd_want_many) {f_carried : Addr} {fd_carried : FuncData} (c_carried : Fnc g base 1 (Str.ofString "carried") [(Str.ofString "sorts"), (Str.ofString "many")] ph_carried f_carried fd_carried) {gb_want_many_3 : List Value → List Value → List Value} (b_want_many_3 : KBn g.K fd_want_many [(Str.ofString "sorts"), (Str.ofString "many"), (Str.ofString "copies")] 3 [] gb_want_many_3 (arrV [.p 0, .p 1, .p 2])) {gb_carried_2 : List Value → List Value → List Value} (b_carried_2 : KBn g.K fd_carried [(Str.ofString "sorts"), (Str.ofString "many")] 2 [] gb_carried_2 (arrV [.p 0, .p 1])) : BodyOk g base 5 nn_do_fit (Str.ofString "do_fit") (defScope (top 34)) f (defBody (top 34)) m_do_fit := by
  intro cdv A outer s H E F hr hgd
  have hu := hr.units
  have tk := takes_cxF (g := g) (base := base) (N := nn_do_fit) (qual := (Str.ofString "do_fit")) (scope := defScope (top 34)) (f := f) (cdv := cdv) (A := A) (outer := outer) (s := s) (H := H) (E := E)
  have hN := sc_do_fit.nd
  exact (sSCons (wExpr (sNE (wCall (ks := []) [.p 0, .p 1, .p 2] c_want_many.ok c_want_many.mg c_want_many.kp hr b_want_many_3 tk (wACons (wVar 0) (wACons (wVar 1) (wACons (wVar 2) sANil))) sKNil (Many.cons (Many.cons (Many.cons Many.nil))) Many.nil (dfl_nil rfl))))
    (sSCons (sRet (wCmp s_ge (sO (sZ (sNE (wCall (ks := []) [.p 0, .p 1] c_carried.ok c_carried.mg c_carried.kp hr b_carried_2 tk (wACons (wVar 0) (wACons (wVar 1) sANil)) sKNil (Many.cons (Many.cons Many.nil)) Many.nil (dfl_nil rfl))))) (sO (sZ (wBin s_mul (wPeek 1) (wPeek 2))))))
    sSNil))
theorem sc_is_known : FnScope nn_is_known [(Str.ofString "value"), (Str.ofString "names")] (defScope (top 9)) := ⟨rfl, rfl, rfl, by decide +kernel, rfl, by decide +kernel, by decide +kernel⟩
theorem bd_is_known (n_isinstance : g.mg (Str.ofString "isinstance") = none) (n_str : g.mg (Str.ofString "str") = none) : BodyOk g base 0 nn_is_known (Str.ofString "is_known") (defScope (top 9)) f (defBody (top 9)) m_is_known := by
  intro cdv A outer s H E F hr hgd
  have hu := hr.units
  have tk := takes_cxF (g := g) (base := base) (N := nn_is_known) (qual := (Str.ofString "is_known")) (scope := defScope (top 9)) (f := f) (cdv := cdv) (A := A) (outer := outer) (s := s) (H := H) (E := E)
  have hN := sc_is_known.nd
  exact (sSCons (sRet (wAndV (sZ (wIsi "str" n_isinstance (wPeek 0) (wT "str" n_str))) (wOneV (wInA (wVar 0) (wPeek 1)))))
    sSNil)
theorem sc_wrong_place : FnScope nn_wrong_place [(Str.ofString "value"), (Str.ofString "names")] (defScope (top 11)) := ⟨rfl, rfl, rfl, by decide +kernel, rfl, by decide +kernel, by decide +kernel⟩
theorem bd_wrong_place (n_enumerate : g.mg (Str.ofString "enumerate") = none) {f_is_list : Addr} {fd_is_list : FuncData} (c_is_list : Fnc g base 1 (Str.ofString "is_list") [(Str.ofString "value")] ph_is_list f_is_list fd_is_list) {f_is_known : Addr} {fd_is_known : FuncData} (c_is_known : Fnc g base 1 (Str.ofString "is_known") [(Str.ofString "value"), (Str.ofString "names")] ph_is_known f_is_known fd_is_known) {gb_is_list_1 : List Value → List Value → List Value} (b_is_list_1 : KBn g.K fd_is_list [(Str.ofString "value")] 1 [] gb_is_list_1 (arrV [.p 0])) {gb_is_known_2 : List Value → List Value → List Value} (b_is_known_2 : KBn g.K fd_is_known [(Str.ofString "value"), (Str.ofString "names")] 2 [] gb_is_known_2 (arrV [.p 0, .p 1])) : BodyOk g base 1 nn_wrong_place (Str.ofString "wrong_place") (defScope (top 11)) f (defBody (top 11)) m_wrong_place := by
  intro cdv A outer s H E F hr hgd
  have hu := hr.units
  have tk := takes_cxF (g := g) (base := base) (N := nn_wrong_place) (qual := (Str.ofString "wrong_place")) (scope := defScope (top 11)) (f := f) (cdv := cdv) (A := A) (outer := outer) (s := s) (H := H) (E := E)
  have hN := sc_wrong_place.nd
  exact (sSCons (sIf (wNotT (wTrue (sO (sZ (sNE (wCall (ks := []) [.p 0] c_is_list.ok c_is_list.mg c_is_list.kp hr b_is_list_1 tk (wACons (wVar 0) sANil) sKNil (Many.cons Many.nil) Many.nil (dfl_nil rfl))))))) (sSCons (sRet (wE wNon))
    sSNil) sSNil)
    (sSCons (wFor [2, 3] owns_cxF (wEnum n_enumerate (wACons (wVar 0) sANil)) (fun F => (wTgT (wTgsCons (wTgN hN) (wTgsCons (wTgN hN) sTgsNil)))) (fun F => (sSCons (sIf (PW.pt (sOrC (wNotT (wTrue (sO (sZ (sNE (wCall (ks := []) [.p 0, .p 1] c_is_known.ok c_is_known.mg c_is_known.kp hr b_is_known_2 tk (wACons (wVar 3) (wACons (wVar 1) sANil)) sKNil (Many.cons (Many.cons Many.nil)) Many.nil (dfl_nil rfl))))))) (sOr1 (wInAT (wVar 3) (sO (sZ (wSlice (wPeek 0) sPNone (sPSome (wPeek 2))))))))) (sSCons (sRet (wE (wVar 2)))
    sSNil) sSNil)
    sSNil)))
    (sSCons (sRet (wE wNon))
    sSNil)))
theorem sc_are_different : FnScope nn_are_different [(Str.ofString "value"), (Str.ofString "names")] (defScope (top 10)) := ⟨rfl, rfl, rfl, by decide +kernel, rfl, by decide +kernel, by decide +kernel⟩
theorem bd_are_different {f_is_list : Addr} {fd_is_list : FuncData} (c_is_list : Fnc g base 1 (Str.ofString "is_list") [(Str.ofString "value")] ph_is_list f_is_list fd_is_list) {f_wrong_place : Addr} {fd_wrong_place : FuncData} (c_wrong_place : Fnc g base 2 (Str.ofString "wrong_place") [(Str.ofString "value"), (Str.ofString "names")] ph_wrong_place f_wrong_place fd_wrong_place) {gb_is_list_1 : List Value → List Value → List Value} (b_is_list_1 : KBn g.K fd_is_list [(Str.ofString "value")] 1 [] gb_is_list_1 (arrV [.p 0])) {gb_wrong_place_2 : List Value → List Value → List Value} (b_wrong_place_2 : KBn g.K fd_wrong_place [(Str.ofString "value"), (Str.ofString "names")] 2 [] gb_wrong_place_2 (arrV [.p 0, .p 1])) : BodyOk g base 2 nn_are_different (Str.ofString "are_different") (defScope (top 10)) f (defBody (top 10)) m_are_different := by
  intro cdv A outer s H E F hr hgd
  have hu := hr.units
  have tk := takes_cxF (g := g) (base := base) (N := nn_are_different) (qual := (Str.ofString "are_different")) (scope := defScope (top 10)) (f := f) (cdv := cdv) (A := A) (outer := outer) (s := s) (H := H) (E := E)
  have hN := sc_are_different.nd
  exact (sSCons (sRet (wAndV (sZ (sNE (wCall (ks := []) [.p 0] c_is_list.ok c_is_list.mg c_is_list.kp hr b_is_list_1 tk (wACons (wVar 0) sANil) sKNil (Many.cons Many.nil) Many.nil (dfl_nil rfl)))) (wOneV (wCmp s_is (sO (sZ (sNE (wCall (ks := []) [.p 0, .p 1] c_wrong_place.ok c_wrong_place.mg c_wrong_place.kp hr b_wrong_place_2 tk (wACons (wVar 0) (wACons (wVar 1) sANil)) sKNil (Many.cons (Many.cons Many.nil)) Many.nil (dfl_nil rfl))))) (sO wNon)))))
    sSNil)
theorem sc_want_out : FnScope nn_want_out [(Str.ofString "house"), (Str.ofString "out")] (defScope (top 57)) := ⟨rfl, rfl, rfl, by decide +kernel, rfl, by decide +kernel, by decide +kernel⟩
theorem bd_want_out (k_House : Cls g.K (g.ca 0)) (na_House_own_hosts : NoAttr g.K (g.ca 0) (Str.ofString "own_hosts")) {f_are_different : Addr} {fd_are_different : FuncData} (c_are_different : Fnc g base 3 (Str.ofString "are_different") [(Str.ofString "value"), (Str.ofString "names")] ph_are_different f_are_different fd_are_different) {gb_are_different_2 : List Value → List Value → List Value} (b_are_different_2 : KBn g.K fd_are_different [(Str.ofString "value"), (Str.ofString "names")] 2 [] gb_are_different_2 (arrV [.p 0, .p 1])) : BodyOk g base 3 nn_want_out (Str.ofString "want_out") (defScope (top 57)) f (defBody (top 57)) m_want_out := by
  intro cdv A outer s H E F hr hgd
  have hu := hr.units
  have tk := takes_cxF (g := g) (base := base) (N := nn_want_out) (qual := (Str.ofString "want_out")) (scope := defScope (top 57)) (f := f) (cdv := cdv) (A := A) (outer := outer) (s := s) (H := H) (E := E)
  have hN := sc_want_out.nd
  exact (sSCons (sIf (wNotT (wTrue (sO (sZ (sNE (wCall (ks := []) [.p 0, .p 1] c_are_different.ok c_are_different.mg c_are_different.kp hr b_are_different_2 tk (wACons (wVar 1) (wACons (sZ (wAttr (cands := [(0, none)]) (wVar 0) (attr_fld k_House na_House_own_hosts attr_nil))) sANil)) sKNil (Many.cons (Many.cons Many.nil)) Many.nil (dfl_nil rfl))))))) (sSCons wNever
    sSNil) sSNil)
    sSNil)
theorem sc_House_rooms : FnScope nn_House_rooms [(Str.ofString "self")] (defScope (clsIt (top 51) 3)) := ⟨rfl, rfl, rfl, by decide +kernel, rfl, by decide +kernel, by decide +kernel⟩
theorem bd_House_rooms (k_House : Cls g.K (g.ca 0)) (na_House_own_hosts : NoAttr g.K (g.ca 0) (Str.ofString "own_hosts")) : BodyOk g base 0 nn_House_rooms (Str.ofString "House.rooms") (defScope (clsIt (top 51) 3)) f (defBody (clsIt (top 51) 3)) m_House_rooms := by
  intro cdv A outer s H E F hr hgd
  have hu := hr.units
  have tk := takes_cxF (g := g) (base := base) (N := nn_House_rooms) (qual := (Str.ofString "House.rooms")) (scope := defScope (clsIt (top 51) 3)) (f := f) (cdv := cdv) (A := A) (outer := outer) (s := s) (H := H) (E := E)
  have hN := sc_House_rooms.nd
  exact (sSCons (sRet (sDC (own := [(Str.ofString "name", 1), (Str.ofString "row", 2)]) rfl hN (wIItems (sZ (wAttr (cands := [(0, none)]) (wVar 0) (attr_fld k_House na_House_own_hosts attr_nil)))) (blkOk_by rfl) (fun F s H C cl fp => (wTgT (wTgsCons (wTgN hN) (wTgsCons (wTgN hN) sTgsNil)))) (fun F s H C cl fp => sTsNil) (fun F s H C cl fp => (wVar 1)) (fun F s H C cl fp => (sZ (wItem (wPeek 2) (sO wInt)))) (fun _ => rfl)))
    sSNil)
theorem sc_House_hosts : FnScope nn_House_hosts [(Str.ofString "self")] (defScope (clsIt (top 51) 1)) := ⟨rfl, rfl, rfl, by decide +kernel, rfl, by decide +kernel, by decide +kernel⟩
theorem bd_House_hosts (n_tuple : g.mg (Str.ofString "tuple") = none) (k_House : Cls g.K (g.ca 0)) (na_House_own_hosts : NoAttr g.K (g.ca 0) (Str.ofString "own_hosts")) : BodyOk g base 0 nn_House_hosts (Str.ofString "House.hosts") (defScope (clsIt (top 51) 1)) f (defBody (clsIt (top 51) 1)) m_House_hosts := by
  intro cdv A outer s H E F hr hgd
  have hu := hr.units
  have tk := takes_cxF (g := g) (base := base) (N := nn_House_hosts) (qual := (Str.ofString "House.hosts")) (scope := defScope (clsIt (top 51) 1)) (f := f) (cdv := cdv) (A := A) (outer := outer) (s := s) (H := H) (E := E)
  have hN := sc_House_hosts.nd
  exact (sSCons (sRet (wTy s_tupleA n_tuple (wOCons (sO (sZ (wAttr (cands := [(0, none)]) (wVar 0) (attr_fld k_House na_House_own_hosts attr_nil)))) sONil)))
    sSNil)
theorem sc_House_fellows : FnScope nn_House_fellows [(Str.ofString "self"), (Str.ofString "host")] (defScope (clsIt (top 51) 5)) := ⟨rfl, rfl, rfl, by decide +kernel, rfl, by decide +kernel, by decide +kernel⟩
theorem bd_House_fellows (k_House : Cls g.K (g.ca 0)) (na_House_own_hosts : NoAttr g.K (g.ca 0) (Str.ofString "own_hosts")) : BodyOk g base 0 nn_House_fellows (Str.ofString "House.fellows") (defScope (clsIt (top 51) 5)) f (defBody (clsIt (top 51) 5)) m_House_fellows := by
  intro cdv A outer s H E F hr hgd
  have hu := hr.units
  have tk := takes_cxF (g := g) (base := base) (N := nn_House_fellows) (qual := (Str.ofString "House.fellows")) (scope := defScope (clsIt (top 51) 5)) (f := f) (cdv := cdv) (A := A) (outer := outer) (s := s) (H := H) (E := E)
  have hN := sc_House_fellows.nd
  exact (sSCons (wSet (i := 2) hN (wItem (sO (sZ (wItem (sO (sZ (wAttr (cands := [(0, none)]) (wVar 0) (attr_fld k_House na_House_own_hosts attr_nil)))) (wPeek 1)))) (sO wInt)))
    (sSCons (sIf (wCmpT s_is (wPeek 2) (sO wNon)) (sSCons (sRet (wLst (wACons (wVar 1) sANil) (Many.cons Many.nil)))
    sSNil) sSNil)
    (sSCons (sRet (sLC (own := [(Str.ofString "other", 3), (Str.ofString "row", 4)]) rfl hN (wIItems (sZ (wAttr (cands := [(0, none)]) (wVar 0) (attr_fld k_House na_House_own_hosts attr_nil)))) (blkOk_by rfl) (fun F s H C cl fp => (wTgT (wTgsCons (wTgN hN) (wTgsCons (wTgN hN) sTgsNil)))) (fun F s H C cl fp => (sTsOne (wCmpT s_eq (sO (sZ (wItem (wPeek 4) (sO wInt)))) (wPeek 2)))) (fun F s H C cl fp => (wVar 3)) (fun _ => rfl)))
    sSNil)))
theorem sc_House_groups : FnScope nn_House_groups [(Str.ofString "self")] (defScope (clsIt (top 51) 4)) := ⟨rfl, rfl, rfl, by decide +kernel, rfl, by decide +kernel, by decide +kernel⟩
theorem bd_House_groups (hsy : SysIn g.K) (n_sorted : g.mg (Str.ofString "sorted") = none) (k_House : Cls g.K (g.ca 0)) {f_House_hosts : Addr} {fd_House_hosts : FuncData} (c_House_hosts : FnG g.P g.w g.K g.mg base (L2.CX g.P g.w) 1 f_House_hosts fd_House_hosts [(Str.ofString "self")] (spF g 1 ph_House_hosts)) {f_House_fellows : Addr} {fd_House_fellows : FuncData} (c_House_fellows : FnG g.P g.w g.K g.mg base (L2.CX g.P g.w) 1 f_House_fellows fd_House_fellows [(Str.ofString "self"), (Str.ofString "host")] (spF g 2 ph_House_fellows)) {p_House_hosts : Addr} (pp_House_hosts : PropOf g.K (g.ca 0) (Str.ofString "hosts") p_House_hosts f_House_hosts) (bi_House_hosts : L2.Binds g.K fd_House_hosts [(Str.ofString "self")] []) (mt_House_fellows : Meth g.K (g.ca 0) (Str.ofString "fellows") f_House_fellows) {gb_House_fellows_2 : List Value → List Value → List Value} (b_House_fellows_2 : KBn g.K fd_House_fellows [(Str.ofString "self"), (Str.ofString "host")] 2 [] gb_House_fellows_2 (arrV [.p 0, .p 1])) : BodyOk g base 2 nn_House_groups (Str.ofString "House.groups") (defScope (clsIt (top 51) 4)) f (defBody (clsIt (top 51) 4)) m_House_groups := by
  intro cdv A outer s H E F hr hgd
  have hu := hr.units
  have tk := takes_cxF (g := g) (base := base) (N := nn_House_groups) (qual := (Str.ofString "House.groups")) (scope := defScope (clsIt (top 51) 4)) (f := f) (cdv := cdv) (A := A) (outer := outer) (s := s) (H := H) (E := E)
  have hN := sc_House_groups.nd
  exact (sSCons (sRet (wB (s_sorted (hy := hsy)) n_sorted (wOCons (sO (sZ (sLC (own := [(Str.ofString "host", 1)]) rfl hN (wISeq (sZ (wAttr (cands := [(0, some ph_House_hosts)]) (wVar 0) (attr_prp (k := 1) (φ := ph_House_hosts) k_House pp_House_hosts c_House_hosts bi_House_hosts hr (by decide) attr_nil)))) (blkOk_by rfl) (fun F s H C cl fp => (wTgN hN)) (fun F s H C cl fp => (sTsOne (wCmpT s_eq (sO (sZ (wItem (sO (sZ (sNE (wMeth (k := 1) (n := 1) (ks := []) (m := (Str.ofString "fellows")) (cands := [(0, [.p 0], ph_House_fellows)]) hr takes0 (meth_cons k_House mt_House_fellows c_House_fellows b_House_fellows_2 (dfl_nil rfl) meth_nil) (wVar 0) (wACons (wVar 1) sANil) sKNil (Many.cons Many.nil) Many.nil)))) (sO wInt)))) (wPeek 1)))) (fun F s H C cl fp => (sZ (sNE (wMeth (k := 1) (n := 1) (ks := []) (m := (Str.ofString "fellows")) (cands := [(0, [.p 0], ph_House_fellows)]) hr takes0 (meth_cons k_House mt_House_fellows c_House_fellows b_House_fellows_2 (dfl_nil rfl) meth_nil) (wVar 0) (wACons (wVar 1) sANil) sKNil (Many.cons Many.nil) Many.nil)))) (fun _ => rfl)))) sONil)))
    sSNil)
theorem sc_House_things : FnScope nn_House_things [(Str.ofString "self")] (defScope (clsIt (top 51) 2)) := ⟨rfl, rfl, rfl, by decide +kernel, rfl, by decide +kernel, by decide +kernel⟩
theorem bd_House_things (n_tuple : g.mg (Str.ofString "tuple") = none) (k_House : Cls g.K (g.ca 0)) (na_House_own_things : NoAttr g.K (g.ca 0) (Str.ofString "own_things")) : BodyOk g base 0 nn_House_things (Str.ofString "House.things") (defScope (clsIt (top 51) 2)) f (defBody (clsIt (top 51) 2)) m_House_things := by
  intro cdv A outer s H E F hr hgd
  have hu := hr.units
  have tk := takes_cxF (g := g) (base := base) (N := nn_House_things) (qual := (Str.ofString "House.things")) (scope := defScope (clsIt (top 51) 2)) (f := f) (cdv := cdv) (A := A) (outer := outer) (s := s) (H := H) (E := E)
  have hN := sc_House_things.nd
  exact (sSCons (sRet (wTy s_tupleA n_tuple (wOCons (sO (sZ (wAttr (cands := [(0, none)]) (wVar 0) (attr_fld k_House na_House_own_things attr_nil)))) sONil)))
    sSNil)
theorem sc_want_thing : FnScope nn_want_thing [(Str.ofString "house"), (Str.ofString "thing")] (defScope (top 56)) := ⟨rfl, rfl, rfl, by decide +kernel, rfl, by decide +kernel, by decide +kernel⟩
theorem bd_want_thing (k_House : Cls g.K (g.ca 0)) (na_House_own_things : NoAttr g.K (g.ca 0) (Str.ofString "own_things")) {f_is_known : Addr} {fd_is_known : FuncData} (c_is_known : Fnc g base 1 (Str.ofString "is_known") [(Str.ofString "value"), (Str.ofString "names")] ph_is_known f_is_known fd_is_known) {gb_is_known_2 : List Value → List Value → List Value} (b_is_known_2 : KBn g.K fd_is_known [(Str.ofString "value"), (Str.ofString "names")] 2 [] gb_is_known_2 (arrV [.p 0, .p 1])) : BodyOk g base 1 nn_want_thing (Str.ofString "want_thing") (defScope (top 56)) f (defBody (top 56)) m_want_thing := by
  intro cdv A outer s H E F hr hgd
  have hu := hr.units
  have tk := takes_cxF (g := g) (base := base) (N := nn_want_thing) (qual := (Str.ofString "want_thing")) (scope := defScope (top 56)) (f := f) (cdv := cdv) (A := A) (outer := outer) (s := s) (H := H) (E := E)
  have hN := sc_want_thing.nd
  exact (sSCons (sIf (wNotT (wTrue (sO (sZ (sNE (wCall (ks := []) [.p 0, .p 1] c_is_known.ok c_is_known.mg c_is_known.kp hr b_is_known_2 tk (wACons (wVar 1) (wACons (sZ (wAttr (cands := [(0, none)]) (wVar 0) (attr_fld k_House na_House_own_things attr_nil))) sANil)) sKNil (Many.cons (Many.cons Many.nil)) Many.nil (dfl_nil rfl))))))) (sSCons wNever
    sSNil) sSNil)
    sSNil)
theorem sc_House_copies : FnScope nn_House_copies [(Str.ofString "self"), (Str.ofString "thing")] (defScope (clsIt (top 51) 7)) := ⟨rfl, rfl, rfl, by decide +kernel, rfl, by decide +kernel, by decide +kernel⟩
theorem bd_House_copies (k_House : Cls g.K (g.ca 0)) (na_House_own_things : NoAttr g.K (g.ca 0) (Str.ofString "own_things")) {f_want_thing : Addr} {fd_want_thing : FuncData} (c_want_thing : Fnc g base 2 (Str.ofString "want_thing") [(Str.ofString "house"), (Str.ofString "thing")] ph_want_thing f_want_thing fd_want_thing) {gb_want_thing_2 : List Value → List Value → List Value} (b_want_thing_2 : KBn g.K fd_want_thing [(Str.ofString "house"), (Str.ofString "thing")] 2 [] gb_want_thing_2 (arrV [.p 0, .p 1])) : BodyOk g base 2 nn_House_copies (Str.ofString "House.copies") (defScope (clsIt (top 51) 7)) f (defBody (clsIt (top 51) 7)) m_House_copies := by
  intro cdv A outer s H E F hr hgd
  have hu := hr.units
  have tk := takes_cxF (g := g) (base := base) (N := nn_House_copies) (qual := (Str.ofString "House.copies")) (scope := defScope (clsIt (top 51) 7)) (f := f) (cdv := cdv) (A := A) (outer := outer) (s := s) (H := H) (E := E)
  have hN := sc_House_copies.nd
  exact (sSCons (wExpr (sNE (wCall (ks := []) [.p 0, .p 1] c_want_thing.ok c_want_thing.mg c_want_thing.kp hr b_want_thing_2 tk (wACons (wVar 0) (wACons (wVar 1) sANil)) sKNil (Many.cons (Many.cons Many.nil)) Many.nil (dfl_nil rfl))))
    (sSCons (sRet (wItem (sO (sZ (wAttr (cands := [(0, none)]) (wVar 0) (attr_fld k_House na_House_own_things attr_nil)))) (wPeek 1)))
    sSNil))
theorem sc_Sums_init : FnScope nn_Sums_init [(Str.ofString "self"), (Str.ofString "house"), (Str.ofString "out")] (defScope (clsIt (top 60) 0)) := ⟨rfl, rfl, rfl, by decide +kernel, rfl, by decide +kernel, by decide +kernel⟩
theorem bd_Sums_init (k_Sums : Cls g.K (g.ca 1)) (k_House : Cls g.K (g.ca 0)) (na_Sums_own_rooms : NoAttr g.K (g.ca 1) (Str.ofString "own_rooms")) (na_Sums_own_groups : NoAttr g.K (g.ca 1) (Str.ofString "own_groups")) (na_Sums_own_copies : NoAttr g.K (g.ca 1) (Str.ofString "own_copies")) {f_House_rooms : Addr} {fd_House_rooms : FuncData} (c_House_rooms : FnG g.P g.w g.K g.mg base (L2.CX g.P g.w) 1 f_House_rooms fd_House_rooms [(Str.ofString "self")] (spF g 1 ph_House_rooms)) {f_House_groups : Addr} {fd_House_groups : FuncData} (c_House_groups : FnG g.P g.w g.K g.mg base (L2.CX g.P g.w) 3 f_House_groups fd_House_groups [(Str.ofString "self")] (spF g 1 ph_House_groups)) {f_House_things : Addr} {fd_House_things : FuncData} (c_House_things : FnG g.P g.w g.K g.mg base (L2.CX g.P g.w) 1 f_House_things fd_House_things [(Str.ofString "self")] (spF g 1 ph_House_things)) {f_House_copies : Addr} {fd_House_copies : FuncData} (c_House_copies : FnG g.P g.w g.K g.mg base (L2.CX g.P g.w) 3 f_House_copies fd_House_copies [(Str.ofString "self"), (Str.ofString "thing")] (spF g 2 ph_House_copies)) {p_House_rooms : Addr} (pp_House_rooms : PropOf g.K (g.ca 0) (Str.ofString "rooms") p_House_rooms f_House_rooms) (bi_House_rooms : L2.Binds g.K fd_House_rooms [(Str.ofString "self")] []) {p_House_groups : Addr} (pp_House_groups : PropOf g.K (g.ca 0) (Str.ofString "groups") p_House_groups f_House_groups) (bi_House_groups : L2.Binds g.K fd_House_groups [(Str.ofString "self")] []) {p_House_things : Addr} (pp_House_things : PropOf g.K (g.ca 0) (Str.ofString "things") p_House_things f_House_things) (bi_House_things : L2.Binds g.K fd_House_things [(Str.ofString "self")] []) (mt_House_copies : Meth g.K (g.ca 0) (Str.ofString "copies") f_House_copies) {gb_House_copies_2 : List Value → List Value → List Value} (b_House_copies_2 : KBn g.K fd_House_copies [(Str.ofString "self"), (Str.ofString "thing")] 2 [] gb_House_copies_2 (arrV [.p 0, .p 1])) : BodyOk g base 4 nn_Sums_init (Str.ofString "Sums.__init__") (defScope (clsIt (top 60) 0)) f (defBody (clsIt (top 60) 0)) m_Sums_init := by
  intro cdv A outer s H E F hr hgd
  have hu := hr.units
  have tk := takes_cxF (g := g) (base := base) (N := nn_Sums_init) (qual := (Str.ofString "Sums.__init__")) (scope := defScope (clsIt (top 60) 0)) (f := f) (cdv := cdv) (A := A) (outer := outer) (s := s) (H := H) (E := E)
  have hN := sc_Sums_init.nd
  exact (sSCons (wStF (ip := 0) (pv 0) (sZ (sDC (own := [(Str.ofString "host", 5), (Str.ofString "many", 6)]) rfl hN (wIItems (sZ (wAttr (cands := [(0, some ph_House_rooms)]) (wVar 1) (attr_prp (k := 1) (φ := ph_House_rooms) k_House pp_House_rooms c_House_rooms bi_House_rooms hr (by decide) attr_nil)))) (blkOk_by rfl) (fun F s H C cl fp => (wTgT (wTgsCons (wTgN hN) (wTgsCons (wTgN hN) sTgsNil)))) (fun F s H C cl fp => (sTsOne (wNinAT (wVar 5) (wPeek 2)))) (fun F s H C cl fp => (wVar 5)) (fun F s H C cl fp => (wVar 6)) (fun _ => rfl))) k_Sums na_Sums_own_rooms)
    (sSCons (wStF (ip := 0) (pv 0) (sZ (sLC (own := [(Str.ofString "group", 3)]) rfl hN (wISeq (sZ (wAttr (cands := [(0, some ph_House_groups)]) (wVar 1) (attr_prp (k := 3) (φ := ph_House_groups) k_House pp_House_groups c_House_groups bi_House_groups hr (by decide) attr_nil)))) (blkOk_by rfl) (fun F s H C cl fp => (wTgN hN)) (fun F s H C cl fp => sTsNil) (fun F s H C cl fp => (sZ (sLC (own := [(Str.ofString "host", 5)]) rfl hN (wISeq (wVar 3)) (blkOk_by rfl) (fun F s H C cl fp => (wTgN hN)) (fun F s H C cl fp => (sTsOne (wNinAT (wVar 5) (wPeek 2)))) (fun F s H C cl fp => (wVar 5)) (fun _ => rfl)))) (fun _ => rfl))) k_Sums na_Sums_own_groups)
    (sSCons (wStF (ip := 0) (pv 0) (sZ (sLC (own := [(Str.ofString "thing", 4)]) rfl hN (wISeq (sZ (wAttr (cands := [(0, some ph_House_things)]) (wVar 1) (attr_prp (k := 1) (φ := ph_House_things) k_House pp_House_things c_House_things bi_House_things hr (by decide) attr_nil)))) (blkOk_by rfl) (fun F s H C cl fp => (wTgN hN)) (fun F s H C cl fp => sTsNil) (fun F s H C cl fp => (sZ (sNE (wMeth (k := 3) (n := 1) (ks := []) (m := (Str.ofString "copies")) (cands := [(0, [.p 0], ph_House_copies)]) hr takes0 (meth_cons k_House mt_House_copies c_House_copies b_House_copies_2 (dfl_nil rfl) meth_nil) (wVar 1) (wACons (wVar 4) sANil) sKNil (Many.cons Many.nil) Many.nil)))) (fun _ => rfl))) k_Sums na_Sums_own_copies)
    sSNil)))
theorem sc_subsets : FnScope nn_subsets [(Str.ofString "names")] (defScope (top 59)) := ⟨rfl, rfl, rfl, by decide +kernel, rfl, by decide +kernel, by decide +kernel⟩
theorem bd_subsets (n_len : g.mg (Str.ofString "len") = none) (n_range : g.mg (Str.ofString "range") = none) (n_list : g.mg (Str.ofString "list") = none) : BodyOk g base 0 nn_subsets (Str.ofString "subsets") (defScope (top 59)) f (defBody (top 59)) m_subsets := by
  intro cdv A outer s H E F hr hgd
  have hu := hr.units
  have tk := takes_cxF (g := g) (base := base) (N := nn_subsets) (qual := (Str.ofString "subsets")) (scope := defScope (top 59)) (f := f) (cdv := cdv) (A := A) (outer := outer) (s := s) (H := H) (E := E)
  have hN := sc_subsets.nd
  exact (sSCons (wPar2 (i := 2) (j := 3) hN (wLst (wACons (sZ (wLst sANil Many.nil)) sANil) (Many.cons Many.nil)) (fun F => (wLst (wACons (sZ (wLst sANil Many.nil)) sANil) (Many.cons Many.nil))))
    (sSCons (wFor [1] owns_cxF (wRng1 n_range (wACons (sZ (wB s_lenA n_len (wOCons (wPeek 0) sONil))) sANil)) (fun F => (wTgN hN)) (fun F => (sSCons (wSet (i := 4) hN (wLst sANil Many.nil))
    (sSCons (wFor [5] owns_cxF (wISeq (wVar 3)) (fun F => (wTgN hN)) (fun F => (sSCons (wExtend (ip := 4) (pv 4) (wNewL (sLC (own := [(Str.ofString "name", 6)]) rfl hN (wISeq (wVar 0)) (blkOk_by rfl) (fun F s H C cl fp => (wTgN hN)) (fun F s H C cl fp => (sTsOne (PW.pt (sOrC (wCmpT s_eq (wPeek 5) (sO (sZ (wLst sANil Many.nil)))) (sOr1 (wCmpT s_lt (sO (sZ (wItem (wPeek 5) (sO (sZ (wNeg (sO wInt))))))) (wPeek 6))))))) (fun F s H C cl fp => (sZ (wBin s_add (wPeek 5) (sO (sZ (wLst (wACons (wVar 6) sANil) (Many.cons Many.nil))))))) (fun _ => rfl))))
    sSNil)))
    (sSCons (wExtend (ip := 2) (pv 2) (wOwnL (pv 4)))
    (sSCons (wSet (i := 3) hN (wTy s_listA n_list (wOCons (wPeek 4) sONil)))
    sSNil))))))
    (sSCons (sRet (wE (wVar 2)))
    sSNil)))
theorem sc_Sums_sets : FnScope nn_Sums_sets [(Str.ofString "self")] (defScope (clsIt (top 60) 1)) := ⟨rfl, rfl, rfl, by decide +kernel, rfl, by decide +kernel, by decide +kernel⟩
theorem bd_Sums_sets (n_list : g.mg (Str.ofString "list") = none) (k_Sums : Cls g.K (g.ca 1)) (na_Sums_own_rooms : NoAttr g.K (g.ca 1) (Str.ofString "own_rooms")) {f_subsets : Addr} {fd_subsets : FuncData} (c_subsets : Fnc g base 1 (Str.ofString "subsets") [(Str.ofString "names")] ph_subsets f_subsets fd_subsets) {gb_subsets_1 : List Value → List Value → List Value} (b_subsets_1 : KBn g.K fd_subsets [(Str.ofString "names")] 1 [] gb_subsets_1 (arrV [.p 0])) : BodyOk g base 1 nn_Sums_sets (Str.ofString "Sums.sets") (defScope (clsIt (top 60) 1)) f (defBody (clsIt (top 60) 1)) m_Sums_sets := by
  intro cdv A outer s H E F hr hgd
  have hu := hr.units
  have tk := takes_cxF (g := g) (base := base) (N := nn_Sums_sets) (qual := (Str.ofString "Sums.sets")) (scope := defScope (clsIt (top 60) 1)) (f := f) (cdv := cdv) (A := A) (outer := outer) (s := s) (H := H) (E := E)
  have hN := sc_Sums_sets.nd
  exact (sSCons (sRet (sNE (wCall (ks := []) [.p 0] c_subsets.ok c_subsets.mg c_subsets.kp hr b_subsets_1 tk (wACons (sZ (wTy s_listA n_list (wOCons (sO (sZ (wAttr (cands := [(1, none)]) (wVar 0) (attr_fld k_Sums na_Sums_own_rooms attr_nil)))) sONil))) sANil) sKNil (Many.cons Many.nil) Many.nil (dfl_nil rfl))))
    sSNil)
theorem sc_Sums_left : FnScope nn_Sums_left [(Str.ofString "self"), (Str.ofString "some")] (defScope (clsIt (top 60) 2)) := ⟨rfl, rfl, rfl, by decide +kernel, rfl, by decide +kernel, by decide +kernel⟩
theorem bd_Sums_left (n_any : g.mg (Str.ofString "any") = none) (n_len : g.mg (Str.ofString "len") = none) (k_Sums : Cls g.K (g.ca 1)) (na_Sums_own_groups : NoAttr g.K (g.ca 1) (Str.ofString "own_groups")) : BodyOk g base 0 nn_Sums_left (Str.ofString "Sums.left") (defScope (clsIt (top 60) 2)) f (defBody (clsIt (top 60) 2)) m_Sums_left := by
  intro cdv A outer s H E F hr hgd
  have hu := hr.units
  have tk := takes_cxF (g := g) (base := base) (N := nn_Sums_left) (qual := (Str.ofString "Sums.left")) (scope := defScope (clsIt (top 60) 2)) (f := f) (cdv := cdv) (A := A) (outer := outer) (s := s) (H := H) (E := E)
  have hN := sc_Sums_left.nd
  exact (sSCons (sRet (wB s_lenA n_len (wOCons (sO (sZ (sLC (own := [(Str.ofString "group", 2)]) rfl hN (wISeq (sZ (wAttr (cands := [(1, none)]) (wVar 0) (attr_fld k_Sums na_Sums_own_groups attr_nil)))) (blkOk_by rfl) (fun F s H C cl fp => (wTgN hN)) (fun F s H C cl fp => (sTsOne (wTrue (sO (sZ (wB s_any n_any (wOCons (sO (sZ (sLC (own := [(Str.ofString "host", 3)]) rfl hN (wISeq (wVar 2)) (blkOk_by rfl) (fun F s H C cl fp => (wTgN hN)) (fun F s H C cl fp => sTsNil) (fun F s H C cl fp => (sZ (wNinA (wVar 3) (wPeek 1)))) (fun _ => rfl)))) sONil))))))) (fun F s H C cl fp => (wVar 2)) (fun _ => rfl)))) sONil)))
    sSNil)
theorem sc_Sums_need : FnScope nn_Sums_need [(Str.ofString "self"), (Str.ofString "some")] (defScope (clsIt (top 60) 3)) := ⟨rfl, rfl, rfl, by decide +kernel, rfl, by decide +kernel, by decide +kernel⟩
theorem bd_Sums_need (n_max : g.mg (Str.ofString "max") = none) (n_sum : g.mg (Str.ofString "sum") = none) (k_Sums : Cls g.K (g.ca 1)) (k_House : Cls g.K (g.ca 0)) (na_Sums_own_copies : NoAttr g.K (g.ca 1) (Str.ofString "own_copies")) (na_House_own_copies : NoAttr g.K (g.ca 0) (Str.ofString "own_copies")) {f_Sums_left : Addr} {fd_Sums_left : FuncData} (c_Sums_left : FnG g.P g.w g.K g.mg base (L2.CX g.P g.w) 1 f_Sums_left fd_Sums_left [(Str.ofString "self"), (Str.ofString "some")] (spF g 2 ph_Sums_left)) (mt_Sums_left : Meth g.K (g.ca 1) (Str.ofString "left") f_Sums_left) {gb_Sums_left_2 : List Value → List Value → List Value} (b_Sums_left_2 : KBn g.K fd_Sums_left [(Str.ofString "self"), (Str.ofString "some")] 2 [] gb_Sums_left_2 (arrV [.p 0, .p 1])) : BodyOk g base 1 nn_Sums_need (Str.ofString "Sums.need") (defScope (clsIt (top 60) 3)) f (defBody (clsIt (top 60) 3)) m_Sums_need := by
  intro cdv A outer s H E F hr hgd
  have hu := hr.units
  have tk := takes_cxF (g := g) (base := base) (N := nn_Sums_need) (qual := (Str.ofString "Sums.need")) (scope := defScope (clsIt (top 60) 3)) (f := f) (cdv := cdv) (A := A) (outer := outer) (s := s) (H := H) (E := E)
  have hN := sc_Sums_need.nd
  exact (sSCons (wSet (i := 2) hN (sNE (wMeth (k := 1) (n := 1) (ks := []) (m := (Str.ofString "left")) (cands := [(1, [.p 0], ph_Sums_left)]) hr tk (meth_cons k_Sums mt_Sums_left c_Sums_left b_Sums_left_2 (dfl_nil rfl) meth_nil) (wVar 0) (wACons (wVar 1) sANil) sKNil (Many.cons Many.nil) Many.nil)))
    (sSCons (sRet (wB s_sum n_sum (wOCons (sO (sZ (sLC (own := [(Str.ofString "many", 3)]) rfl hN (wISeq (sZ (wAttr (cands := [(0, none), (1, none)]) (wVar 0) (attr_fld k_House na_House_own_copies (attr_fld k_Sums na_Sums_own_copies attr_nil))))) (blkOk_by rfl) (fun F s H C cl fp => (wTgN hN)) (fun F s H C cl fp => sTsNil) (fun F s H C cl fp => (sZ (wB s_max n_max (wOCons (sO wInt) (wOCons (sO (sZ (wBin s_sub (wPeek 3) (wPeek 2)))) sONil))))) (fun _ => rfl)))) sONil)))
    sSNil))
theorem sc_Sums_room_sum : FnScope nn_Sums_room_sum [(Str.ofString "self"), (Str.ofString "some")] (defScope (clsIt (top 60) 4)) := ⟨rfl, rfl, rfl, by decide +kernel, rfl, by decide +kernel, by decide +kernel⟩
theorem bd_Sums_room_sum (n_sum : g.mg (Str.ofString "sum") = none) (k_Sums : Cls g.K (g.ca 1)) (na_Sums_own_rooms : NoAttr g.K (g.ca 1) (Str.ofString "own_rooms")) : BodyOk g base 0 nn_Sums_room_sum (Str.ofString "Sums.room_sum") (defScope (clsIt (top 60) 4)) f (defBody (clsIt (top 60) 4)) m_Sums_room_sum := by
  intro cdv A outer s H E F hr hgd
  have hu := hr.units
  have tk := takes_cxF (g := g) (base := base) (N := nn_Sums_room_sum) (qual := (Str.ofString "Sums.room_sum")) (scope := defScope (clsIt (top 60) 4)) (f := f) (cdv := cdv) (A := A) (outer := outer) (s := s) (H := H) (E := E)
  have hN := sc_Sums_room_sum.nd
  exact (sSCons (sRet (wB s_sum n_sum (wOCons (sO (sZ (sLC (own := [(Str.ofString "host", 2)]) rfl hN (wISeq (wVar 1)) (blkOk_by rfl) (fun F s H C cl fp => (wTgN hN)) (fun F s H C cl fp => sTsNil) (fun F s H C cl fp => (sZ (wItem (sO (sZ (wAttr (cands := [(1, none)]) (wVar 0) (attr_fld k_Sums na_Sums_own_rooms attr_nil)))) (wPeek 2)))) (fun _ => rfl)))) sONil)))
    sSNil)
theorem sc_Sums_excess : FnScope nn_Sums_excess [(Str.ofString "self"), (Str.ofString "some")] (defScope (clsIt (top 60) 5)) := ⟨rfl, rfl, rfl, by decide +kernel, rfl, by decide +kernel, by decide +kernel⟩
theorem bd_Sums_excess (k_Sums : Cls g.K (g.ca 1)) {f_Sums_need : Addr} {fd_Sums_need : FuncData} (c_Sums_need : FnG g.P g.w g.K g.mg base (L2.CX g.P g.w) 2 f_Sums_need fd_Sums_need [(Str.ofString "self"), (Str.ofString "some")] (spF g 2 ph_Sums_need)) {f_Sums_room_sum : Addr} {fd_Sums_room_sum : FuncData} (c_Sums_room_sum : FnG g.P g.w g.K g.mg base (L2.CX g.P g.w) 1 f_Sums_room_sum fd_Sums_room_sum [(Str.ofString "self"), (Str.ofString "some")] (spF g 2 ph_Sums_room_sum)) (mt_Sums_need : Meth g.K (g.ca 1) (Str.ofString "need") f_Sums_need) (mt_Sums_room_sum : Meth g.K (g.ca 1) (Str.ofString "room_sum") f_Sums_room_sum) {gb_Sums_need_2 : List Value → List Value → List Value} (b_Sums_need_2 : KBn g.K fd_Sums_need [(Str.ofString "self"), (Str.ofString "some")] 2 [] gb_Sums_need_2 (arrV [.p 0, .p 1])) {gb_Sums_room_sum_2 : List Value → List Value → List Value} (b_Sums_room_sum_2 : KBn g.K fd_Sums_room_sum [(Str.ofString "self"), (Str.ofString "some")] 2 [] gb_Sums_room_sum_2 (arrV [.p 0, .p 1])) : BodyOk g base 2 nn_Sums_excess (Str.ofString "Sums.excess") (defScope (clsIt (top 60) 5)) f (defBody (clsIt (top 60) 5)) m_Sums_excess := by
  intro cdv A outer s H E F hr hgd
  have hu := hr.units
  have tk := takes_cxF (g := g) (base := base) (N := nn_Sums_excess) (qual := (Str.ofString "Sums.excess")) (scope := defScope (clsIt (top 60) 5)) (f := f) (cdv := cdv) (A := A) (outer := outer) (s := s) (H := H) (E := E)
  have hN := sc_Sums_excess.nd
  exact (sSCons (sRet (wBin s_sub (sO (sZ (sNE (wMeth (k := 2) (n := 1) (ks := []) (m := (Str.ofString "need")) (cands := [(1, [.p 0], ph_Sums_need)]) hr tk (meth_cons k_Sums mt_Sums_need c_Sums_need b_Sums_need_2 (dfl_nil rfl) meth_nil) (wVar 0) (wACons (wVar 1) sANil) sKNil (Many.cons Many.nil) Many.nil)))) (sO (sZ (sNE (wMeth (k := 1) (n := 1) (ks := []) (m := (Str.ofString "room_sum")) (cands := [(1, [.p 0], ph_Sums_room_sum)]) hr tk (meth_cons k_Sums mt_Sums_room_sum c_Sums_room_sum b_Sums_room_sum_2 (dfl_nil rfl) meth_nil) (wVar 0) (wACons (wVar 1) sANil) sKNil (Many.cons Many.nil) Many.nil))))))
    sSNil)
theorem sc_can_be_out : FnScope nn_can_be_out [(Str.ofString "house"), (Str.ofString "out")] (defScope (top 61)) := ⟨rfl, rfl, rfl, by decide +kernel, rfl, by decide +kernel, by decide +kernel⟩
theorem bd_can_be_out (n_all : g.mg (Str.ofString "all") = none) (k_Sums : Cls g.K (g.ca 1)) {f_want_out : Addr} {fd_want_out : FuncData} (c_want_out : Fnc g base 4 (Str.ofString "want_out") [(Str.ofString "house"), (Str.ofString "out")] ph_want_out f_want_out fd_want_out) {f_Sums_init : Addr} {fd_Sums_init : FuncData} (c_Sums_init : Kls g base 5 1 (Str.ofString "Sums") [(Str.ofString "self"), (Str.ofString "house"), (Str.ofString "out")] ph_Sums_init f_Sums_init fd_Sums_init) {f_Sums_sets : Addr} {fd_Sums_sets : FuncData} (c_Sums_sets : FnG g.P g.w g.K g.mg base (L2.CX g.P g.w) 2 f_Sums_sets fd_Sums_sets [(Str.ofString "self")] (spF g 1 ph_Sums_sets)) {f_Sums_excess : Addr} {fd_Sums_excess : FuncData} (c_Sums_excess : FnG g.P g.w g.K g.mg base (L2.CX g.P g.w) 3 f_Sums_excess fd_Sums_excess [(Str.ofString "self"), (Str.ofString "some")] (spF g 2 ph_Sums_excess)) (mt_Sums_sets : Meth g.K (g.ca 1) (Str.ofString "sets") f_Sums_sets) (mt_Sums_excess : Meth g.K (g.ca 1) (Str.ofString "excess") f_Sums_excess) {gb_want_out_2 : List Value → List Value → List Value} (b_want_out_2 : KBn g.K fd_want_out [(Str.ofString "house"), (Str.ofString "out")] 2 [] gb_want_out_2 (arrV [.p 0, .p 1])) {gb_Sums_init_3 : List Value → List Value → List Value} (b_Sums_init_3 : KBn g.K fd_Sums_init [(Str.ofString "self"), (Str.ofString "house"), (Str.ofString "out")] 3 [] gb_Sums_init_3 (arrV [.p 0, .p 1, .p 2])) {gb_Sums_sets_1 : List Value → List Value → List Value} (b_Sums_sets_1 : KBn g.K fd_Sums_sets [(Str.ofString "self")] 1 [] gb_Sums_sets_1 (arrV [.p 0])) {gb_Sums_excess_2 : List Value → List Value → List Value} (b_Sums_excess_2 : KBn g.K fd_Sums_excess [(Str.ofString "self"), (Str.ofString "some")] 2 [] gb_Sums_excess_2 (arrV [.p 0, .p 1])) : BodyOk g base 6 nn_can_be_out (Str.ofString "can_be_out") (defScope (top 61)) f (defBody (top 61)) m_can_be_out := by
  intro cdv A outer s H E F hr hgd
  have hu := hr.units
  have tk := takes_cxF (g := g) (base := base) (N := nn_can_be_out) (qual := (Str.ofString "can_be_out")) (scope := defScope (top 61)) (f := f) (cdv := cdv) (A := A) (outer := outer) (s := s) (H := H) (E := E)
  have hN := sc_can_be_out.nd
  exact (sSCons (wExpr (sNE (wCall (ks := []) [.p 0, .p 1] c_want_out.ok c_want_out.mg c_want_out.kp hr b_want_out_2 tk (wACons (wVar 0) (wACons (wVar 1) sANil)) sKNil (Many.cons (Many.cons Many.nil)) Many.nil (dfl_nil rfl))))
    (sSCons (wSet (i := 2) hN (sNE (wMake (n := 2) (ks := []) [.p 0, .p 1] c_Sums_init.mkk c_Sums_init.ok c_Sums_init.mg hr b_Sums_init_3 tk (wACons (wVar 0) (wACons (wVar 1) sANil)) sKNil (Many.cons (Many.cons Many.nil)) Many.nil (dfl_nil rfl))))
    (sSCons (sRet (wB s_all n_all (wOCons (sO (sZ (sLC (own := [(Str.ofString "some", 3)]) rfl hN (wISeq (sZ (sNE (wMeth0 (k := 2) (ks := []) (m := (Str.ofString "sets")) (cands := [(1, [], ph_Sums_sets)]) hr tk (meth_cons k_Sums mt_Sums_sets c_Sums_sets b_Sums_sets_1 (dfl_nil rfl) meth_nil) (wVar 2) sKNil Many.nil)))) (blkOk_by rfl) (fun F s H C cl fp => (wTgN hN)) (fun F s H C cl fp => sTsNil) (fun F s H C cl fp => (sZ (wCmp s_le (sO (sZ (sNE (wMeth (k := 3) (n := 1) (ks := []) (m := (Str.ofString "excess")) (cands := [(1, [.p 0], ph_Sums_excess)]) hr takes0 (meth_cons k_Sums mt_Sums_excess c_Sums_excess b_Sums_excess_2 (dfl_nil rfl) meth_nil) (wVar 2) (wACons (wVar 3) sANil) sKNil (Many.cons Many.nil) Many.nil)))) (sO wInt)))) (fun _ => rfl)))) sONil)))
    sSNil)))
theorem sc_is_name : FnScope nn_is_name [(Str.ofString "value")] (defScope (top 8)) := ⟨rfl, rfl, rfl, by decide +kernel, rfl, by decide +kernel, by decide +kernel⟩
theorem bd_is_name (n_isinstance : g.mg (Str.ofString "isinstance") = none) (n_str : g.mg (Str.ofString "str") = none) (n_len : g.mg (Str.ofString "len") = none) (n_all : g.mg (Str.ofString "all") = none) (i_MOST_NAME : ∃ t, g.mg (Str.ofString "MOST_NAME") = some (.int 6 t)) (s_LETTERS : ∃ t, g.mg (Str.ofString "LETTERS") = some (.str (Str.ofString "abcdefghijklmnopqrstuvwxyz") t)) (s_DIGITS : ∃ t, g.mg (Str.ofString "DIGITS") = some (.str (Str.ofString "0123456789") t)) : BodyOk g base 0 nn_is_name (Str.ofString "is_name") (defScope (top 8)) f (defBody (top 8)) m_is_name := by
  intro cdv A outer s H E F hr hgd
  have hu := hr.units
  have tk := takes_cxF (g := g) (base := base) (N := nn_is_name) (qual := (Str.ofString "is_name")) (scope := defScope (top 8)) (f := f) (cdv := cdv) (A := A) (outer := outer) (s := s) (H := H) (E := E)
  have hN := sc_is_name.nd
  exact (sSCons (sIf (PW.pt (sOrC (wNotT (wTrue (sO (sZ (wIsi "str" n_isinstance (wPeek 0) (wT "str" n_str)))))) (sOr1 (wNotT (wChainT s_le s_le (sO wInt) (sO (sZ (wB s_lenA n_len (wOCons (wPeek 0) sONil)))) (sO (wGInt i_MOST_NAME))))))) (sSCons (sRet (wE wBl))
    sSNil) sSNil)
    (sSCons (sRet (wAndV (sZ (wInA (sZ (wItem (wPeek 0) (sO wInt))) (sO (wGStr s_LETTERS)))) (wOneV (wB s_all n_all (wOCons (sO (sZ (sLC (own := [(Str.ofString "sign", 1)]) rfl hN (wISeq (wVar 0)) (blkOk_by rfl) (fun F s H C cl fp => (wTgN hN)) (fun F s H C cl fp => sTsNil) (fun F s H C cl fp => (sZ (wInA (wVar 1) (sO (sZ (wBin s_add (sO (wGStr s_LETTERS)) (sO (wGStr s_DIGITS)))))))) (fun _ => rfl)))) sONil)))))
    sSNil))
theorem sc_is_host_row : FnScope nn_is_host_row [(Str.ofString "value")] (defScope (top 43)) := ⟨rfl, rfl, rfl, by decide +kernel, rfl, by decide +kernel, by decide +kernel⟩
theorem bd_is_host_row (n_isinstance : g.mg (Str.ofString "isinstance") = none) (n_tuple : g.mg (Str.ofString "tuple") = none) (n_len : g.mg (Str.ofString "len") = none) {f_is_count : Addr} {fd_is_count : FuncData} (c_is_count : Fnc g base 2 (Str.ofString "is_count") [(Str.ofString "value")] ph_is_count f_is_count fd_is_count) {f_is_name : Addr} {fd_is_name : FuncData} (c_is_name : Fnc g base 1 (Str.ofString "is_name") [(Str.ofString "value")] ph_is_name f_is_name fd_is_name) {gb_is_count_1 : List Value → List Value → List Value} (b_is_count_1 : KBn g.K fd_is_count [(Str.ofString "value")] 1 [] gb_is_count_1 (arrV [.p 0])) {gb_is_name_1 : List Value → List Value → List Value} (b_is_name_1 : KBn g.K fd_is_name [(Str.ofString "value")] 1 [] gb_is_name_1 (arrV [.p 0])) : BodyOk g base 2 nn_is_host_row (Str.ofString "is_host_row") (defScope (top 43)) f (defBody (top 43)) m_is_host_row := by
  intro cdv A outer s H E F hr hgd
  have hu := hr.units
  have tk := takes_cxF (g := g) (base := base) (N := nn_is_host_row) (qual := (Str.ofString "is_host_row")) (scope := defScope (top 43)) (f := f) (cdv := cdv) (A := A) (outer := outer) (s := s) (H := H) (E := E)
  have hN := sc_is_host_row.nd
  exact (sSCons (sIf (PW.pt (sOrC (wNotT (wTrue (sO (sZ (wIsi "tuple" n_isinstance (wPeek 0) (wT "tuple" n_tuple)))))) (sOrC (wCmpT s_ne (sO (sZ (wB s_lenA n_len (wOCons (wPeek 0) sONil)))) (sO wInt)) (sOr1 (wNotT (wTrue (sO (sZ (sNE (wCall (ks := []) [.p 0] c_is_count.ok c_is_count.mg c_is_count.kp hr b_is_count_1 tk (wACons (sZ (wItem (wPeek 0) (sO wInt))) sANil) sKNil (Many.cons Many.nil) Many.nil (dfl_nil rfl))))))))))) (sSCons (sRet (wE wBl))
    sSNil) sSNil)
    (sSCons (sRet (wOrV (sZ (wCmp s_is (sO (sZ (wItem (wPeek 0) (sO wInt)))) (sO wNon))) (wOneV (sNE (wCall (ks := []) [.p 0] c_is_name.ok c_is_name.mg c_is_name.kp hr b_is_name_1 tk (wACons (sZ (wItem (wPeek 0) (sO wInt))) sANil) sKNil (Many.cons Many.nil) Many.nil (dfl_nil rfl))))))
    sSNil))
theorem sc_want_hosts : FnScope nn_want_hosts [(Str.ofString "value")] (defScope (top 45)) := ⟨rfl, rfl, rfl, by decide +kernel, rfl, by decide +kernel, by decide +kernel⟩
theorem bd_want_hosts (n_isinstance : g.mg (Str.ofString "isinstance") = none) (n_dict : g.mg (Str.ofString "dict") = none) (n_len : g.mg (Str.ofString "len") = none) (n_all : g.mg (Str.ofString "all") = none) {f_is_name : Addr} {fd_is_name : FuncData} (c_is_name : Fnc g base 1 (Str.ofString "is_name") [(Str.ofString "value")] ph_is_name f_is_name fd_is_name) {f_is_host_row : Addr} {fd_is_host_row : FuncData} (c_is_host_row : Fnc g base 3 (Str.ofString "is_host_row") [(Str.ofString "value")] ph_is_host_row f_is_host_row fd_is_host_row) {gb_is_name_1 : List Value → List Value → List Value} (b_is_name_1 : KBn g.K fd_is_name [(Str.ofString "value")] 1 [] gb_is_name_1 (arrV [.p 0])) {gb_is_host_row_1 : List Value → List Value → List Value} (b_is_host_row_1 : KBn g.K fd_is_host_row [(Str.ofString "value")] 1 [] gb_is_host_row_1 (arrV [.p 0])) : BodyOk g base 3 nn_want_hosts (Str.ofString "want_hosts") (defScope (top 45)) f (defBody (top 45)) m_want_hosts := by
  intro cdv A outer s H E F hr hgd
  have hu := hr.units
  have tk := takes_cxF (g := g) (base := base) (N := nn_want_hosts) (qual := (Str.ofString "want_hosts")) (scope := defScope (top 45)) (f := f) (cdv := cdv) (A := A) (outer := outer) (s := s) (H := H) (E := E)
  have hN := sc_want_hosts.nd
  exact (sSCons (sIf (PW.pt (sOrC (wNotT (wTrue (sO (sZ (wIsi "dict" n_isinstance (wPeek 0) (wT "dict" n_dict)))))) (sOr1 (wCmpT s_eq (sO (sZ (wB s_lenA n_len (wOCons (wPeek 0) sONil)))) (sO wInt))))) (sSCons wNever
    sSNil) sSNil)
    (sSCons (sIf (wNotT (wTrue (sO (sZ (wB s_all n_all (wOCons (sO (sZ (sLC (own := [(Str.ofString "name", 1), (Str.ofString "row", 2)]) rfl hN (wIItems (wVar 0)) (blkOk_by rfl) (fun F s H C cl fp => (wTgT (wTgsCons (wTgN hN) (wTgsCons (wTgN hN) sTgsNil)))) (fun F s H C cl fp => sTsNil) (fun F s H C cl fp => (sZ (wAndV (sZ (sNE (wCall (ks := []) [.p 0] c_is_name.ok c_is_name.mg c_is_name.kp hr b_is_name_1 takes0 (wACons (wVar 1) sANil) sKNil (Many.cons Many.nil) Many.nil (dfl_nil rfl)))) (wOneV (sNE (wCall (ks := []) [.p 0] c_is_host_row.ok c_is_host_row.mg c_is_host_row.kp hr b_is_host_row_1 takes0 (wACons (wVar 2) sANil) sKNil (Many.cons Many.nil) Many.nil (dfl_nil rfl))))))) (fun _ => rfl)))) sONil)))))) (sSCons wNever
    sSNil) sSNil)
    sSNil))
theorem sc_is_copies : FnScope nn_is_copies [(Str.ofString "value")] (defScope (top 44)) := ⟨rfl, rfl, rfl, by decide +kernel, rfl, by decide +kernel, by decide +kernel⟩
theorem bd_is_copies (i_MOST_COPIES : ∃ t, g.mg (Str.ofString "MOST_COPIES") = some (.int 4 t)) {f_is_integer : Addr} {fd_is_integer : FuncData} (c_is_integer : Fnc g base 1 (Str.ofString "is_integer") [(Str.ofString "value")] ph_is_integer f_is_integer fd_is_integer) {gb_is_integer_1 : List Value → List Value → List Value} (b_is_integer_1 : KBn g.K fd_is_integer [(Str.ofString "value")] 1 [] gb_is_integer_1 (arrV [.p 0])) : BodyOk g base 1 nn_is_copies (Str.ofString "is_copies") (defScope (top 44)) f (defBody (top 44)) m_is_copies := by
  intro cdv A outer s H E F hr hgd
  have hu := hr.units
  have tk := takes_cxF (g := g) (base := base) (N := nn_is_copies) (qual := (Str.ofString "is_copies")) (scope := defScope (top 44)) (f := f) (cdv := cdv) (A := A) (outer := outer) (s := s) (H := H) (E := E)
  have hN := sc_is_copies.nd
  exact (sSCons (sRet (wAndV (sZ (sNE (wCall (ks := []) [.p 0] c_is_integer.ok c_is_integer.mg c_is_integer.kp hr b_is_integer_1 tk (wACons (wVar 0) sANil) sKNil (Many.cons Many.nil) Many.nil (dfl_nil rfl)))) (wOneV (wChain s_le s_le (sO wInt) (wPeek 0) (sO (wGInt i_MOST_COPIES))))))
    sSNil)
theorem sc_want_things : FnScope nn_want_things [(Str.ofString "value")] (defScope (top 46)) := ⟨rfl, rfl, rfl, by decide +kernel, rfl, by decide +kernel, by decide +kernel⟩
theorem bd_want_things (n_isinstance : g.mg (Str.ofString "isinstance") = none) (n_dict : g.mg (Str.ofString "dict") = none) (n_all : g.mg (Str.ofString "all") = none) {f_is_name : Addr} {fd_is_name : FuncData} (c_is_name : Fnc g base 1 (Str.ofString "is_name") [(Str.ofString "value")] ph_is_name f_is_name fd_is_name) {f_is_copies : Addr} {fd_is_copies : FuncData} (c_is_copies : Fnc g base 2 (Str.ofString "is_copies") [(Str.ofString "value")] ph_is_copies f_is_copies fd_is_copies) {gb_is_name_1 : List Value → List Value → List Value} (b_is_name_1 : KBn g.K fd_is_name [(Str.ofString "value")] 1 [] gb_is_name_1 (arrV [.p 0])) {gb_is_copies_1 : List Value → List Value → List Value} (b_is_copies_1 : KBn g.K fd_is_copies [(Str.ofString "value")] 1 [] gb_is_copies_1 (arrV [.p 0])) : BodyOk g base 2 nn_want_things (Str.ofString "want_things") (defScope (top 46)) f (defBody (top 46)) m_want_things := by
  intro cdv A outer s H E F hr hgd
  have hu := hr.units
  have tk := takes_cxF (g := g) (base := base) (N := nn_want_things) (qual := (Str.ofString "want_things")) (scope := defScope (top 46)) (f := f) (cdv := cdv) (A := A) (outer := outer) (s := s) (H := H) (E := E)
  have hN := sc_want_things.nd
  exact (sSCons (sIf (PW.pt (sOrC (wNotT (wTrue (sO (sZ (wIsi "dict" n_isinstance (wPeek 0) (wT "dict" n_dict)))))) (sOr1 (wNotT (wTrue (sO (sZ (wB s_all n_all (wOCons (sO (sZ (sLC (own := [(Str.ofString "name", 1), (Str.ofString "many", 2)]) rfl hN (wIItems (wVar 0)) (blkOk_by rfl) (fun F s H C cl fp => (wTgT (wTgsCons (wTgN hN) (wTgsCons (wTgN hN) sTgsNil)))) (fun F s H C cl fp => sTsNil) (fun F s H C cl fp => (sZ (wAndV (sZ (sNE (wCall (ks := []) [.p 0] c_is_name.ok c_is_name.mg c_is_name.kp hr b_is_name_1 takes0 (wACons (wVar 1) sANil) sKNil (Many.cons Many.nil) Many.nil (dfl_nil rfl)))) (wOneV (sNE (wCall (ks := []) [.p 0] c_is_copies.ok c_is_copies.mg c_is_copies.kp hr b_is_copies_1 takes0 (wACons (wVar 2) sANil) sKNil (Many.cons Many.nil) Many.nil (dfl_nil rfl))))))) (fun _ => rfl)))) sONil))))))))) (sSCons wNever
    sSNil) sSNil)
    sSNil)
theorem sc_want_limit : FnScope nn_want_limit [(Str.ofString "many"), (Str.ofString "what"), (Str.ofString "limit")] (defScope (top 47)) := ⟨rfl, rfl, rfl, by decide +kernel, rfl, by decide +kernel, by decide +kernel⟩
theorem bd_want_limit : BodyOk g base 0 nn_want_limit (Str.ofString "want_limit") (defScope (top 47)) f (defBody (top 47)) m_want_limit := by
  intro cdv A outer s H E F hr hgd
  have hu := hr.units
  have tk := takes_cxF (g := g) (base := base) (N := nn_want_limit) (qual := (Str.ofString "want_limit")) (scope := defScope (top 47)) (f := f) (cdv := cdv) (A := A) (outer := outer) (s := s) (H := H) (E := E)
  have hN := sc_want_limit.nd
  exact (sSCons (sIf (wCmpT s_gt (wPeek 0) (wPeek 2)) (sSCons wNever
    sSNil) sSNil)
    sSNil)
theorem sc_greatest_rooms : FnScope nn_greatest_rooms [(Str.ofString "hosts")] (defScope (top 48)) := ⟨rfl, rfl, rfl, by decide +kernel, rfl, by decide +kernel, by decide +kernel⟩
theorem bd_greatest_rooms (n_max : g.mg (Str.ofString "max") = none) : BodyOk g base 0 nn_greatest_rooms (Str.ofString "greatest_rooms") (defScope (top 48)) f (defBody (top 48)) m_greatest_rooms := by
  intro cdv A outer s H E F hr hgd
  have hu := hr.units
  have tk := takes_cxF (g := g) (base := base) (N := nn_greatest_rooms) (qual := (Str.ofString "greatest_rooms")) (scope := defScope (top 48)) (f := f) (cdv := cdv) (A := A) (outer := outer) (s := s) (H := H) (E := E)
  have hN := sc_greatest_rooms.nd
  exact (sSCons (sRet (wB s_max n_max (wOCons (sO (sZ (sLC (own := [(Str.ofString "row", 1)]) rfl hN (wIVals (wVar 0)) (blkOk_by rfl) (fun F s H C cl fp => (wTgN hN)) (fun F s H C cl fp => sTsNil) (fun F s H C cl fp => (sZ (wItem (wPeek 1) (sO wInt)))) (fun _ => rfl)))) sONil)))
    sSNil)
theorem sc_in_order : FnScope nn_in_order [(Str.ofString "table")] (defScope (top 49)) := ⟨rfl, rfl, rfl, by decide +kernel, rfl, by decide +kernel, by decide +kernel⟩
theorem bd_in_order (hsy : SysIn g.K) (n_sorted : g.mg (Str.ofString "sorted") = none) : BodyOk g base 0 nn_in_order (Str.ofString "in_order") (defScope (top 49)) f (defBody (top 49)) m_in_order := by
  intro cdv A outer s H E F hr hgd
  have hu := hr.units
  have tk := takes_cxF (g := g) (base := base) (N := nn_in_order) (qual := (Str.ofString "in_order")) (scope := defScope (top 49)) (f := f) (cdv := cdv) (A := A) (outer := outer) (s := s) (H := H) (E := E)
  have hN := sc_in_order.nd
  exact (sSCons (sRet (sDC (own := [(Str.ofString "key", 1)]) rfl hN (wISeq (sZ (wB (s_sorted (hy := hsy)) n_sorted (wOCons (wPeek 0) sONil)))) (blkOk_by rfl) (fun F s H C cl fp => (wTgN hN)) (fun F s H C cl fp => sTsNil) (fun F s H C cl fp => (wVar 1)) (fun F s H C cl fp => (sZ (wItem (wPeek 0) (wPeek 1)))) (fun _ => rfl)))
    sSNil)
theorem sc_each_copy : FnScope nn_each_copy [(Str.ofString "things")] (defScope (top 50)) := ⟨rfl, rfl, rfl, by decide +kernel, rfl, by decide +kernel, by decide +kernel⟩
theorem bd_each_copy (hsy : SysIn g.K) (n_sorted : g.mg (Str.ofString "sorted") = none) : BodyOk g base 0 nn_each_copy (Str.ofString "each_copy") (defScope (top 50)) f (defBody (top 50)) m_each_copy := by
  intro cdv A outer s H E F hr hgd
  have hu := hr.units
  have tk := takes_cxF (g := g) (base := base) (N := nn_each_copy) (qual := (Str.ofString "each_copy")) (scope := defScope (top 50)) (f := f) (cdv := cdv) (A := A) (outer := outer) (s := s) (H := H) (E := E)
  have hN := sc_each_copy.nd
  exact (sSCons (wSet (i := 1) hN (wLst sANil Many.nil))
    (sSCons (wFor [2] owns_cxF (wISeq (sZ (wB (s_sorted (hy := hsy)) n_sorted (wOCons (wPeek 0) sONil)))) (fun F => (wTgN hN)) (fun F => (sSCons (wExtend (ip := 1) (pv 1) (wNewL (wBin s_mul (sO (sZ (wLst (wACons (wVar 2) sANil) (Many.cons Many.nil)))) (sO (sZ (wItem (wPeek 0) (wPeek 2)))))))
    sSNil)))
    (sSCons (sRet (wE (wVar 1)))
    sSNil)))
theorem sc_House_init : FnScope nn_House_init [(Str.ofString "self"), (Str.ofString "hosts"), (Str.ofString "things"), (Str.ofString "most_rooms")] (defScope (clsIt (top 51) 0)) := ⟨rfl, rfl, rfl, by decide +kernel, rfl, by decide +kernel, by decide +kernel⟩
theorem bd_House_init (n_len : g.mg (Str.ofString "len") = none) (i_MOST_HOSTS : ∃ t, g.mg (Str.ofString "MOST_HOSTS") = some (.int 7 t)) (i_MOST_THINGS : ∃ t, g.mg (Str.ofString "MOST_THINGS") = some (.int 8 t)) (k_House : Cls g.K (g.ca 0)) (na_House_own_hosts : NoAttr g.K (g.ca 0) (Str.ofString "own_hosts")) (na_House_own_things : NoAttr g.K (g.ca 0) (Str.ofString "own_things")) (na_House_own_copies : NoAttr g.K (g.ca 0) (Str.ofString "own_copies")) {f_want_hosts : Addr} {fd_want_hosts : FuncData} (c_want_hosts : Fnc g base 4 (Str.ofString "want_hosts") [(Str.ofString "value")] ph_want_hosts f_want_hosts fd_want_hosts) {f_want_things : Addr} {fd_want_things : FuncData} (c_want_things : Fnc g base 3 (Str.ofString "want_things") [(Str.ofString "value")] ph_want_things f_want_things fd_want_things) {f_want_limit : Addr} {fd_want_limit : FuncData} (c_want_limit : Fnc g base 1 (Str.ofString "want_limit") [(Str.ofString "many"), (Str.ofString "what"), (Str.ofString "limit")] ph_want_limit f_want_limit fd_want_limit) {f_greatest_rooms : Addr} {fd_greatest_rooms : FuncData} (c_greatest_rooms : Fnc g base 1 (Str.ofString "greatest_rooms") [(Str.ofString "hosts")] ph_greatest_rooms f_greatest_rooms fd_greatest_rooms) {f_in_order : Addr} {fd_in_order : FuncData} (c_in_order : Fnc g base 1 (Str.ofString "in_order") [(Str.ofString "table")] ph_in_order f_in_order fd_in_order) {f_each_copy : Addr} {fd_each_copy : FuncData} (c_each_copy : Fnc g base 1 (Str.ofString "each_copy") [(Str.ofString "things")] ph_each_copy f_each_copy fd_each_copy) {gb_want_hosts_1 : List Value → List Value → List Value} (b_want_hosts_1 : KBn g.K fd_want_hosts [(Str.ofString "value")] 1 [] gb_want_hosts_1 (arrV [.p 0])) {gb_want_things_1 : List Value → List Value → List Value} (b_want_things_1 : KBn g.K fd_want_things [(Str.ofString "value")] 1 [] gb_want_things_1 (arrV [.p 0])) {gb_want_limit_3 : List Value → List Value → List Value} (b_want_limit_3 : KBn g.K fd_want_limit [(Str.ofString "many"), (Str.ofString "what"), (Str.ofString "limit")] 3 [] gb_want_limit_3 (arrV [.p 0, .p 1, .p 2])) {gb_greatest_rooms_1 : List Value → List Value → List Value} (b_greatest_rooms_1 : KBn g.K fd_greatest_rooms [(Str.ofString "hosts")] 1 [] gb_greatest_rooms_1 (arrV [.p 0])) {gb_in_order_1 : List Value → List Value → List Value} (b_in_order_1 : KBn g.K fd_in_order [(Str.ofString "table")] 1 [] gb_in_order_1 (arrV [.p 0])) {gb_each_copy_1 : List Value → List Value → List Value} (b_each_copy_1 : KBn g.K fd_each_copy [(Str.ofString "things")] 1 [] gb_each_copy_1 (arrV [.p 0])) : BodyOk g base 4 nn_House_init (Str.ofString "House.__init__") (defScope (clsIt (top 51) 0)) f (defBody (clsIt (top 51) 0)) m_House_init := by
  intro cdv A outer s H E F hr hgd
  have hu := hr.units
  have tk := takes_cxF (g := g) (base := base) (N := nn_House_init) (qual := (Str.ofString "House.__init__")) (scope := defScope (clsIt (top 51) 0)) (f := f) (cdv := cdv) (A := A) (outer := outer) (s := s) (H := H) (E := E)
  have hN := sc_House_init.nd
  exact (sSCons (wExpr (sNE (wCall (ks := []) [.p 0] c_want_hosts.ok c_want_hosts.mg c_want_hosts.kp hr b_want_hosts_1 tk (wACons (wVar 1) sANil) sKNil (Many.cons Many.nil) Many.nil (dfl_nil rfl))))
    (sSCons (wExpr (sNE (wCall (ks := []) [.p 0] c_want_things.ok c_want_things.mg c_want_things.kp hr b_want_things_1 tk (wACons (wVar 2) sANil) sKNil (Many.cons Many.nil) Many.nil (dfl_nil rfl))))
    (sSCons (wExpr (sNE (wCall (ks := []) [.p 0, .p 1, .p 2] c_want_limit.ok c_want_limit.mg c_want_limit.kp hr b_want_limit_3 tk (wACons (sZ (wB s_lenA n_len (wOCons (wPeek 1) sONil))) (wACons wStr (wACons (wGInt i_MOST_HOSTS) sANil))) sKNil (Many.cons (Many.cons (Many.cons Many.nil))) Many.nil (dfl_nil rfl))))
    (sSCons (wExpr (sNE (wCall (ks := []) [.p 0, .p 1, .p 2] c_want_limit.ok c_want_limit.mg c_want_limit.kp hr b_want_limit_3 tk (wACons (sZ (wB s_lenA n_len (wOCons (wPeek 2) sONil))) (wACons wStr (wACons (wGInt i_MOST_THINGS) sANil))) sKNil (Many.cons (Many.cons (Many.cons Many.nil))) Many.nil (dfl_nil rfl))))
    (sSCons (wExpr (sNE (wCall (ks := []) [.p 0, .p 1, .p 2] c_want_limit.ok c_want_limit.mg c_want_limit.kp hr b_want_limit_3 tk (wACons (sZ (sNE (wCall (ks := []) [.p 0] c_greatest_rooms.ok c_greatest_rooms.mg c_greatest_rooms.kp hr b_greatest_rooms_1 tk (wACons (wVar 1) sANil) sKNil (Many.cons Many.nil) Many.nil (dfl_nil rfl)))) (wACons wStr (wACons (wVar 3) sANil))) sKNil (Many.cons (Many.cons (Many.cons Many.nil))) Many.nil (dfl_nil rfl))))
    (sSCons (wStF (ip := 0) (pv 0) (sZ (sNE (wCall (ks := []) [.p 0] c_in_order.ok c_in_order.mg c_in_order.kp hr b_in_order_1 tk (wACons (wVar 1) sANil) sKNil (Many.cons Many.nil) Many.nil (dfl_nil rfl)))) k_House na_House_own_hosts)
    (sSCons (wStF (ip := 0) (pv 0) (sZ (sNE (wCall (ks := []) [.p 0] c_in_order.ok c_in_order.mg c_in_order.kp hr b_in_order_1 tk (wACons (wVar 2) sANil) sKNil (Many.cons Many.nil) Many.nil (dfl_nil rfl)))) k_House na_House_own_things)
    (sSCons (wStF (ip := 0) (pv 0) (sZ (sNE (wCall (ks := []) [.p 0] c_each_copy.ok c_each_copy.mg c_each_copy.kp hr b_each_copy_1 tk (wACons (wVar 2) sANil) sKNil (Many.cons Many.nil) Many.nil (dfl_nil rfl)))) k_House na_House_own_copies)
    sSNil))))))))
theorem sc__law_house : FnScope nn__law_house [(Str.ofString "_law_sorts_now"), (Str.ofString "_law_many_now"), (Str.ofString "_law_copies_now")] (defScope (top 69)) := ⟨rfl, rfl, rfl, by decide +kernel, rfl, by decide +kernel, by decide +kernel⟩
theorem bd__law_house (n_enumerate : g.mg (Str.ofString "enumerate") = none) (n_range : g.mg (Str.ofString "range") = none) (n_str : g.mg (Str.ofString "str") = none) (n_dict : g.mg (Str.ofString "dict") = none) {f_House_init : Addr} {fd_House_init : FuncData} (c_House_init : Kls g base 5 0 (Str.ofString "House") [(Str.ofString "self"), (Str.ofString "hosts"), (Str.ofString "things"), (Str.ofString "most_rooms")] ph_House_init f_House_init fd_House_init) {gb_House_init_3 : List Value → List Value → List Value} (b_House_init_3 : KBn g.K fd_House_init [(Str.ofString "self"), (Str.ofString "hosts"), (Str.ofString "things"), (Str.ofString "most_rooms")] 3 [] gb_House_init_3 (arrV [.p 0, .p 1, .p 2, .d (.int 20) (.int 20)])) : BodyOk g base 6 nn__law_house (Str.ofString "_law_house") (defScope (top 69)) f (defBody (top 69)) m__law_house := by
  intro cdv A outer s H E F hr hgd
  have hu := hr.units
  have tk := takes_cxF (g := g) (base := base) (N := nn__law_house) (qual := (Str.ofString "_law_house")) (scope := defScope (top 69)) (f := f) (cdv := cdv) (A := A) (outer := outer) (s := s) (H := H) (E := E)
  have hN := sc__law_house.nd
  exact (sSCons (wSet (i := 3) hN wDict0)
    (sSCons (wFor [4, 6, 7] owns_cxF (wEnum n_enumerate (wACons (wVar 0) sANil)) (fun F => (wTgT (wTgsCons (wTgN hN) (wTgsCons (wTgT (wTgsCons (wTgN hN) (wTgsCons (wTgN hN) sTgsNil))) sTgsNil)))) (fun F => (sSCons (wFor [5] owns_cxF (wRng1 n_range (wACons (wVar 6) sANil)) (fun F => (wTgN hN)) (fun F => (sSCons (wSetA (ip := 3) (pv 3) (sO (sZ (wBin s_add (sO (sZ (wBin s_add (sO wStr) (sO (sZ (wItem (sO wStr) (wPeek 4))))))) (sO (sZ (wTy s_str n_str (wOCons (wPeek 5) sONil))))))) (sZ (wTup (wACons (wVar 7) (wACons wNon sANil)) (Many.cons (Many.cons Many.nil)))))
    sSNil)))
    sSNil)))
    (sSCons (sRet (sNE (wMake (n := 2) (ks := []) [.p 0, .p 1, .d (.int 20) (.int 20)] c_House_init.mkk c_House_init.ok c_House_init.mg hr b_House_init_3 tk (wACons (wVar 3) (wACons (sZ (wTy s_dict n_dict (wOCons (sO (sZ (sLC (own := [(Str.ofString "_law_k", 5)]) rfl hN (wRng1 n_range (wACons (wVar 1) sANil)) (blkOk_by rfl) (fun F s H C cl fp => (wTgN hN)) (fun F s H C cl fp => sTsNil) (fun F s H C cl fp => (sZ (wTup (wACons (sZ (wBin s_add (sO wStr) (sO (sZ (wTy s_str n_str (wOCons (wPeek 5) sONil)))))) (wACons (wVar 2) sANil)) (Many.cons (Many.cons Many.nil))))) (fun _ => rfl)))) sONil))) sANil)) sKNil (Many.cons (Many.cons Many.nil)) Many.nil (dfl_int rfl))))
    sSNil)))
theorem sc_most_that_fit : FnScope nn_most_that_fit [(Str.ofString "sorts"), (Str.ofString "copies")] (defScope (top 35)) := ⟨rfl, rfl, rfl, by decide +kernel, rfl, by decide +kernel, by decide +kernel⟩
theorem bd_most_that_fit (n_max : g.mg (Str.ofString "max") = none) (n_sum : g.mg (Str.ofString "sum") = none) {f_carried : Addr} {fd_carried : FuncData} (c_carried : Fnc g base 1 (Str.ofString "carried") [(Str.ofString "sorts"), (Str.ofString "many")] ph_carried f_carried fd_carried) {gb_carried_2 : List Value → List Value → List Value} (b_carried_2 : KBn g.K fd_carried [(Str.ofString "sorts"), (Str.ofString "many")] 2 [] gb_carried_2 (arrV [.p 0, .p 1])) : BodyOk g base 1 nn_most_that_fit (Str.ofString "most_that_fit") (defScope (top 35)) f (defBody (top 35)) m_most_that_fit := by
  intro cdv A outer s H E F hr hgd
  have hu := hr.units
  have tk := takes_cxF (g := g) (base := base) (N := nn_most_that_fit) (qual := (Str.ofString "most_that_fit")) (scope := defScope (top 35)) (f := f) (cdv := cdv) (A := A) (outer := outer) (s := s) (H := H) (E := E)
  have hN := sc_most_that_fit.nd
  exact (sSCons (wSet (i := 2) hN (wB s_max n_max (wOCons (sO (sZ (wBin s_add (sO (sZ (wLst (wACons wInt sANil) (Many.cons Many.nil)))) (sO (sZ (sLC (own := [(Str.ofString "hosts", 5), (Str.ofString "rooms", 6)]) rfl hN (wISeq (wVar 0)) (blkOk_by rfl) (fun F s H C cl fp => (wTgT (wTgsCons (wTgN hN) (wTgsCons (wTgN hN) sTgsNil)))) (fun F s H C cl fp => (sTsOne (wCmpT s_ge (sO (sZ (sNE (wCall (ks := []) [.p 0, .p 1] c_carried.ok c_carried.mg c_carried.kp hr b_carried_2 takes0 (wACons (wVar 0) (wACons (wVar 6) sANil)) sKNil (Many.cons (Many.cons Many.nil)) Many.nil (dfl_nil rfl))))) (sO (sZ (wBin s_mul (wPeek 6) (wPeek 1))))))) (fun F s H C cl fp => (wVar 6)) (fun _ => rfl))))))) sONil)))
    (sSCons (wSet (i := 3) hN (wB s_sum n_sum (wOCons (sO (sZ (sLC (own := [(Str.ofString "hosts", 5), (Str.ofString "rooms", 6)]) rfl hN (wISeq (wVar 0)) (blkOk_by rfl) (fun F s H C cl fp => (wTgT (wTgsCons (wTgN hN) (wTgsCons (wTgN hN) sTgsNil)))) (fun F s H C cl fp => (sTsOne (wCmpT s_le (wPeek 6) (wPeek 2)))) (fun F s H C cl fp => (sZ (wBin s_mul (wPeek 5) (wPeek 6)))) (fun _ => rfl)))) sONil)))
    (sSCons (wSet (i := 4) hN (wB s_sum n_sum (wOCons (sO (sZ (sLC (own := [(Str.ofString "hosts", 5), (Str.ofString "rooms", 6)]) rfl hN (wISeq (wVar 0)) (blkOk_by rfl) (fun F s H C cl fp => (wTgT (wTgsCons (wTgN hN) (wTgsCons (wTgN hN) sTgsNil)))) (fun F s H C cl fp => (sTsOne (wCmpT s_gt (wPeek 6) (wPeek 2)))) (fun F s H C cl fp => (wVar 5)) (fun _ => rfl)))) sONil)))
    (sSCons (sRet (wBin s_fdiv (wPeek 3) (sO (sZ (wBin s_sub (wPeek 1) (wPeek 4))))))
    sSNil))))
theorem sc_most_things : FnScope nn_most_things [(Str.ofString "sorts"), (Str.ofString "copies")] (defScope (top 36)) := ⟨rfl, rfl, rfl, by decide +kernel, rfl, by decide +kernel, by decide +kernel⟩
theorem bd_most_things {f_want_sorts : Addr} {fd_want_sorts : FuncData} (c_want_sorts : Fnc g base 4 (Str.ofString "want_sorts") [(Str.ofString "sorts")] ph_want_sorts f_want_sorts fd_want_sorts) {f_want_copies_each : Addr} {fd_want_copies_each : FuncData} (c_want_copies_each : Fnc g base 3 (Str.ofString "want_copies_each") [(Str.ofString "copies")] ph_want_copies_each f_want_copies_each fd_want_copies_each) {f_most_that_fit : Addr} {fd_most_that_fit : FuncData} (c_most_that_fit : Fnc g base 2 (Str.ofString "most_that_fit") [(Str.ofString "sorts"), (Str.ofString "copies")] ph_most_that_fit f_most_that_fit fd_most_that_fit) {gb_want_sorts_1 : List Value → List Value → List Value} (b_want_sorts_1 : KBn g.K fd_want_sorts [(Str.ofString "sorts")] 1 [] gb_want_sorts_1 (arrV [.p 0])) {gb_want_copies_each_1 : List Value → List Value → List Value} (b_want_copies_each_1 : KBn g.K fd_want_copies_each [(Str.ofString "copies")] 1 [] gb_want_copies_each_1 (arrV [.p 0])) {gb_most_that_fit_2 : List Value → List Value → List Value} (b_most_that_fit_2 : KBn g.K fd_most_that_fit [(Str.ofString "sorts"), (Str.ofString "copies")] 2 [] gb_most_that_fit_2 (arrV [.p 0, .p 1])) : BodyOk g base 4 nn_most_things (Str.ofString "most_things") (defScope (top 36)) f (defBody (top 36)) m_most_things := by
  intro cdv A outer s H E F hr hgd
  have hu := hr.units
  have tk := takes_cxF (g := g) (base := base) (N := nn_most_things) (qual := (Str.ofString "most_things")) (scope := defScope (top 36)) (f := f) (cdv := cdv) (A := A) (outer := outer) (s := s) (H := H) (E := E)
  have hN := sc_most_things.nd
  exact (sSCons (wExpr (sNE (wCall (ks := []) [.p 0] c_want_sorts.ok c_want_sorts.mg c_want_sorts.kp hr b_want_sorts_1 tk (wACons (wVar 0) sANil) sKNil (Many.cons Many.nil) Many.nil (dfl_nil rfl))))
    (sSCons (wExpr (sNE (wCall (ks := []) [.p 0] c_want_copies_each.ok c_want_copies_each.mg c_want_copies_each.kp hr b_want_copies_each_1 tk (wACons (wVar 1) sANil) sKNil (Many.cons Many.nil) Many.nil (dfl_nil rfl))))
    (sSCons (sRet (sNE (wCall (ks := []) [.p 0, .p 1] c_most_that_fit.ok c_most_that_fit.mg c_most_that_fit.kp hr b_most_that_fit_2 tk (wACons (wVar 0) (wACons (wVar 1) sANil)) sKNil (Many.cons (Many.cons Many.nil)) Many.nil (dfl_nil rfl))))
    sSNil)))
theorem sc__law_right : FnScope nn__law_right [(Str.ofString "_law_pot_here")] (defScope (top 70)) := ⟨rfl, rfl, rfl, by decide +kernel, rfl, by decide +kernel, by decide +kernel⟩
theorem bd__law_right (hsy : SysIn g.K) (n_sum : g.mg (Str.ofString "sum") = none) (n_range : g.mg (Str.ofString "range") = none) (n_tuple : g.mg (Str.ofString "tuple") = none) (n_repr : g.mg (Str.ofString "repr") = none) (n_len : g.mg (Str.ofString "len") = none) {f__law_drawn_sorts : Addr} {fd__law_drawn_sorts : FuncData} (c__law_drawn_sorts : Fnc g base 2 (Str.ofString "_law_drawn_sorts") [(Str.ofString "_law_pot_here"), (Str.ofString "_law_size"), (Str.ofString "_law_top")] ph__law_drawn_sorts f__law_drawn_sorts fd__law_drawn_sorts) {f__law_draw : Addr} {fd__law_draw : FuncData} (c__law_draw : Fnc g base 1 (Str.ofString "_law_draw") [(Str.ofString "_law_pot_here"), (Str.ofString "_law_size")] ph__law_draw f__law_draw fd__law_draw) {f__law_put : Addr} {fd__law_put : FuncData} (c__law_put : Fnc g base 1 (Str.ofString "_law_put") [(Str.ofString "_law_sorts_now"), (Str.ofString "_law_many_now"), (Str.ofString "_law_copies_now")] ph__law_put f__law_put fd__law_put) {f_do_fit : Addr} {fd_do_fit : FuncData} (c_do_fit : Fnc g base 6 (Str.ofString "do_fit") [(Str.ofString "sorts"), (Str.ofString "many"), (Str.ofString "copies")] ph_do_fit f_do_fit fd_do_fit) {f_can_be_out : Addr} {fd_can_be_out : FuncData} (c_can_be_out : Fnc g base 7 (Str.ofString "can_be_out") [(Str.ofString "house"), (Str.ofString "out")] ph_can_be_out f_can_be_out fd_can_be_out) {f__law_house : Addr} {fd__law_house : FuncData} (c__law_house : Fnc g base 7 (Str.ofString "_law_house") [(Str.ofString "_law_sorts_now"), (Str.ofString "_law_many_now"), (Str.ofString "_law_copies_now")] ph__law_house f__law_house fd__law_house) {f_most_things : Addr} {fd_most_things : FuncData} (c_most_things : Fnc g base 5 (Str.ofString "most_things") [(Str.ofString "sorts"), (Str.ofString "copies")] ph_most_things f_most_things fd_most_things) {gb__law_drawn_sorts_3 : List Value → List Value → List Value} (b__law_drawn_sorts_3 : KBn g.K fd__law_drawn_sorts [(Str.ofString "_law_pot_here"), (Str.ofString "_law_size"), (Str.ofString "_law_top")] 3 [] gb__law_drawn_sorts_3 (arrV [.p 0, .p 1, .p 2])) {gb__law_draw_2 : List Value → List Value → List Value} (b__law_draw_2 : KBn g.K fd__law_draw [(Str.ofString "_law_pot_here"), (Str.ofString "_law_size")] 2 [] gb__law_draw_2 (arrV [.p 0, .p 1])) {gb__law_put_3 : List Value → List Value → List Value} (b__law_put_3 : KBn g.K fd__law_put [(Str.ofString "_law_sorts_now"), (Str.ofString "_law_many_now"), (Str.ofString "_law_copies_now")] 3 [] gb__law_put_3 (arrV [.p 0, .p 1, .p 2])) {gb_do_fit_3 : List Value → List Value → List Value} (b_do_fit_3 : KBn g.K fd_do_fit [(Str.ofString "sorts"), (Str.ofString "many"), (Str.ofString "copies")] 3 [] gb_do_fit_3 (arrV [.p 0, .p 1, .p 2])) {gb_do_fit_0_copies_many_sorts : List Value → List Value → List Value} (b_do_fit_0_copies_many_sorts : KBn g.K fd_do_fit [(Str.ofString "sorts"), (Str.ofString "many"), (Str.ofString "copies")] 0 [(Str.ofString "copies"), (Str.ofString "many"), (Str.ofString "sorts")] gb_do_fit_0_copies_many_sorts (arrV [.k 2, .k 1, .k 0])) {gb_can_be_out_2 : List Value → List Value → List Value} (b_can_be_out_2 : KBn g.K fd_can_be_out [(Str.ofString "house"), (Str.ofString "out")] 2 [] gb_can_be_out_2 (arrV [.p 0, .p 1])) {gb__law_house_3 : List Value → List Value → List Value} (b__law_house_3 : KBn g.K fd__law_house [(Str.ofString "_law_sorts_now"), (Str.ofString "_law_many_now"), (Str.ofString "_law_copies_now")] 3 [] gb__law_house_3 (arrV [.p 0, .p 1, .p 2])) {gb_most_things_2 : List Value → List Value → List Value} (b_most_things_2 : KBn g.K fd_most_things [(Str.ofString "sorts"), (Str.ofString "copies")] 2 [] gb_most_things_2 (arrV [.p 0, .p 1])) {gb_most_things_0_copies_sorts : List Value → List Value → List Value} (b_most_things_0_copies_sorts : KBn g.K fd_most_things [(Str.ofString "sorts"), (Str.ofString "copies")] 0 [(Str.ofString "copies"), (Str.ofString "sorts")] gb_most_things_0_copies_sorts (arrV [.k 1, .k 0])) : BodyOk g base 7 nn__law_right (Str.ofString "_law_right") (defScope (top 70)) f (defBody (top 70)) m__law_right := by
  intro cdv A outer s H E F hr hgd
  have hu := hr.units
  have tk := takes_cxF (g := g) (base := base) (N := nn__law_right) (qual := (Str.ofString "_law_right")) (scope := defScope (top 70)) (f := f) (cdv := cdv) (A := A) (outer := outer) (s := s) (H := H) (E := E)
  have hN := sc__law_right.nd
  exact (sSCons (wSet (i := 1) hN (sNE (wCall (ks := []) [.p 0, .p 1, .p 2] c__law_drawn_sorts.ok c__law_drawn_sorts.mg c__law_drawn_sorts.kp hr b__law_drawn_sorts_3 tk (wACons (wVar 0) (wACons wInt (wACons wInt sANil))) sKNil (Many.cons (Many.cons (Many.cons Many.nil))) Many.nil (dfl_nil rfl))))
    (sSCons (wSet (i := 2) hN (wBin s_add (sO wInt) (sO (sZ (sNE (wCall (ks := []) [.p 0, .p 1] c__law_draw.ok c__law_draw.mg c__law_draw.kp hr b__law_draw_2 tk (wACons (wVar 0) (wACons wInt sANil)) sKNil (Many.cons (Many.cons Many.nil)) Many.nil (dfl_nil rfl)))))))
    (sSCons (wSet (i := 3) hN (wB s_sum n_sum (wOCons (sO (sZ (sLC (own := [(Str.ofString "_law_near", 11)]) rfl hN (wISeq (wVar 1)) (blkOk_by rfl) (fun F s H C cl fp => (wTgN hN)) (fun F s H C cl fp => sTsNil) (fun F s H C cl fp => (sZ (wItem (wPeek 11) (sO wInt)))) (fun _ => rfl)))) sONil)))
    (sSCons (sSetLC (i := 4) (own := [(Str.ofString "_law_many_now", 5)]) rfl hN rfl rfl rfl (wRng1 n_range (wACons wInt sANil)) (blkOk_by rfl) (fun F s H C cl fp => (wTgN hN)) (fun F s H C cl fp => sTsNil) (fun F s H C cl fp => (sZ (sNE (wCall (ks := []) [.p 0, .p 1, .p 2] c__law_put.ok c__law_put.mg c__law_put.kp hr b__law_put_3 takes0 (wACons (wVar 1) (wACons (wVar 5) (wACons (wVar 2) sANil))) sKNil (Many.cons (Many.cons (Many.cons Many.nil))) Many.nil (dfl_nil rfl))))) (fun _ => rfl))
    (sSCons (wFor [5] owns_cxF (wRng1 n_range (wACons wInt sANil)) (fun F => (wTgN hN)) (fun F => (sSCons (wSet (i := 7) hN (wLst (wACons (sZ (sNE (wCall (ks := []) [.p 0, .p 1, .p 2] c_do_fit.ok c_do_fit.mg c_do_fit.kp hr b_do_fit_3 tk (wACons (wVar 1) (wACons (wVar 5) (wACons (wVar 2) sANil))) sKNil (Many.cons (Many.cons (Many.cons Many.nil))) Many.nil (dfl_nil rfl)))) sANil) (Many.cons Many.nil)))
    (sSCons (wAppend (ip := 7) (pv 7) (sZ (sNE (wCall0 (ks := [(Str.ofString "copies"), (Str.ofString "many"), (Str.ofString "sorts")]) [.k 2, .k 1, .k 0] c_do_fit.ok c_do_fit.mg c_do_fit.kp hr b_do_fit_0_copies_many_sorts tk (sKCons (wVar 2) (sKCons (wVar 5) (sKCons (sZ (wTy s_tupleA n_tuple (wOCons (wPeek 1) sONil))) sKNil))) (Many.cons (Many.cons (Many.cons Many.nil))) (dfl_nil rfl)))))
    (sSCons (wAppend (ip := 7) (pv 7) (sZ (sNE (wCall (ks := []) [.p 0, .p 1, .p 2] c_do_fit.ok c_do_fit.mg c_do_fit.kp hr b_do_fit_3 tk (wACons (sZ (wRev (wPeek 1))) (wACons (wVar 5) (wACons (wVar 2) sANil))) sKNil (Many.cons (Many.cons (Many.cons Many.nil))) Many.nil (dfl_nil rfl)))))
    (sSCons (sIf (wCmpT s_ne (sO (sZ (wRepr hsy n_repr (wPeek 7)))) (sO (sZ (wRepr hsy n_repr (sO (sZ (wBin s_mul (sO (sZ (wLst (wACons (sZ (wItem (wPeek 4) (wPeek 5))) sANil) (Many.cons Many.nil)))) (sO wInt)))))))) (sSCons (sRet (wE wBl))
    sSNil) sSNil)
    (sSCons (sIf (PW.pt (sAndC (wChainT s_lt s_lt (sO wInt) (wPeek 3) (sO wInt)) (sAndC (wCmpT s_lt (wPeek 5) (sO wInt)) (sAnd1 (wCmpT s_lt (wPeek 2) (sO wInt)))))) (sSCons (sIf (wCmpT s_ne (sO (sZ (sNE (wCall (ks := []) [.p 0, .p 1] c_can_be_out.ok c_can_be_out.mg c_can_be_out.kp hr b_can_be_out_2 tk (wACons (sZ (sNE (wCall (ks := []) [.p 0, .p 1, .p 2] c__law_house.ok c__law_house.mg c__law_house.kp hr b__law_house_3 tk (wACons (wVar 1) (wACons (wVar 5) (wACons (wVar 2) sANil))) sKNil (Many.cons (Many.cons (Many.cons Many.nil))) Many.nil (dfl_nil rfl)))) (wACons (sZ (wLst sANil Many.nil)) sANil)) sKNil (Many.cons (Many.cons Many.nil)) Many.nil (dfl_nil rfl))))) (sO (sZ (wItem (wPeek 4) (wPeek 5))))) (sSCons (sRet (wE wBl))
    sSNil) sSNil)
    sSNil) sSNil)
    sSNil)))))))
    (sSCons (wSet (i := 6) hN (sIfE (wInAT wBl (wPeek 4)) (wBin s_sub (sO (sZ (wIndex (wPeek 4) wBl))) (sO wInt)) (wE wNon)))
    (sSCons (sIf (wCmpT s_nis (wPeek 6) (sO wNon)) (sSCons (wSet (i := 7) hN (wLst (wACons (sZ (sNE (wCall (ks := []) [.p 0, .p 1] c_most_things.ok c_most_things.mg c_most_things.kp hr b_most_things_2 tk (wACons (wVar 1) (wACons (wVar 2) sANil)) sKNil (Many.cons (Many.cons Many.nil)) Many.nil (dfl_nil rfl)))) (wACons (sZ (sNE (wCall0 (ks := [(Str.ofString "copies"), (Str.ofString "sorts")]) [.k 1, .k 0] c_most_things.ok c_most_things.mg c_most_things.kp hr b_most_things_0_copies_sorts tk (sKCons (wVar 2) (sKCons (sZ (wRev (wPeek 1))) sKNil)) (Many.cons (Many.cons Many.nil)) (dfl_nil rfl)))) sANil)) (Many.cons (Many.cons Many.nil))))
    (sSCons (sIf (wCmpT s_ne (sO (sZ (wRepr hsy n_repr (wPeek 7)))) (sO (sZ (wRepr hsy n_repr (sO (sZ (wLst (wACons (wVar 6) (wACons (wVar 6) sANil)) (Many.cons (Many.cons Many.nil))))))))) (sSCons (sRet (wE wBl))
    sSNil) sSNil)
    sSNil)) sSNil)
    (sSCons (sIf (wCmpT s_lt (sO (sZ (wB s_lenA n_len (wOCons (wPeek 1) sONil)))) (sO wInt)) (sSCons (wSetT [3, 10] (wTgT (wTgsCons (wTgN hN) (wTgsCons (wTgN hN) sTgsNil))) (sZ (wItem (wPeek 1) (sO wInt))))
    (sSCons (wSet (i := 8) hN (sNE (wCall (ks := []) [.p 0, .p 1] c__law_draw.ok c__law_draw.mg c__law_draw.kp hr b__law_draw_2 tk (wACons (wVar 0) (wACons (sZ (wBin s_add (wPeek 3) (sO wInt))) sANil)) sKNil (Many.cons (Many.cons Many.nil)) Many.nil (dfl_nil rfl))))
    (sSCons (wSet (i := 9) hN (wBin s_add (sO (sZ (wLst (wACons (sZ (wTup (wACons (wVar 8) (wACons (wVar 10) sANil)) (Many.cons (Many.cons Many.nil)))) (wACons (sZ (wTup (wACons (sZ (wBin s_sub (wPeek 3) (wPeek 8))) (wACons (wVar 10) sANil)) (Many.cons (Many.cons Many.nil)))) sANil)) (Many.cons (Many.cons Many.nil))))) (sO (sZ (wSlice (wPeek 1) (sPSome (sO wInt)) sPNone)))))
    (sSCons (sRet (wCmp s_eq (sO (sZ (sNE (wCall (ks := []) [.p 0, .p 1] c_most_things.ok c_most_things.mg c_most_things.kp hr b_most_things_2 tk (wACons (wVar 9) (wACons (wVar 2) sANil)) sKNil (Many.cons (Many.cons Many.nil)) Many.nil (dfl_nil rfl))))) (sO (sZ (sNE (wCall (ks := []) [.p 0, .p 1] c_most_things.ok c_most_things.mg c_most_things.kp hr b_most_things_2 tk (wACons (wVar 1) (wACons (wVar 2) sANil)) sKNil (Many.cons (Many.cons Many.nil)) Many.nil (dfl_nil rfl)))))))
    sSNil)))) sSNil)
    (sSCons (sRet (wE wBl))
    sSNil)))))))))
theorem sc__law_pot : FnScope nn__law_pot [(Str.ofString "_law_script"), (Str.ofString "_law_k")] (defScope (top 63)) := ⟨rfl, rfl, rfl, by decide +kernel, rfl, by decide +kernel, by decide +kernel⟩
theorem bd__law_pot (n_len : g.mg (Str.ofString "len") = none) (n_abs : g.mg (Str.ofString "abs") = none) (n_max : g.mg (Str.ofString "max") = none) (n_int : g.mg (Str.ofString "int") = none) : BodyOk g base 0 nn__law_pot (Str.ofString "_law_pot") (defScope (top 63)) f (defBody (top 63)) m__law_pot := by
  intro cdv A outer s H E F hr hgd
  have hu := hr.units
  have tk := takes_cxF (g := g) (base := base) (N := nn__law_pot) (qual := (Str.ofString "_law_pot")) (scope := defScope (top 63)) (f := f) (cdv := cdv) (A := A) (outer := outer) (s := s) (H := H) (E := E)
  have hN := sc__law_pot.nd
  exact (sSCons (wSet (i := 2) hN (wBin s_add (sO (sZ (wBin s_mul (sO wInt) (wPeek 1)))) (sO wInt)))
    (sSCons (sIf (wCmpT s_lt (wPeek 1) (sO (sZ (wB s_lenA n_len (wOCons (wPeek 0) sONil))))) (sSCons (wSet (i := 2) hN (wB s_abs n_abs (wOCons (sO (sZ (wItem (wPeek 0) (wPeek 1)))) sONil)))
    sSNil) sSNil)
    (sSCons (sRet (wLst (wACons (sZ (wB s_max n_max (wOCons (sO wInt) (wOCons (sO (sZ (wBin s_sub (wPeek 2) (sO (sZ (wBin s_pow (sO wInt) (sO wInt))))))) sONil)))) (wACons (sZ (wBin s_add (sO (sZ (wBin s_mod (sO (sZ (wBin s_mul (sO (sZ (wTy s_int n_int (wOCons (sO (sZ (wBin s_add (sO (sZ (wBin s_mod (sO (sZ (wTy s_int n_int (wOCons (wPeek 2) sONil)))) (sO wInt)))) (sO wInt)))) sONil)))) (sO (sZ (wBin s_pow (sO (sZ (wBin s_add (sO (sZ (wBin s_mul (sO wInt) (wPeek 1)))) (sO wInt)))) (sO wInt))))))) (sO wInt)))) (sO wInt))) sANil)) (Many.cons (Many.cons Many.nil))))
    sSNil)))
theorem sc_law : FnScope nn_law [(Str.ofString "_law_script")] (defScope (top 71)) := ⟨rfl, rfl, rfl, by decide +kernel, rfl, by decide +kernel, by decide +kernel⟩
theorem bd_law (n_len : g.mg (Str.ofString "len") = none) (n_min : g.mg (Str.ofString "min") = none) (n_max : g.mg (Str.ofString "max") = none) (n_range : g.mg (Str.ofString "range") = none) (n_all : g.mg (Str.ofString "all") = none) {f__law_right : Addr} {fd__law_right : FuncData} (c__law_right : Fnc g base 8 (Str.ofString "_law_right") [(Str.ofString "_law_pot_here")] ph__law_right f__law_right fd__law_right) {f__law_pot : Addr} {fd__law_pot : FuncData} (c__law_pot : Fnc g base 1 (Str.ofString "_law_pot") [(Str.ofString "_law_script"), (Str.ofString "_law_k")] ph__law_pot f__law_pot fd__law_pot) {gb__law_right_1 : List Value → List Value → List Value} (b__law_right_1 : KBn g.K fd__law_right [(Str.ofString "_law_pot_here")] 1 [] gb__law_right_1 (arrV [.p 0])) {gb__law_pot_2 : List Value → List Value → List Value} (b__law_pot_2 : KBn g.K fd__law_pot [(Str.ofString "_law_script"), (Str.ofString "_law_k")] 2 [] gb__law_pot_2 (arrV [.p 0, .p 1])) : BodyOk g base 8 nn_law (Str.ofString "law") (defScope (top 71)) f (defBody (top 71)) m_law := by
  intro cdv A outer s H E F hr hgd
  have hu := hr.units
  have tk := takes_cxF (g := g) (base := base) (N := nn_law) (qual := (Str.ofString "law")) (scope := defScope (top 71)) (f := f) (cdv := cdv) (A := A) (outer := outer) (s := s) (H := H) (E := E)
  have hN := sc_law.nd
  exact (sSCons (sRet (wB s_all n_all (wOCons (sO (sZ (sLC (own := [(Str.ofString "_law_k", 1)]) rfl hN (wRng1 n_range (wACons (sZ (wB s_max n_max (wOCons (sO wInt) (wOCons (sO (sZ (wB s_min n_min (wOCons (sO (sZ (wB s_lenA n_len (wOCons (wPeek 0) sONil)))) (wOCons (sO wInt) sONil))))) sONil)))) sANil)) (blkOk_by rfl) (fun F s H C cl fp => (wTgN hN)) (fun F s H C cl fp => sTsNil) (fun F s H C cl fp => (sZ (sNE (wCall (ks := []) [.p 0] c__law_right.ok c__law_right.mg c__law_right.kp hr b__law_right_1 takes0 (wACons (sCell (wCall (ks := []) [.p 0, .p 1] c__law_pot.ok c__law_pot.mg c__law_pot.kp hr b__law_pot_2 takes0 (wACons (wVar 0) (wACons (wVar 1) sANil)) sKNil (Many.cons (Many.cons Many.nil)) Many.nil (dfl_nil rfl))) sANil) sKNil (Many.cons Many.nil) Many.nil (dfl_nil rfl))))) (fun _ => rfl)))) sONil)))
    sSNil)
end
theorem facts {P : Program} {w : World} {K : PySem.W.Frag} {h : Heap} {mg : Str → Option Value} (X : K.In h) (G : h.Ns mainGlobals mg) (c : SaysE fa pf fn K) :
    ∃ (f : Addr) (fd : FuncData), (∀ base : Heap, Fnc ⟨P, w, K, mg, caK K cn⟩ base 9 (Str.ofString "law") [(Str.ofString "_law_script")] ph_law f fd) ∧ ∀ (s : Shared) (v : Value), BindsTo s fd ⟨[v], []⟩ [((Str.ofString "_law_script"), v)] := by
  have hsy := c.sys
  have mg__law_draw := He.glo_ok X G (c.fact 0 (f := .glo (Str.ofString "_law_draw")) rfl)
  have n_divmod := He.free_ok X G (c.fact 1 (f := .free (Str.ofString "divmod")) rfl)
  have n_int := He.free_ok X G (c.fact 2 (f := .free (Str.ofString "int")) rfl)
  have mg__law_drawn_sorts := He.glo_ok X G (c.fact 3 (f := .glo (Str.ofString "_law_drawn_sorts")) rfl)
  have n_range := He.free_ok X G (c.fact 4 (f := .free (Str.ofString "range")) rfl)
  have mg__law_put := He.glo_ok X G (c.fact 5 (f := .glo (Str.ofString "_law_put")) rfl)
  have n_sorted := He.free_ok X G (c.fact 6 (f := .free (Str.ofString "sorted")) rfl)
  have n_len := He.free_ok X G (c.fact 7 (f := .free (Str.ofString "len")) rfl)
  have mg_is_list := He.glo_ok X G (c.fact 8 (f := .glo (Str.ofString "is_list")) rfl)
  have n_isinstance := He.free_ok X G (c.fact 9 (f := .free (Str.ofString "isinstance")) rfl)
  have n_tuple := He.free_ok X G (c.fact 10 (f := .free (Str.ofString "tuple")) rfl)
  have n_list := He.free_ok X G (c.fact 11 (f := .free (Str.ofString "list")) rfl)
  have mg_is_integer := He.glo_ok X G (c.fact 12 (f := .glo (Str.ofString "is_integer")) rfl)
  have n_bool := He.free_ok X G (c.fact 13 (f := .free (Str.ofString "bool")) rfl)
  have mg_is_count := He.glo_ok X G (c.fact 14 (f := .glo (Str.ofString "is_count")) rfl)
  have mg_is_sort := He.glo_ok X G (c.fact 15 (f := .glo (Str.ofString "is_sort")) rfl)
  have mg_want_sorts := He.glo_ok X G (c.fact 16 (f := .glo (Str.ofString "want_sorts")) rfl)
  have n_all := He.free_ok X G (c.fact 17 (f := .free (Str.ofString "all")) rfl)
  have i_MOST_SORTS := He.int_ok X G (c.fact 18 (f := .int (Str.ofString "MOST_SORTS") 3) rfl)
  have mg_want_copies_each := He.glo_ok X G (c.fact 19 (f := .glo (Str.ofString "want_copies_each")) rfl)
  have mg_want_many := He.glo_ok X G (c.fact 20 (f := .glo (Str.ofString "want_many")) rfl)
  have mg_carried := He.glo_ok X G (c.fact 21 (f := .glo (Str.ofString "carried")) rfl)
  have n_min := He.free_ok X G (c.fact 22 (f := .free (Str.ofString "min")) rfl)
  have n_sum := He.free_ok X G (c.fact 23 (f := .free (Str.ofString "sum")) rfl)
  have mg_do_fit := He.glo_ok X G (c.fact 24 (f := .glo (Str.ofString "do_fit")) rfl)
  have mg_is_known := He.glo_ok X G (c.fact 25 (f := .glo (Str.ofString "is_known")) rfl)
  have n_str := He.free_ok X G (c.fact 26 (f := .free (Str.ofString "str")) rfl)
  have mg_wrong_place := He.glo_ok X G (c.fact 27 (f := .glo (Str.ofString "wrong_place")) rfl)
  have n_enumerate := He.free_ok X G (c.fact 28 (f := .free (Str.ofString "enumerate")) rfl)
  have mg_are_different := He.glo_ok X G (c.fact 29 (f := .glo (Str.ofString "are_different")) rfl)
  have mg_want_out := He.glo_ok X G (c.fact 30 (f := .glo (Str.ofString "want_out")) rfl)
  have k_House := He.cls_ok (c.fact 31 (f := .cls (Str.ofString "House")) rfl)
  have na_House_own_hosts := He.noat_ok (c.fact 32 (f := .noat (Str.ofString "House") (Str.ofString "own_hosts")) rfl)
  have mt_House_fellows := He.meth_ok (c.fact 33 (f := .meth (Str.ofString "House") (Str.ofString "fellows")) rfl)
  have na_House_own_things := He.noat_ok (c.fact 34 (f := .noat (Str.ofString "House") (Str.ofString "own_things")) rfl)
  have mg_want_thing := He.glo_ok X G (c.fact 35 (f := .glo (Str.ofString "want_thing")) rfl)
  have mg_Sums := He.glo_ok X G (c.fact 36 (f := .glo (Str.ofString "Sums")) rfl)
  have mk_Sums := He.mkr_ok (c.fact 37 (f := .mkr (Str.ofString "Sums")) rfl)
  have k_Sums := He.cls_ok (c.fact 38 (f := .cls (Str.ofString "Sums")) rfl)
  have na_Sums_own_rooms := He.noat_ok (c.fact 39 (f := .noat (Str.ofString "Sums") (Str.ofString "own_rooms")) rfl)
  have na_Sums_own_groups := He.noat_ok (c.fact 40 (f := .noat (Str.ofString "Sums") (Str.ofString "own_groups")) rfl)
  have na_Sums_own_copies := He.noat_ok (c.fact 41 (f := .noat (Str.ofString "Sums") (Str.ofString "own_copies")) rfl)
  have mt_House_copies := He.meth_ok (c.fact 42 (f := .meth (Str.ofString "House") (Str.ofString "copies")) rfl)
  have mg_subsets := He.glo_ok X G (c.fact 43 (f := .glo (Str.ofString "subsets")) rfl)
  have n_any := He.free_ok X G (c.fact 44 (f := .free (Str.ofString "any")) rfl)
  have n_max := He.free_ok X G (c.fact 45 (f := .free (Str.ofString "max")) rfl)
  have na_House_own_copies := He.noat_ok (c.fact 46 (f := .noat (Str.ofString "House") (Str.ofString "own_copies")) rfl)
  have mt_Sums_left := He.meth_ok (c.fact 47 (f := .meth (Str.ofString "Sums") (Str.ofString "left")) rfl)
  have mt_Sums_need := He.meth_ok (c.fact 48 (f := .meth (Str.ofString "Sums") (Str.ofString "need")) rfl)
  have mt_Sums_room_sum := He.meth_ok (c.fact 49 (f := .meth (Str.ofString "Sums") (Str.ofString "room_sum")) rfl)
  have mg_can_be_out := He.glo_ok X G (c.fact 50 (f := .glo (Str.ofString "can_be_out")) rfl)
  have mt_Sums_sets := He.meth_ok (c.fact 51 (f := .meth (Str.ofString "Sums") (Str.ofString "sets")) rfl)
  have mt_Sums_excess := He.meth_ok (c.fact 52 (f := .meth (Str.ofString "Sums") (Str.ofString "excess")) rfl)
  have mg_is_name := He.glo_ok X G (c.fact 53 (f := .glo (Str.ofString "is_name")) rfl)
  have i_MOST_NAME := He.int_ok X G (c.fact 54 (f := .int (Str.ofString "MOST_NAME") 6) rfl)
  have s_LETTERS := He.str_ok X G (c.fact 55 (f := .str (Str.ofString "LETTERS") (Str.ofString "abcdefghijklmnopqrstuvwxyz")) rfl)
  have s_DIGITS := He.str_ok X G (c.fact 56 (f := .str (Str.ofString "DIGITS") (Str.ofString "0123456789")) rfl)
  have mg_is_host_row := He.glo_ok X G (c.fact 57 (f := .glo (Str.ofString "is_host_row")) rfl)
  have mg_want_hosts := He.glo_ok X G (c.fact 58 (f := .glo (Str.ofString "want_hosts")) rfl)
  have n_dict := He.free_ok X G (c.fact 59 (f := .free (Str.ofString "dict")) rfl)
  have mg_is_copies := He.glo_ok X G (c.fact 60 (f := .glo (Str.ofString "is_copies")) rfl)
  have i_MOST_COPIES := He.int_ok X G (c.fact 61 (f := .int (Str.ofString "MOST_COPIES") 4) rfl)
  have mg_want_things := He.glo_ok X G (c.fact 62 (f := .glo (Str.ofString "want_things")) rfl)
  have mg_want_limit := He.glo_ok X G (c.fact 63 (f := .glo (Str.ofString "want_limit")) rfl)
  have mg_greatest_rooms := He.glo_ok X G (c.fact 64 (f := .glo (Str.ofString "greatest_rooms")) rfl)
  have mg_in_order := He.glo_ok X G (c.fact 65 (f := .glo (Str.ofString "in_order")) rfl)
  have mg_each_copy := He.glo_ok X G (c.fact 66 (f := .glo (Str.ofString "each_copy")) rfl)
  have mg_House := He.glo_ok X G (c.fact 67 (f := .glo (Str.ofString "House")) rfl)
  have mk_House := He.mkr_ok (c.fact 68 (f := .mkr (Str.ofString "House")) rfl)
  have i_MOST_HOSTS := He.int_ok X G (c.fact 69 (f := .int (Str.ofString "MOST_HOSTS") 7) rfl)
  have i_MOST_THINGS := He.int_ok X G (c.fact 70 (f := .int (Str.ofString "MOST_THINGS") 8) rfl)
  have mg__law_house := He.glo_ok X G (c.fact 71 (f := .glo (Str.ofString "_law_house")) rfl)
  have mg_most_that_fit := He.glo_ok X G (c.fact 72 (f := .glo (Str.ofString "most_that_fit")) rfl)
  have mg_most_things := He.glo_ok X G (c.fact 73 (f := .glo (Str.ofString "most_things")) rfl)
  have mg__law_right := He.glo_ok X G (c.fact 74 (f := .glo (Str.ofString "_law_right")) rfl)
  have n_repr := He.free_ok X G (c.fact 75 (f := .free (Str.ofString "repr")) rfl)
  have mg__law_pot := He.glo_ok X G (c.fact 76 (f := .glo (Str.ofString "_law_pot")) rfl)
  have n_abs := He.free_ok X G (c.fact 77 (f := .free (Str.ofString "abs")) rfl)
  have mg_law := He.glo_ok X G (c.fact 78 (f := .glo (Str.ofString "law")) rfl)
  have pp_House_hosts := PFa.of (c.prp 0 (p := ⟨(Str.ofString "House"), (Str.ofString "hosts")⟩) rfl)
  have pp_House_rooms := PFa.of (c.prp 1 (p := ⟨(Str.ofString "House"), (Str.ofString "rooms")⟩) rfl)
  have pp_House_groups := PFa.of (c.prp 2 (p := ⟨(Str.ofString "House"), (Str.ofString "groups")⟩) rfl)
  have pp_House_things := PFa.of (c.prp 3 (p := ⟨(Str.ofString "House"), (Str.ofString "things")⟩) rfl)
  obtain ⟨fd__law_draw, F__law_draw⟩ := c.def_ 0 (e := dd__law_draw) rfl
  have c__law_draw : ∀ base, Fnc ⟨P, w, K, mg, caK K cn⟩ base 1 (Str.ofString "_law_draw") [(Str.ofString "_law_pot_here"), (Str.ofString "_law_size")] ph__law_draw _ fd__law_draw := fun base => fn_ok F__law_draw sc__law_draw mg__law_draw (bd__law_draw (g := ⟨P, w, K, mg, caK K cn⟩) n_divmod n_int)
  obtain ⟨fd__law_drawn_sorts, F__law_drawn_sorts⟩ := c.def_ 1 (e := dd__law_drawn_sorts) rfl
  obtain ⟨gb__law_draw_2, b__law_draw_2⟩ := kb0 (ps := [(Str.ofString "_law_pot_here"), (Str.ofString "_law_size")]) F__law_draw 2 [] [.p 0, .p 1] trivial (fun _ _ _ _ _ _ us ws hl hw => match us, hl, ws, hw with | [_, _], _, [], _ => rfl)
  have c__law_drawn_sorts : ∀ base, Fnc ⟨P, w, K, mg, caK K cn⟩ base 2 (Str.ofString "_law_drawn_sorts") [(Str.ofString "_law_pot_here"), (Str.ofString "_law_size"), (Str.ofString "_law_top")] ph__law_drawn_sorts _ fd__law_drawn_sorts := fun base => fn_ok F__law_drawn_sorts sc__law_drawn_sorts mg__law_drawn_sorts (bd__law_drawn_sorts (g := ⟨P, w, K, mg, caK K cn⟩) n_range (c__law_draw base) b__law_draw_2)
  obtain ⟨fd__law_put, F__law_put⟩ := c.def_ 2 (e := dd__law_put) rfl
  have c__law_put : ∀ base, Fnc ⟨P, w, K, mg, caK K cn⟩ base 1 (Str.ofString "_law_put") [(Str.ofString "_law_sorts_now"), (Str.ofString "_law_many_now"), (Str.ofString "_law_copies_now")] ph__law_put _ fd__law_put := fun base => fn_ok F__law_put sc__law_put mg__law_put (bd__law_put (g := ⟨P, w, K, mg, caK K cn⟩) hsy n_range n_sorted n_len)
  obtain ⟨fd_is_list, F_is_list⟩ := c.def_ 3 (e := dd_is_list) rfl
  have c_is_list : ∀ base, Fnc ⟨P, w, K, mg, caK K cn⟩ base 1 (Str.ofString "is_list") [(Str.ofString "value")] ph_is_list _ fd_is_list := fun base => fn_ok F_is_list sc_is_list mg_is_list (bd_is_list (g := ⟨P, w, K, mg, caK K cn⟩) n_isinstance n_tuple n_list)
  obtain ⟨fd_is_integer, F_is_integer⟩ := c.def_ 4 (e := dd_is_integer) rfl
  have c_is_integer : ∀ base, Fnc ⟨P, w, K, mg, caK K cn⟩ base 1 (Str.ofString "is_integer") [(Str.ofString "value")] ph_is_integer _ fd_is_integer := fun base => fn_ok F_is_integer sc_is_integer mg_is_integer (bd_is_integer (g := ⟨P, w, K, mg, caK K cn⟩) n_isinstance n_int n_bool)
  obtain ⟨fd_is_count, F_is_count⟩ := c.def_ 5 (e := dd_is_count) rfl
  obtain ⟨gb_is_integer_1, b_is_integer_1⟩ := kb0 (ps := [(Str.ofString "value")]) F_is_integer 1 [] [.p 0] trivial (fun _ _ _ _ _ _ us ws hl hw => match us, hl, ws, hw with | [_], _, [], _ => rfl)
  have c_is_count : ∀ base, Fnc ⟨P, w, K, mg, caK K cn⟩ base 2 (Str.ofString "is_count") [(Str.ofString "value")] ph_is_count _ fd_is_count := fun base => fn_ok F_is_count sc_is_count mg_is_count (bd_is_count (g := ⟨P, w, K, mg, caK K cn⟩) (c_is_integer base) b_is_integer_1)
  obtain ⟨fd_is_sort, F_is_sort⟩ := c.def_ 6 (e := dd_is_sort) rfl
  obtain ⟨gb_is_count_1, b_is_count_1⟩ := kb0 (ps := [(Str.ofString "value")]) F_is_count 1 [] [.p 0] trivial (fun _ _ _ _ _ _ us ws hl hw => match us, hl, ws, hw with | [_], _, [], _ => rfl)
  have c_is_sort : ∀ base, Fnc ⟨P, w, K, mg, caK K cn⟩ base 3 (Str.ofString "is_sort") [(Str.ofString "value")] ph_is_sort _ fd_is_sort := fun base => fn_ok F_is_sort sc_is_sort mg_is_sort (bd_is_sort (g := ⟨P, w, K, mg, caK K cn⟩) n_isinstance n_tuple n_len (c_is_count base) b_is_count_1)
  obtain ⟨fd_want_sorts, F_want_sorts⟩ := c.def_ 7 (e := dd_want_sorts) rfl
  obtain ⟨gb_is_list_1, b_is_list_1⟩ := kb0 (ps := [(Str.ofString "value")]) F_is_list 1 [] [.p 0] trivial (fun _ _ _ _ _ _ us ws hl hw => match us, hl, ws, hw with | [_], _, [], _ => rfl)
  obtain ⟨gb_is_sort_1, b_is_sort_1⟩ := kb0 (ps := [(Str.ofString "value")]) F_is_sort 1 [] [.p 0] trivial (fun _ _ _ _ _ _ us ws hl hw => match us, hl, ws, hw with | [_], _, [], _ => rfl)
  have c_want_sorts : ∀ base, Fnc ⟨P, w, K, mg, caK K cn⟩ base 4 (Str.ofString "want_sorts") [(Str.ofString "sorts")] ph_want_sorts _ fd_want_sorts := fun base => fn_ok F_want_sorts sc_want_sorts mg_want_sorts (bd_want_sorts (g := ⟨P, w, K, mg, caK K cn⟩) n_len n_all i_MOST_SORTS (c_is_list base) (c_is_sort base) b_is_list_1 b_is_sort_1)
  obtain ⟨fd_want_copies_each, F_want_copies_each⟩ := c.def_ 8 (e := dd_want_copies_each) rfl
  have c_want_copies_each : ∀ base, Fnc ⟨P, w, K, mg, caK K cn⟩ base 3 (Str.ofString "want_copies_each") [(Str.ofString "copies")] ph_want_copies_each _ fd_want_copies_each := fun base => fn_ok F_want_copies_each sc_want_copies_each mg_want_copies_each (bd_want_copies_each (g := ⟨P, w, K, mg, caK K cn⟩) (c_is_count base) b_is_count_1)
  obtain ⟨fd_want_many, F_want_many⟩ := c.def_ 9 (e := dd_want_many) rfl
  obtain ⟨gb_want_sorts_1, b_want_sorts_1⟩ := kb0 (ps := [(Str.ofString "sorts")]) F_want_sorts 1 [] [.p 0] trivial (fun _ _ _ _ _ _ us ws hl hw => match us, hl, ws, hw with | [_], _, [], _ => rfl)
  obtain ⟨gb_want_copies_each_1, b_want_copies_each_1⟩ := kb0 (ps := [(Str.ofString "copies")]) F_want_copies_each 1 [] [.p 0] trivial (fun _ _ _ _ _ _ us ws hl hw => match us, hl, ws, hw with | [_], _, [], _ => rfl)
  have c_want_many : ∀ base, Fnc ⟨P, w, K, mg, caK K cn⟩ base 5 (Str.ofString "want_many") [(Str.ofString "sorts"), (Str.ofString "many"), (Str.ofString "copies")] ph_want_many _ fd_want_many := fun base => fn_ok F_want_many sc_want_many mg_want_many (bd_want_many (g := ⟨P, w, K, mg, caK K cn⟩) (c_want_sorts base) (c_is_count base) (c_want_copies_each base) b_want_sorts_1 b_is_count_1 b_want_copies_each_1)
  obtain ⟨fd_carried, F_carried⟩ := c.def_ 10 (e := dd_carried) rfl
  have c_carried : ∀ base, Fnc ⟨P, w, K, mg, caK K cn⟩ base 1 (Str.ofString "carried") [(Str.ofString "sorts"), (Str.ofString "many")] ph_carried _ fd_carried := fun base => fn_ok F_carried sc_carried mg_carried (bd_carried (g := ⟨P, w, K, mg, caK K cn⟩) n_min n_sum)
  obtain ⟨fd_do_fit, F_do_fit⟩ := c.def_ 11 (e := dd_do_fit) rfl
  obtain ⟨gb_want_many_3, b_want_many_3⟩ := kb0 (ps := [(Str.ofString "sorts"), (Str.ofString "many"), (Str.ofString "copies")]) F_want_many 3 [] [.p 0, .p 1, .p 2] trivial (fun _ _ _ _ _ _ us ws hl hw => match us, hl, ws, hw with | [_, _, _], _, [], _ => rfl)
  obtain ⟨gb_carried_2, b_carried_2⟩ := kb0 (ps := [(Str.ofString "sorts"), (Str.ofString "many")]) F_carried 2 [] [.p 0, .p 1] trivial (fun _ _ _ _ _ _ us ws hl hw => match us, hl, ws, hw with | [_, _], _, [], _ => rfl)
  have c_do_fit : ∀ base, Fnc ⟨P, w, K, mg, caK K cn⟩ base 6 (Str.ofString "do_fit") [(Str.ofString "sorts"), (Str.ofString "many"), (Str.ofString "copies")] ph_do_fit _ fd_do_fit := fun base => fn_ok F_do_fit sc_do_fit mg_do_fit (bd_do_fit (g := ⟨P, w, K, mg, caK K cn⟩) (c_want_many base) (c_carried base) b_want_many_3 b_carried_2)
  obtain ⟨fd_is_known, F_is_known⟩ := c.def_ 12 (e := dd_is_known) rfl
  have c_is_known : ∀ base, Fnc ⟨P, w, K, mg, caK K cn⟩ base 1 (Str.ofString "is_known") [(Str.ofString "value"), (Str.ofString "names")] ph_is_known _ fd_is_known := fun base => fn_ok F_is_known sc_is_known mg_is_known (bd_is_known (g := ⟨P, w, K, mg, caK K cn⟩) n_isinstance n_str)
  obtain ⟨fd_wrong_place, F_wrong_place⟩ := c.def_ 13 (e := dd_wrong_place) rfl
  obtain ⟨gb_is_known_2, b_is_known_2⟩ := kb0 (ps := [(Str.ofString "value"), (Str.ofString "names")]) F_is_known 2 [] [.p 0, .p 1] trivial (fun _ _ _ _ _ _ us ws hl hw => match us, hl, ws, hw with | [_, _], _, [], _ => rfl)
  have c_wrong_place : ∀ base, Fnc ⟨P, w, K, mg, caK K cn⟩ base 2 (Str.ofString "wrong_place") [(Str.ofString "value"), (Str.ofString "names")] ph_wrong_place _ fd_wrong_place := fun base => fn_ok F_wrong_place sc_wrong_place mg_wrong_place (bd_wrong_place (g := ⟨P, w, K, mg, caK K cn⟩) n_enumerate (c_is_list base) (c_is_known base) b_is_list_1 b_is_known_2)
  obtain ⟨fd_are_different, F_are_different⟩ := c.def_ 14 (e := dd_are_different) rfl
  obtain ⟨gb_wrong_place_2, b_wrong_place_2⟩ := kb0 (ps := [(Str.ofString "value"), (Str.ofString "names")]) F_wrong_place 2 [] [.p 0, .p 1] trivial (fun _ _ _ _ _ _ us ws hl hw => match us, hl, ws, hw with | [_, _], _, [], _ => rfl)
  have c_are_different : ∀ base, Fnc ⟨P, w, K, mg, caK K cn⟩ base 3 (Str.ofString "are_different") [(Str.ofString "value"), (Str.ofString "names")] ph_are_different _ fd_are_different := fun base => fn_ok F_are_different sc_are_different mg_are_different (bd_are_different (g := ⟨P, w, K, mg, caK K cn⟩) (c_is_list base) (c_wrong_place base) b_is_list_1 b_wrong_place_2)
  obtain ⟨fd_want_out, F_want_out⟩ := c.def_ 15 (e := dd_want_out) rfl
  obtain ⟨gb_are_different_2, b_are_different_2⟩ := kb0 (ps := [(Str.ofString "value"), (Str.ofString "names")]) F_are_different 2 [] [.p 0, .p 1] trivial (fun _ _ _ _ _ _ us ws hl hw => match us, hl, ws, hw with | [_, _], _, [], _ => rfl)
  have c_want_out : ∀ base, Fnc ⟨P, w, K, mg, caK K cn⟩ base 4 (Str.ofString "want_out") [(Str.ofString "house"), (Str.ofString "out")] ph_want_out _ fd_want_out := fun base => fn_ok F_want_out sc_want_out mg_want_out (bd_want_out (g := ⟨P, w, K, mg, caK K cn⟩) k_House na_House_own_hosts (c_are_different base) b_are_different_2)
  obtain ⟨fd_House_rooms, F_House_rooms⟩ := c.def_ 16 (e := dd_House_rooms) rfl
  have c_House_rooms : ∀ base, FnG P w K mg base (L2.CX P w) 1 _ fd_House_rooms [(Str.ofString "self")] (spF ⟨P, w, K, mg, caK K cn⟩ 1 ph_House_rooms) := fun base => mth_ok (g := ⟨P, w, K, mg, caK K cn⟩) F_House_rooms sc_House_rooms (bd_House_rooms (g := ⟨P, w, K, mg, caK K cn⟩) k_House na_House_own_hosts)
  have bi_House_rooms : L2.Binds K fd_House_rooms [(Str.ofString "self")] [] := FunD.bindsN F_House_rooms (fun _ _ _ _ _ _ us hl => match us, hl with | [_], _ => rfl)
  obtain ⟨fd_House_hosts, F_House_hosts⟩ := c.def_ 17 (e := dd_House_hosts) rfl
  have c_House_hosts : ∀ base, FnG P w K mg base (L2.CX P w) 1 _ fd_House_hosts [(Str.ofString "self")] (spF ⟨P, w, K, mg, caK K cn⟩ 1 ph_House_hosts) := fun base => mth_ok (g := ⟨P, w, K, mg, caK K cn⟩) F_House_hosts sc_House_hosts (bd_House_hosts (g := ⟨P, w, K, mg, caK K cn⟩) n_tuple k_House na_House_own_hosts)
  have bi_House_hosts : L2.Binds K fd_House_hosts [(Str.ofString "self")] [] := FunD.bindsN F_House_hosts (fun _ _ _ _ _ _ us hl => match us, hl with | [_], _ => rfl)
  obtain ⟨fd_House_fellows, F_House_fellows⟩ := c.def_ 18 (e := dd_House_fellows) rfl
  have c_House_fellows : ∀ base, FnG P w K mg base (L2.CX P w) 1 _ fd_House_fellows [(Str.ofString "self"), (Str.ofString "host")] (spF ⟨P, w, K, mg, caK K cn⟩ 2 ph_House_fellows) := fun base => mth_ok (g := ⟨P, w, K, mg, caK K cn⟩) F_House_fellows sc_House_fellows (bd_House_fellows (g := ⟨P, w, K, mg, caK K cn⟩) k_House na_House_own_hosts)
  obtain ⟨fd_House_groups, F_House_groups⟩ := c.def_ 19 (e := dd_House_groups) rfl
  obtain ⟨gb_House_fellows_2, b_House_fellows_2⟩ := kb0 (ps := [(Str.ofString "self"), (Str.ofString "host")]) F_House_fellows 2 [] [.p 0, .p 1] trivial (fun _ _ _ _ _ _ us ws hl hw => match us, hl, ws, hw with | [_, _], _, [], _ => rfl)
  have c_House_groups : ∀ base, FnG P w K mg base (L2.CX P w) 3 _ fd_House_groups [(Str.ofString "self")] (spF ⟨P, w, K, mg, caK K cn⟩ 1 ph_House_groups) := fun base => mth_ok (g := ⟨P, w, K, mg, caK K cn⟩) F_House_groups sc_House_groups (bd_House_groups (g := ⟨P, w, K, mg, caK K cn⟩) hsy n_sorted k_House (c_House_hosts base) (c_House_fellows base) pp_House_hosts bi_House_hosts mt_House_fellows b_House_fellows_2)
  have bi_House_groups : L2.Binds K fd_House_groups [(Str.ofString "self")] [] := FunD.bindsN F_House_groups (fun _ _ _ _ _ _ us hl => match us, hl with | [_], _ => rfl)
  obtain ⟨fd_House_things, F_House_things⟩ := c.def_ 20 (e := dd_House_things) rfl
  have c_House_things : ∀ base, FnG P w K mg base (L2.CX P w) 1 _ fd_House_things [(Str.ofString "self")] (spF ⟨P, w, K, mg, caK K cn⟩ 1 ph_House_things) := fun base => mth_ok (g := ⟨P, w, K, mg, caK K cn⟩) F_House_things sc_House_things (bd_House_things (g := ⟨P, w, K, mg, caK K cn⟩) n_tuple k_House na_House_own_things)
  have bi_House_things : L2.Binds K fd_House_things [(Str.ofString "self")] [] := FunD.bindsN F_House_things (fun _ _ _ _ _ _ us hl => match us, hl with | [_], _ => rfl)
  obtain ⟨fd_want_thing, F_want_thing⟩ := c.def_ 21 (e := dd_want_thing) rfl
  have c_want_thing : ∀ base, Fnc ⟨P, w, K, mg, caK K cn⟩ base 2 (Str.ofString "want_thing") [(Str.ofString "house"), (Str.ofString "thing")] ph_want_thing _ fd_want_thing := fun base => fn_ok F_want_thing sc_want_thing mg_want_thing (bd_want_thing (g := ⟨P, w, K, mg, caK K cn⟩) k_House na_House_own_things (c_is_known base) b_is_known_2)
  obtain ⟨fd_House_copies, F_House_copies⟩ := c.def_ 22 (e := dd_House_copies) rfl
  obtain ⟨gb_want_thing_2, b_want_thing_2⟩ := kb0 (ps := [(Str.ofString "house"), (Str.ofString "thing")]) F_want_thing 2 [] [.p 0, .p 1] trivial (fun _ _ _ _ _ _ us ws hl hw => match us, hl, ws, hw with | [_, _], _, [], _ => rfl)
  have c_House_copies : ∀ base, FnG P w K mg base (L2.CX P w) 3 _ fd_House_copies [(Str.ofString "self"), (Str.ofString "thing")] (spF ⟨P, w, K, mg, caK K cn⟩ 2 ph_House_copies) := fun base => mth_ok (g := ⟨P, w, K, mg, caK K cn⟩) F_House_copies sc_House_copies (bd_House_copies (g := ⟨P, w, K, mg, caK K cn⟩) k_House na_House_own_things (c_want_thing base) b_want_thing_2)
  obtain ⟨fd_Sums_init, F_Sums_init⟩ := c.def_ 23 (e := dd_Sums_init) rfl
  obtain ⟨gb_House_copies_2, b_House_copies_2⟩ := kb0 (ps := [(Str.ofString "self"), (Str.ofString "thing")]) F_House_copies 2 [] [.p 0, .p 1] trivial (fun _ _ _ _ _ _ us ws hl hw => match us, hl, ws, hw with | [_, _], _, [], _ => rfl)
  have c_Sums_init : ∀ base, Kls ⟨P, w, K, mg, caK K cn⟩ base 5 1 (Str.ofString "Sums") [(Str.ofString "self"), (Str.ofString "house"), (Str.ofString "out")] ph_Sums_init _ fd_Sums_init := fun base => kls_ok (g := ⟨P, w, K, mg, caK K cn⟩) (c := 1) F_Sums_init sc_Sums_init mg_Sums mk_Sums (by decide) (bd_Sums_init (g := ⟨P, w, K, mg, caK K cn⟩) k_Sums k_House na_Sums_own_rooms na_Sums_own_groups na_Sums_own_copies (c_House_rooms base) (c_House_groups base) (c_House_things base) (c_House_copies base) pp_House_rooms bi_House_rooms pp_House_groups bi_House_groups pp_House_things bi_House_things mt_House_copies b_House_copies_2)
  obtain ⟨fd_subsets, F_subsets⟩ := c.def_ 24 (e := dd_subsets) rfl
  have c_subsets : ∀ base, Fnc ⟨P, w, K, mg, caK K cn⟩ base 1 (Str.ofString "subsets") [(Str.ofString "names")] ph_subsets _ fd_subsets := fun base => fn_ok F_subsets sc_subsets mg_subsets (bd_subsets (g := ⟨P, w, K, mg, caK K cn⟩) n_len n_range n_list)
  obtain ⟨fd_Sums_sets, F_Sums_sets⟩ := c.def_ 25 (e := dd_Sums_sets) rfl
  obtain ⟨gb_subsets_1, b_subsets_1⟩ := kb0 (ps := [(Str.ofString "names")]) F_subsets 1 [] [.p 0] trivial (fun _ _ _ _ _ _ us ws hl hw => match us, hl, ws, hw with | [_], _, [], _ => rfl)
  have c_Sums_sets : ∀ base, FnG P w K mg base (L2.CX P w) 2 _ fd_Sums_sets [(Str.ofString "self")] (spF ⟨P, w, K, mg, caK K cn⟩ 1 ph_Sums_sets) := fun base => mth_ok (g := ⟨P, w, K, mg, caK K cn⟩) F_Sums_sets sc_Sums_sets (bd_Sums_sets (g := ⟨P, w, K, mg, caK K cn⟩) n_list k_Sums na_Sums_own_rooms (c_subsets base) b_subsets_1)
  obtain ⟨fd_Sums_left, F_Sums_left⟩ := c.def_ 26 (e := dd_Sums_left) rfl
  have c_Sums_left : ∀ base, FnG P w K mg base (L2.CX P w) 1 _ fd_Sums_left [(Str.ofString "self"), (Str.ofString "some")] (spF ⟨P, w, K, mg, caK K cn⟩ 2 ph_Sums_left) := fun base => mth_ok (g := ⟨P, w, K, mg, caK K cn⟩) F_Sums_left sc_Sums_left (bd_Sums_left (g := ⟨P, w, K, mg, caK K cn⟩) n_any n_len k_Sums na_Sums_own_groups)
  obtain ⟨fd_Sums_need, F_Sums_need⟩ := c.def_ 27 (e := dd_Sums_need) rfl
  obtain ⟨gb_Sums_left_2, b_Sums_left_2⟩ := kb0 (ps := [(Str.ofString "self"), (Str.ofString "some")]) F_Sums_left 2 [] [.p 0, .p 1] trivial (fun _ _ _ _ _ _ us ws hl hw => match us, hl, ws, hw with | [_, _], _, [], _ => rfl)
  have c_Sums_need : ∀ base, FnG P w K mg base (L2.CX P w) 2 _ fd_Sums_need [(Str.ofString "self"), (Str.ofString "some")] (spF ⟨P, w, K, mg, caK K cn⟩ 2 ph_Sums_need) := fun base => mth_ok (g := ⟨P, w, K, mg, caK K cn⟩) F_Sums_need sc_Sums_need (bd_Sums_need (g := ⟨P, w, K, mg, caK K cn⟩) n_max n_sum k_Sums k_House na_Sums_own_copies na_House_own_copies (c_Sums_left base) mt_Sums_left b_Sums_left_2)
  obtain ⟨fd_Sums_room_sum, F_Sums_room_sum⟩ := c.def_ 28 (e := dd_Sums_room_sum) rfl
  have c_Sums_room_sum : ∀ base, FnG P w K mg base (L2.CX P w) 1 _ fd_Sums_room_sum [(Str.ofString "self"), (Str.ofString "some")] (spF ⟨P, w, K, mg, caK K cn⟩ 2 ph_Sums_room_sum) := fun base => mth_ok (g := ⟨P, w, K, mg, caK K cn⟩) F_Sums_room_sum sc_Sums_room_sum (bd_Sums_room_sum (g := ⟨P, w, K, mg, caK K cn⟩) n_sum k_Sums na_Sums_own_rooms)
  obtain ⟨fd_Sums_excess, F_Sums_excess⟩ := c.def_ 29 (e := dd_Sums_excess) rfl
  obtain ⟨gb_Sums_need_2, b_Sums_need_2⟩ := kb0 (ps := [(Str.ofString "self"), (Str.ofString "some")]) F_Sums_need 2 [] [.p 0, .p 1] trivial (fun _ _ _ _ _ _ us ws hl hw => match us, hl, ws, hw with | [_, _], _, [], _ => rfl)
  obtain ⟨gb_Sums_room_sum_2, b_Sums_room_sum_2⟩ := kb0 (ps := [(Str.ofString "self"), (Str.ofString "some")]) F_Sums_room_sum 2 [] [.p 0, .p 1] trivial (fun _ _ _ _ _ _ us ws hl hw => match us, hl, ws, hw with | [_, _], _, [], _ => rfl)
  have c_Sums_excess : ∀ base, FnG P w K mg base (L2.CX P w) 3 _ fd_Sums_excess [(Str.ofString "self"), (Str.ofString "some")] (spF ⟨P, w, K, mg, caK K cn⟩ 2 ph_Sums_excess) := fun base => mth_ok (g := ⟨P, w, K, mg, caK K cn⟩) F_Sums_excess sc_Sums_excess (bd_Sums_excess (g := ⟨P, w, K, mg, caK K cn⟩) k_Sums (c_Sums_need base) (c_Sums_room_sum base) mt_Sums_need mt_Sums_room_sum b_Sums_need_2 b_Sums_room_sum_2)
  obtain ⟨fd_can_be_out, F_can_be_out⟩ := c.def_ 30 (e := dd_can_be_out) rfl
  obtain ⟨gb_want_out_2, b_want_out_2⟩ := kb0 (ps := [(Str.ofString "house"), (Str.ofString "out")]) F_want_out 2 [] [.p 0, .p 1] trivial (fun _ _ _ _ _ _ us ws hl hw => match us, hl, ws, hw with | [_, _], _, [], _ => rfl)
  obtain ⟨gb_Sums_init_3, b_Sums_init_3⟩ := kb0 (ps := [(Str.ofString "self"), (Str.ofString "house"), (Str.ofString "out")]) F_Sums_init 3 [] [.p 0, .p 1, .p 2] trivial (fun _ _ _ _ _ _ us ws hl hw => match us, hl, ws, hw with | [_, _, _], _, [], _ => rfl)
  obtain ⟨gb_Sums_sets_1, b_Sums_sets_1⟩ := kb0 (ps := [(Str.ofString "self")]) F_Sums_sets 1 [] [.p 0] trivial (fun _ _ _ _ _ _ us ws hl hw => match us, hl, ws, hw with | [_], _, [], _ => rfl)
  obtain ⟨gb_Sums_excess_2, b_Sums_excess_2⟩ := kb0 (ps := [(Str.ofString "self"), (Str.ofString "some")]) F_Sums_excess 2 [] [.p 0, .p 1] trivial (fun _ _ _ _ _ _ us ws hl hw => match us, hl, ws, hw with | [_, _], _, [], _ => rfl)
  have c_can_be_out : ∀ base, Fnc ⟨P, w, K, mg, caK K cn⟩ base 7 (Str.ofString "can_be_out") [(Str.ofString "house"), (Str.ofString "out")] ph_can_be_out _ fd_can_be_out := fun base => fn_ok F_can_be_out sc_can_be_out mg_can_be_out (bd_can_be_out (g := ⟨P, w, K, mg, caK K cn⟩) n_all k_Sums (c_want_out base) (c_Sums_init base) (c_Sums_sets base) (c_Sums_excess base) mt_Sums_sets mt_Sums_excess b_want_out_2 b_Sums_init_3 b_Sums_sets_1 b_Sums_excess_2)
  obtain ⟨fd_is_name, F_is_name⟩ := c.def_ 31 (e := dd_is_name) rfl
  have c_is_name : ∀ base, Fnc ⟨P, w, K, mg, caK K cn⟩ base 1 (Str.ofString "is_name") [(Str.ofString "value")] ph_is_name _ fd_is_name := fun base => fn_ok F_is_name sc_is_name mg_is_name (bd_is_name (g := ⟨P, w, K, mg, caK K cn⟩) n_isinstance n_str n_len n_all i_MOST_NAME s_LETTERS s_DIGITS)
  obtain ⟨fd_is_host_row, F_is_host_row⟩ := c.def_ 32 (e := dd_is_host_row) rfl
  obtain ⟨gb_is_name_1, b_is_name_1⟩ := kb0 (ps := [(Str.ofString "value")]) F_is_name 1 [] [.p 0] trivial (fun _ _ _ _ _ _ us ws hl hw => match us, hl, ws, hw with | [_], _, [], _ => rfl)
  have c_is_host_row : ∀ base, Fnc ⟨P, w, K, mg, caK K cn⟩ base 3 (Str.ofString "is_host_row") [(Str.ofString "value")] ph_is_host_row _ fd_is_host_row := fun base => fn_ok F_is_host_row sc_is_host_row mg_is_host_row (bd_is_host_row (g := ⟨P, w, K, mg, caK K cn⟩) n_isinstance n_tuple n_len (c_is_count base) (c_is_name base) b_is_count_1 b_is_name_1)
  obtain ⟨fd_want_hosts, F_want_hosts⟩ := c.def_ 33 (e := dd_want_hosts) rfl
  obtain ⟨gb_is_host_row_1, b_is_host_row_1⟩ := kb0 (ps := [(Str.ofString "value")]) F_is_host_row 1 [] [.p 0] trivial (fun _ _ _ _ _ _ us ws hl hw => match us, hl, ws, hw with | [_], _, [], _ => rfl)
  have c_want_hosts : ∀ base, Fnc ⟨P, w, K, mg, caK K cn⟩ base 4 (Str.ofString "want_hosts") [(Str.ofString "value")] ph_want_hosts _ fd_want_hosts := fun base => fn_ok F_want_hosts sc_want_hosts mg_want_hosts (bd_want_hosts (g := ⟨P, w, K, mg, caK K cn⟩) n_isinstance n_dict n_len n_all (c_is_name base) (c_is_host_row base) b_is_name_1 b_is_host_row_1)
  obtain ⟨fd_is_copies, F_is_copies⟩ := c.def_ 34 (e := dd_is_copies) rfl
  have c_is_copies : ∀ base, Fnc ⟨P, w, K, mg, caK K cn⟩ base 2 (Str.ofString "is_copies") [(Str.ofString "value")] ph_is_copies _ fd_is_copies := fun base => fn_ok F_is_copies sc_is_copies mg_is_copies (bd_is_copies (g := ⟨P, w, K, mg, caK K cn⟩) i_MOST_COPIES (c_is_integer base) b_is_integer_1)
  obtain ⟨fd_want_things, F_want_things⟩ := c.def_ 35 (e := dd_want_things) rfl
  obtain ⟨gb_is_copies_1, b_is_copies_1⟩ := kb0 (ps := [(Str.ofString "value")]) F_is_copies 1 [] [.p 0] trivial (fun _ _ _ _ _ _ us ws hl hw => match us, hl, ws, hw with | [_], _, [], _ => rfl)
  have c_want_things : ∀ base, Fnc ⟨P, w, K, mg, caK K cn⟩ base 3 (Str.ofString "want_things") [(Str.ofString "value")] ph_want_things _ fd_want_things := fun base => fn_ok F_want_things sc_want_things mg_want_things (bd_want_things (g := ⟨P, w, K, mg, caK K cn⟩) n_isinstance n_dict n_all (c_is_name base) (c_is_copies base) b_is_name_1 b_is_copies_1)
  obtain ⟨fd_want_limit, F_want_limit⟩ := c.def_ 36 (e := dd_want_limit) rfl
  have c_want_limit : ∀ base, Fnc ⟨P, w, K, mg, caK K cn⟩ base 1 (Str.ofString "want_limit") [(Str.ofString "many"), (Str.ofString "what"), (Str.ofString "limit")] ph_want_limit _ fd_want_limit := fun base => fn_ok F_want_limit sc_want_limit mg_want_limit (bd_want_limit (g := ⟨P, w, K, mg, caK K cn⟩) )
  obtain ⟨fd_greatest_rooms, F_greatest_rooms⟩ := c.def_ 37 (e := dd_greatest_rooms) rfl
  have c_greatest_rooms : ∀ base, Fnc ⟨P, w, K, mg, caK K cn⟩ base 1 (Str.ofString "greatest_rooms") [(Str.ofString "hosts")] ph_greatest_rooms _ fd_greatest_rooms := fun base => fn_ok F_greatest_rooms sc_greatest_rooms mg_greatest_rooms (bd_greatest_rooms (g := ⟨P, w, K, mg, caK K cn⟩) n_max)
  obtain ⟨fd_in_order, F_in_order⟩ := c.def_ 38 (e := dd_in_order) rfl
  have c_in_order : ∀ base, Fnc ⟨P, w, K, mg, caK K cn⟩ base 1 (Str.ofString "in_order") [(Str.ofString "table")] ph_in_order _ fd_in_order := fun base => fn_ok F_in_order sc_in_order mg_in_order (bd_in_order (g := ⟨P, w, K, mg, caK K cn⟩) hsy n_sorted)
  obtain ⟨fd_each_copy, F_each_copy⟩ := c.def_ 39 (e := dd_each_copy) rfl
  have c_each_copy : ∀ base, Fnc ⟨P, w, K, mg, caK K cn⟩ base 1 (Str.ofString "each_copy") [(Str.ofString "things")] ph_each_copy _ fd_each_copy := fun base => fn_ok F_each_copy sc_each_copy mg_each_copy (bd_each_copy (g := ⟨P, w, K, mg, caK K cn⟩) hsy n_sorted)
  obtain ⟨fd_House_init, F_House_init⟩ := c.def_ 40 (e := dd_House_init) rfl
  obtain ⟨gb_want_hosts_1, b_want_hosts_1⟩ := kb0 (ps := [(Str.ofString "value")]) F_want_hosts 1 [] [.p 0] trivial (fun _ _ _ _ _ _ us ws hl hw => match us, hl, ws, hw with | [_], _, [], _ => rfl)
  obtain ⟨gb_want_things_1, b_want_things_1⟩ := kb0 (ps := [(Str.ofString "value")]) F_want_things 1 [] [.p 0] trivial (fun _ _ _ _ _ _ us ws hl hw => match us, hl, ws, hw with | [_], _, [], _ => rfl)
  obtain ⟨gb_want_limit_3, b_want_limit_3⟩ := kb0 (ps := [(Str.ofString "many"), (Str.ofString "what"), (Str.ofString "limit")]) F_want_limit 3 [] [.p 0, .p 1, .p 2] trivial (fun _ _ _ _ _ _ us ws hl hw => match us, hl, ws, hw with | [_, _, _], _, [], _ => rfl)
  obtain ⟨gb_greatest_rooms_1, b_greatest_rooms_1⟩ := kb0 (ps := [(Str.ofString "hosts")]) F_greatest_rooms 1 [] [.p 0] trivial (fun _ _ _ _ _ _ us ws hl hw => match us, hl, ws, hw with | [_], _, [], _ => rfl)
  obtain ⟨gb_in_order_1, b_in_order_1⟩ := kb0 (ps := [(Str.ofString "table")]) F_in_order 1 [] [.p 0] trivial (fun _ _ _ _ _ _ us ws hl hw => match us, hl, ws, hw with | [_], _, [], _ => rfl)
  obtain ⟨gb_each_copy_1, b_each_copy_1⟩ := kb0 (ps := [(Str.ofString "things")]) F_each_copy 1 [] [.p 0] trivial (fun _ _ _ _ _ _ us ws hl hw => match us, hl, ws, hw with | [_], _, [], _ => rfl)
  have c_House_init : ∀ base, Kls ⟨P, w, K, mg, caK K cn⟩ base 5 0 (Str.ofString "House") [(Str.ofString "self"), (Str.ofString "hosts"), (Str.ofString "things"), (Str.ofString "most_rooms")] ph_House_init _ fd_House_init := fun base => kls_ok (g := ⟨P, w, K, mg, caK K cn⟩) (c := 0) F_House_init sc_House_init mg_House mk_House (by decide) (bd_House_init (g := ⟨P, w, K, mg, caK K cn⟩) n_len i_MOST_HOSTS i_MOST_THINGS k_House na_House_own_hosts na_House_own_things na_House_own_copies (c_want_hosts base) (c_want_things base) (c_want_limit base) (c_greatest_rooms base) (c_in_order base) (c_each_copy base) b_want_hosts_1 b_want_things_1 b_want_limit_3 b_greatest_rooms_1 b_in_order_1 b_each_copy_1)
  obtain ⟨fd__law_house, F__law_house⟩ := c.def_ 41 (e := dd__law_house) rfl
  obtain ⟨gb_House_init_3, b_House_init_3⟩ := kbD (ps := [(Str.ofString "self"), (Str.ofString "hosts"), (Str.ofString "things"), (Str.ofString "most_rooms")]) F_House_init 3 3 [] [.p 0, .p 1, .p 2, .d (.int 20) (.int 20)] (by intro h; cases h) (by simp [ShOk, He.DefD.dvs, He.Dv.v, dd_House_init]) (fun _ _ _ _ _ _ _ us its ws hl hi hw => match us, hl, its, hi, ws, hw with | [_, _, _], _, [_], _, [], _ => ⟨_, rfl, rfl⟩)
  have c__law_house : ∀ base, Fnc ⟨P, w, K, mg, caK K cn⟩ base 7 (Str.ofString "_law_house") [(Str.ofString "_law_sorts_now"), (Str.ofString "_law_many_now"), (Str.ofString "_law_copies_now")] ph__law_house _ fd__law_house := fun base => fn_ok F__law_house sc__law_house mg__law_house (bd__law_house (g := ⟨P, w, K, mg, caK K cn⟩) n_enumerate n_range n_str n_dict (c_House_init base) b_House_init_3)
  obtain ⟨fd_most_that_fit, F_most_that_fit⟩ := c.def_ 42 (e := dd_most_that_fit) rfl
  have c_most_that_fit : ∀ base, Fnc ⟨P, w, K, mg, caK K cn⟩ base 2 (Str.ofString "most_that_fit") [(Str.ofString "sorts"), (Str.ofString "copies")] ph_most_that_fit _ fd_most_that_fit := fun base => fn_ok F_most_that_fit sc_most_that_fit mg_most_that_fit (bd_most_that_fit (g := ⟨P, w, K, mg, caK K cn⟩) n_max n_sum (c_carried base) b_carried_2)
  obtain ⟨fd_most_things, F_most_things⟩ := c.def_ 43 (e := dd_most_things) rfl
  obtain ⟨gb_most_that_fit_2, b_most_that_fit_2⟩ := kb0 (ps := [(Str.ofString "sorts"), (Str.ofString "copies")]) F_most_that_fit 2 [] [.p 0, .p 1] trivial (fun _ _ _ _ _ _ us ws hl hw => match us, hl, ws, hw with | [_, _], _, [], _ => rfl)
  have c_most_things : ∀ base, Fnc ⟨P, w, K, mg, caK K cn⟩ base 5 (Str.ofString "most_things") [(Str.ofString "sorts"), (Str.ofString "copies")] ph_most_things _ fd_most_things := fun base => fn_ok F_most_things sc_most_things mg_most_things (bd_most_things (g := ⟨P, w, K, mg, caK K cn⟩) (c_want_sorts base) (c_want_copies_each base) (c_most_that_fit base) b_want_sorts_1 b_want_copies_each_1 b_most_that_fit_2)
  obtain ⟨fd__law_right, F__law_right⟩ := c.def_ 44 (e := dd__law_right) rfl
  obtain ⟨gb__law_drawn_sorts_3, b__law_drawn_sorts_3⟩ := kb0 (ps := [(Str.ofString "_law_pot_here"), (Str.ofString "_law_size"), (Str.ofString "_law_top")]) F__law_drawn_sorts 3 [] [.p 0, .p 1, .p 2] trivial (fun _ _ _ _ _ _ us ws hl hw => match us, hl, ws, hw with | [_, _, _], _, [], _ => rfl)
  obtain ⟨gb__law_put_3, b__law_put_3⟩ := kb0 (ps := [(Str.ofString "_law_sorts_now"), (Str.ofString "_law_many_now"), (Str.ofString "_law_copies_now")]) F__law_put 3 [] [.p 0, .p 1, .p 2] trivial (fun _ _ _ _ _ _ us ws hl hw => match us, hl, ws, hw with | [_, _, _], _, [], _ => rfl)
  obtain ⟨gb_do_fit_3, b_do_fit_3⟩ := kb0 (ps := [(Str.ofString "sorts"), (Str.ofString "many"), (Str.ofString "copies")]) F_do_fit 3 [] [.p 0, .p 1, .p 2] trivial (fun _ _ _ _ _ _ us ws hl hw => match us, hl, ws, hw with | [_, _, _], _, [], _ => rfl)
  obtain ⟨gb_do_fit_0_copies_many_sorts, b_do_fit_0_copies_many_sorts⟩ := kb0 (ps := [(Str.ofString "sorts"), (Str.ofString "many"), (Str.ofString "copies")]) F_do_fit 0 [(Str.ofString "copies"), (Str.ofString "many"), (Str.ofString "sorts")] [.k 2, .k 1, .k 0] trivial (fun _ _ _ _ _ _ us ws hl hw => match us, hl, ws, hw with | [], _, [_, _, _], _ => rfl)
  obtain ⟨gb_can_be_out_2, b_can_be_out_2⟩ := kb0 (ps := [(Str.ofString "house"), (Str.ofString "out")]) F_can_be_out 2 [] [.p 0, .p 1] trivial (fun _ _ _ _ _ _ us ws hl hw => match us, hl, ws, hw with | [_, _], _, [], _ => rfl)
  obtain ⟨gb__law_house_3, b__law_house_3⟩ := kb0 (ps := [(Str.ofString "_law_sorts_now"), (Str.ofString "_law_many_now"), (Str.ofString "_law_copies_now")]) F__law_house 3 [] [.p 0, .p 1, .p 2] trivial (fun _ _ _ _ _ _ us ws hl hw => match us, hl, ws, hw with | [_, _, _], _, [], _ => rfl)
  obtain ⟨gb_most_things_2, b_most_things_2⟩ := kb0 (ps := [(Str.ofString "sorts"), (Str.ofString "copies")]) F_most_things 2 [] [.p 0, .p 1] trivial (fun _ _ _ _ _ _ us ws hl hw => match us, hl, ws, hw with | [_, _], _, [], _ => rfl)
  obtain ⟨gb_most_things_0_copies_sorts, b_most_things_0_copies_sorts⟩ := kb0 (ps := [(Str.ofString "sorts"), (Str.ofString "copies")]) F_most_things 0 [(Str.ofString "copies"), (Str.ofString "sorts")] [.k 1, .k 0] trivial (fun _ _ _ _ _ _ us ws hl hw => match us, hl, ws, hw with | [], _, [_, _], _ => rfl)
  have c__law_right : ∀ base, Fnc ⟨P, w, K, mg, caK K cn⟩ base 8 (Str.ofString "_law_right") [(Str.ofString "_law_pot_here")] ph__law_right _ fd__law_right := fun base => fn_ok F__law_right sc__law_right mg__law_right (bd__law_right (g := ⟨P, w, K, mg, caK K cn⟩) hsy n_sum n_range n_tuple n_repr n_len (c__law_drawn_sorts base) (c__law_draw base) (c__law_put base) (c_do_fit base) (c_can_be_out base) (c__law_house base) (c_most_things base) b__law_drawn_sorts_3 b__law_draw_2 b__law_put_3 b_do_fit_3 b_do_fit_0_copies_many_sorts b_can_be_out_2 b__law_house_3 b_most_things_2 b_most_things_0_copies_sorts)
  obtain ⟨fd__law_pot, F__law_pot⟩ := c.def_ 45 (e := dd__law_pot) rfl
  have c__law_pot : ∀ base, Fnc ⟨P, w, K, mg, caK K cn⟩ base 1 (Str.ofString "_law_pot") [(Str.ofString "_law_script"), (Str.ofString "_law_k")] ph__law_pot _ fd__law_pot := fun base => fn_ok F__law_pot sc__law_pot mg__law_pot (bd__law_pot (g := ⟨P, w, K, mg, caK K cn⟩) n_len n_abs n_max n_int)
  obtain ⟨fd_law, F_law⟩ := c.def_ 46 (e := dd_law) rfl
  obtain ⟨gb__law_right_1, b__law_right_1⟩ := kb0 (ps := [(Str.ofString "_law_pot_here")]) F__law_right 1 [] [.p 0] trivial (fun _ _ _ _ _ _ us ws hl hw => match us, hl, ws, hw with | [_], _, [], _ => rfl)
  obtain ⟨gb__law_pot_2, b__law_pot_2⟩ := kb0 (ps := [(Str.ofString "_law_script"), (Str.ofString "_law_k")]) F__law_pot 2 [] [.p 0, .p 1] trivial (fun _ _ _ _ _ _ us ws hl hw => match us, hl, ws, hw with | [_, _], _, [], _ => rfl)
  have c_law : ∀ base, Fnc ⟨P, w, K, mg, caK K cn⟩ base 9 (Str.ofString "law") [(Str.ofString "_law_script")] ph_law _ fd_law := fun base => fn_ok F_law sc_law mg_law (bd_law (g := ⟨P, w, K, mg, caK K cn⟩) n_len n_min n_max n_range n_all (c__law_right base) (c__law_pot base) b__law_right_1 b__law_pot_2)
  exact ⟨_, fd_law, c_law, fun s v => FunD.bindsA (ps := [(Str.ofString "_law_script")]) F_law (fun _ _ _ _ _ _ us hl => match us, hl with | [_], _ => rfl) s [v] rfl⟩
end K81
namespace K81
open PySem PySem.Spec L2 EL
abbrev Srt := Int × Int
def pr (p : Srt) : D := .tup [.int p.1, .int p.2]
def Sq (d : D) (ss : List Srt) : Prop := d = .lst (ss.map pr) ∨ d = .tup (ss.map pr)
def BB : Int := 2 ^ 2000
theorem bb_abs {i : Int} (h1 : -BB < i) (h2 : i < BB) : i.natAbs.log2 < 2000 := by
  refine PySem.Flt.log2_lt_of (by decide) ?_
  have e : BB = ((2 ^ 2000 : Nat) : Int) := by unfold BB; exact (Int.natCast_pow 2 2000).symm
  omega
theorem mf {i j : Int} (h1 : -BB < i) (h2 : i < BB) (h3 : -BB < j) (h4 : j < BB) : mulFit i j = true := by
  have a := bb_abs h1 h2
  have b := bb_abs h3 h4
  unfold mulFit
  exact decide_eq_true (by omega)
theorem df {j : Int} (h1 : 0 < j) (h2 : j < BB) : divFit j = true := by
  have a := bb_abs (i := j) (by have : 0 < BB := by unfold BB; decide +kernel
                                omega) h2
  unfold divFit
  exact decide_eq_true ⟨h1, by omega⟩
theorem bb_pos : 0 < BB := by unfold BB; decide +kernel
theorem r_is_integer (i : Int) (cs : Cells) : ph_is_integer [.int i] cs = .ok (.bl true) false cs := rfl
theorem r_is_count (i : Int) (cs : Cells) : ph_is_count [.int i] cs = .ok (.bl (decide (0 ≤ i))) false cs := rfl
theorem r_is_list_l (ds : List D) (cs : Cells) : ph_is_list [.lst ds] cs = .ok (.bl true) false cs := rfl
theorem r_is_list_t (ds : List D) (cs : Cells) : ph_is_list [.tup ds] cs = .ok (.bl true) false cs := rfl
theorem r_is_sort (p : Srt) (cs : Cells) (h1 : 0 ≤ p.1) (h2 : 0 ≤ p.2) : ph_is_sort [pr p] cs = .ok (.bl true) false cs := by
  simp [ph_is_sort, m_is_sort, pr, r_is_count, h1, h2, eqD, atI, ixN]
theorem r_want_sorts {d : D} {ss : List Srt} (cs : Cells) (hd : Sq d ss) (hp : ∀ p ∈ ss, 0 ≤ p.1 ∧ 0 ≤ p.2) (h1 : 1 ≤ ss.length) (h2 : ss.length ≤ 3) : ph_want_sorts [d] cs = .ok .non false cs := by
  have key : compM (turnM [1] (.name 1) (M.pure true) (mZ (mCall ph_is_sort [.p 0] (mCons (mVar 1) (M.pure [])) (M.pure [])))) (ss.map pr) [.fz d, .no] cs = .ok (ss.map fun _ => D.bl true) [.fz d, .no] cs :=
    compM_map ss fun p hm => by simp [r_is_sort p cs (hp p hm).1 (hp p hm).2]
  have hb := blsD_map (fun _ : Srt => true) ss
  have l1 : (1 : Int) ≤ ss.length := by omega
  have l2 : (ss.length : Int) ≤ 3 := by omega
  rcases hd with rfl | rfl
  · simp [ph_want_sorts, m_want_sorts, r_is_list_l, key, hb, l1, l2]
  · simp [ph_want_sorts, m_want_sorts, r_is_list_t, key, hb, l1, l2]

def mn (i j : Int) : Int := if j < i then j else i
def car (ss : List Srt) (m : Int) : Int := (ss.map fun p => p.1 * mn p.2 m).sum
/-- numbers that are small enough -/
def In (i : Int) : Prop := 0 ≤ i ∧ i < BB
def Oks (ss : List Srt) : Prop := ∀ p ∈ ss, In p.1 ∧ In p.2
theorem In.mul {i j : Int} (h : In i) (k : In j) : mulFit i j = true := by
  have := bb_pos
  obtain ⟨h1, h2⟩ := h
  obtain ⟨h3, h4⟩ := k
  exact mf (by omega) h2 (by omega) h4
theorem in_mn {i j : Int} (h : In i) (k : In j) : In (mn i j) := by
  unfold mn
  split
  · exact k
  · exact h
theorem r_want_copies (c : Int) (cs : Cells) (h : 1 ≤ c) : ph_want_copies_each [.int c] cs = .ok .non false cs := by
  have h0 : 0 ≤ c := by omega
  have h1 : ¬ c = 0 := by omega
  simp [ph_want_copies_each, m_want_copies_each, r_is_count, h0, eqD, h1]
theorem Sq.items {d : D} {ss : List Srt} (h : Sq d ss) : itemsD d = some (ss.map pr) := by
  rcases h with rfl | rfl <;> rfl
theorem r_carried {d : D} {ss : List Srt} {m : Int} (cs : Cells) (hd : Sq d ss) (hp : Oks ss) (hm : In m) : ph_carried [d, .int m] cs = .ok (.int (car ss m)) false cs := by
  have key : compM (turnM [2, 3] (.tup [(.name 2), (.name 3)]) (M.pure true) (mZ (mOp2 (dr2 opMul) (mPeek 2) (mZ (mOpN (drN fMin) (mCons (mPeek 3) (mCons (mPeek 1) (M.pure [])))))))) (ss.map pr) [.fz d, .fz (.int m), .no, .no] cs = .ok (ss.map fun p => D.int (p.1 * mn p.2 m)) [.fz d, .fz (.int m), .no, .no] cs :=
    compM_map ss fun p hp' => by
      have hb : mulFit p.1 (if m < p.2 then m else p.2) = true := (hp p hp').1.mul (in_mn (hp p hp').2 hm)
      simp [pr, hb, mn]
  have hi := intsD_map (fun p : Srt => p.1 * mn p.2 m) ss
  have hit := hd.items
  simp [ph_carried, m_carried, key, hi, car, hit]
theorem r_want_many {d : D} {ss : List Srt} {m c : Int} (cs : Cells) (hd : Sq d ss) (hp : Oks ss) (h1 : 1 ≤ ss.length) (h2 : ss.length ≤ 3) (hm : 0 ≤ m) (hc : 1 ≤ c) : ph_want_many [d, .int m, .int c] cs = .ok .non false cs := by
  have h := r_want_sorts cs hd (fun p hp' => ⟨(hp p hp').1.1, (hp p hp').2.1⟩) h1 h2
  have h3 := r_want_copies c cs hc
  simp [ph_want_many, m_want_many, h, h3, r_is_count, hm]
theorem r_do_fit {d : D} {ss : List Srt} {m c : Int} (cs : Cells) (hd : Sq d ss) (hp : Oks ss) (h1 : 1 ≤ ss.length) (h2 : ss.length ≤ 3) (hm : In m) (hc : 1 ≤ c) (hc' : In c) : ph_do_fit [d, .int m, .int c] cs = .ok (.bl (decide (m * c ≤ car ss m))) false cs := by
  have h := r_want_many cs hd hp h1 h2 hm.1 hc
  have h3 := r_carried cs hd hp hm
  have hf := hm.mul hc'
  simp [ph_do_fit, m_do_fit, h, h3, hf]
/-! ### the most that fits -/
def lowOf (ss : List Srt) (c : Int) : Int := maxI 0 ((ss.filter fun p => decide (p.2 * c ≤ car ss p.2)).map (·.2))
def fullOf (ss : List Srt) (l : Int) : Int := ((ss.filter fun p => decide (p.2 ≤ l)).map fun p => p.1 * p.2).sum
def wideOf (ss : List Srt) (l : Int) : Int := ((ss.filter fun p => decide (l < p.2)).map (·.1)).sum
def mostFit (ss : List Srt) (c : Int) : Int := fullOf ss (lowOf ss c) / (c - wideOf ss (lowOf ss c))
theorem r_most_that_fit {d : D} {ss : List Srt} {c : Int} (cs : Cells) (hd : Sq d ss) (hp : Oks ss) (h2 : ss.length ≤ 3) (hc : In c) (hw : 0 < c - wideOf ss (lowOf ss c)) (hw2 : c - wideOf ss (lowOf ss c) < BB) :
    ph_most_that_fit [d, .int c] cs = .ok (.int (mostFit ss c)) false cs := by
  have hit := hd.items
  have k1 : compM (turnM [5, 6] (.tup [(.name 5), (.name 6)]) (mBl (mOp2 (dr2 opGe) (mZ (mCall ph_carried [.p 0, .p 1] (mCons (mVar 0) (mCons (mVar 6) (M.pure []))) (M.pure []))) (mZ (mOp2 (dr2 opMul) (mPeek 6) (mPeek 1))))) (mVar 6)) (ss.map pr) [.fz d, .fz (.int c), .no, .no, .no, .no, .no] cs =
      .ok ((ss.filter fun p => decide (p.2 * c ≤ car ss p.2)).map fun p => .int p.2) [.fz d, .fz (.int c), .no, .no, .no, .no, .no] cs :=
    compM_if ss fun p hp' => by
      have h1 := r_carried cs hd hp (hp p hp').2
      have h2 := (hp p hp').2.mul hc
      simp [pr, h1, h2]
      by_cases h : p.2 * c ≤ car ss p.2 <;> simp [h]
  have i1 := intsD_map (fun p : Srt => p.2) (ss.filter fun p => decide (p.2 * c ≤ car ss p.2))
  have l1 : 1 + (ss.filter fun p => decide (p.2 * c ≤ car ss p.2)).length ≤ sizeLine := by
    have := List.length_filter_le (fun p : Srt => decide (p.2 * c ≤ car ss p.2)) ss
    have e : sizeLine = 16777216 := rfl
    omega
  have k2 : compM (turnM [5, 6] (.tup [(.name 5), (.name 6)]) (mBl (mOp2 (dr2 opLe) (mPeek 6) (mPeek 2))) (mZ (mOp2 (dr2 opMul) (mPeek 5) (mPeek 6)))) (ss.map pr) [.fz d, .fz (.int c), .fz (.int (lowOf ss c)), .no, .no, .no, .no] cs =
      .ok ((ss.filter fun p => decide (p.2 ≤ lowOf ss c)).map fun p => .int (p.1 * p.2)) [.fz d, .fz (.int c), .fz (.int (lowOf ss c)), .no, .no, .no, .no] cs :=
    compM_if ss fun p hp' => by
      have h2 := (hp p hp').1.mul (hp p hp').2
      by_cases h : p.2 ≤ lowOf ss c <;> simp [pr, h2, h]
  have i2 := intsD_map (fun p : Srt => p.1 * p.2) (ss.filter fun p => decide (p.2 ≤ lowOf ss c))
  have k3 : compM (turnM [5, 6] (.tup [(.name 5), (.name 6)]) (mBl (mOp2 (dr2 opGt) (mPeek 6) (mPeek 2))) (mVar 5)) (ss.map pr) [.fz d, .fz (.int c), .fz (.int (lowOf ss c)), .fz (.int (fullOf ss (lowOf ss c))), .no, .no, .no] cs =
      .ok ((ss.filter fun p => decide (lowOf ss c < p.2)).map fun p => .int p.1) [.fz d, .fz (.int c), .fz (.int (lowOf ss c)), .fz (.int (fullOf ss (lowOf ss c))), .no, .no, .no] cs :=
    compM_if ss fun p hp' => by
      by_cases h : lowOf ss c < p.2 <;> simp [pr, h]
  have i3 := intsD_map (fun p : Srt => p.1) (ss.filter fun p => decide (lowOf ss c < p.2))
  have hdv := df hw hw2
  have e1 : ((ss.filter fun p => decide (p.2 ≤ lowOf ss c)).map fun p => p.1 * p.2).sum = fullOf ss (lowOf ss c) := rfl
  have e2 : ((ss.filter fun p => decide (lowOf ss c < p.2)).map fun p => p.1).sum = wideOf ss (lowOf ss c) := rfl
  have e3 : maxI 0 ((ss.filter fun p => decide (p.2 * c ≤ car ss p.2)).map fun p => p.2) = lowOf ss c := rfl
  simp [ph_most_that_fit, m_most_that_fit, hit, k1, l1, intsD, i1, e3, k2, i2, e1, k3, i3, e2, hdv, mostFit]
theorem r_most_things {d : D} {ss : List Srt} {c : Int} (cs : Cells) (hd : Sq d ss) (hp : Oks ss) (h1 : 1 ≤ ss.length) (h2 : ss.length ≤ 3) (hc1 : 1 ≤ c) (hc : In c) (hw : 0 < c - wideOf ss (lowOf ss c)) (hw2 : c - wideOf ss (lowOf ss c) < BB) :
    ph_most_things [d, .int c] cs = .ok (.int (mostFit ss c)) false cs := by
  have h := r_want_sorts cs hd (fun p hp' => ⟨(hp p hp').1.1, (hp p hp').2.1⟩) h1 h2
  have h3 := r_want_copies c cs hc1
  have h4 := r_most_that_fit cs hd hp h2 hc hw hw2
  simp [ph_most_things, m_most_things, h, h3, h4]
end K81
namespace K81
open PySem PySem.Spec L2 EL
def Fits (ss : List Srt) (m c : Int) : Prop := m * c ≤ car ss m
def Nn (ss : List Srt) : Prop := ∀ p ∈ ss, 0 ≤ p.1 ∧ 0 ≤ p.2
theorem Nn.tail {p : Srt} {ss : List Srt} (h : Nn (p :: ss)) : Nn ss := fun q hq => h q (List.mem_cons_of_mem _ hq)
theorem car_nil (m : Int) : car [] m = 0 := rfl
theorem car_cons (p : Srt) (ss : List Srt) (m : Int) : car (p :: ss) m = p.1 * mn p.2 m + car ss m := by simp [car]
theorem car_step {m : Int} (hm : 0 ≤ m) : ∀ {ss : List Srt}, Nn ss → m * car ss (m + 1) ≤ (m + 1) * car ss m
  | [], _ => by simp [car_nil]
  | p :: ss, h => by
    have ih := car_step hm h.tail
    obtain ⟨h1, h2⟩ := h p List.mem_cons_self
    rw [car_cons, car_cons]
    have e : m * mn p.2 (m + 1) ≤ (m + 1) * mn p.2 m := by
      by_cases hr : p.2 ≤ m
      · have e1 : mn p.2 m = p.2 := by unfold mn; split <;> omega
        have e2 : mn p.2 (m + 1) = p.2 := by unfold mn; split <;> omega
        rw [e1, e2]
        exact Int.mul_le_mul_of_nonneg_right (by omega) h2
      · have e1 : mn p.2 m = m := by unfold mn; split <;> omega
        have e2 : mn p.2 (m + 1) = m + 1 := by unfold mn; split <;> omega
        rw [e1, e2, Int.mul_comm]
        exact Int.le_refl _
    have e3 := Int.mul_le_mul_of_nonneg_left e h1
    have e4 : m * (p.1 * mn p.2 (m + 1) + car ss (m + 1)) = p.1 * (m * mn p.2 (m + 1)) + m * car ss (m + 1) := by
      rw [Int.mul_add, Int.mul_left_comm]
    have e5 : (m + 1) * (p.1 * mn p.2 m + car ss m) = p.1 * ((m + 1) * mn p.2 m) + (m + 1) * car ss m := by
      rw [Int.mul_add, Int.mul_left_comm]
    omega
theorem fits_down {ss : List Srt} {m c : Int} (h : Nn ss) (hm : 0 ≤ m) (f : Fits ss (m + 1) c) : Fits ss m c := by
  unfold Fits at f ⊢
  have a := car_step hm h
  have b := Int.mul_le_mul_of_nonneg_left f hm
  have e : m * ((m + 1) * c) = (m + 1) * (m * c) := Int.mul_left_comm ..
  rw [e] at b
  exact Int.le_of_mul_le_mul_left (Int.le_trans b a) (by omega)
def Most (ss : List Srt) (c x : Int) : Prop := 0 ≤ x ∧ Fits ss x c ∧ ¬ Fits ss (x + 1) c
theorem fits_le {ss : List Srt} {c : Int} (h : Nn ss) : ∀ (n : Nat) {m : Int}, 0 ≤ m → Fits ss (m + n) c → Fits ss m c
  | 0, m, _, f => by simpa using f
  | n + 1, m, hm, f => by
    refine fits_le h n hm (fits_down h (by omega) ?_)
    have e : m + ((n + 1 : Nat) : Int) = m + (n : Int) + 1 := by omega
    rwa [e] at f
theorem Most.iff {ss : List Srt} {c x : Int} (h : Nn ss) (k : Most ss c x) {y : Int} (hy : 0 ≤ y) : Fits ss y c ↔ y ≤ x := by
  obtain ⟨h0, h1, h2⟩ := k
  constructor
  · intro f
    by_cases hle : y ≤ x
    · exact hle
    · exfalso
      refine h2 (fits_le h (y - (x + 1)).toNat (by omega) ?_)
      have e : x + 1 + (((y - (x + 1)).toNat : Nat) : Int) = y := by omega
      rwa [e]
  · intro hle
    refine fits_le h (x - y).toNat hy ?_
    have e : y + (((x - y).toNat : Nat) : Int) = x := by omega
    rwa [e]
theorem Most.eq {ss : List Srt} {c x y : Int} (h : Nn ss) (k : Most ss c x) (k' : Most ss c y) : x = y := by
  have a := (k.iff h k'.1).mp k'.2.1
  have b := (k'.iff h k.1).mp k.2.1
  omega
theorem sum_nonneg : ∀ {l : List Int}, (∀ x ∈ l, 0 ≤ x) → 0 ≤ l.sum
  | [], _ => by simp
  | x :: l, h => by
    rw [List.sum_cons]
    have := h x List.mem_cons_self
    have := sum_nonneg (l := l) fun y hy => h y (List.mem_cons_of_mem _ hy)
    omega
theorem wide_nonneg {ss : List Srt} (h : Nn ss) (l : Int) : 0 ≤ wideOf ss l := sum_nonneg fun x hx => by
  obtain ⟨p, hp, rfl⟩ := List.mem_map.mp hx
  exact (h p (List.mem_filter.mp hp).1).1
theorem car_split {l m : Int} (hl : l ≤ m) : ∀ {ss : List Srt}, (∀ p ∈ ss, l < p.2 → m ≤ p.2) → car ss m = fullOf ss l + wideOf ss l * m
  | [], _ => by simp [car, fullOf, wideOf]
  | p :: ss, h => by
    have ih := car_split hl (ss := ss) fun q hq => h q (List.mem_cons_of_mem _ hq)
    have hp := h p List.mem_cons_self
    rw [car_cons, ih]
    by_cases hr : p.2 ≤ l
    · have e : mn p.2 m = p.2 := by unfold mn; split <;> omega
      have e1 : fullOf (p :: ss) l = p.1 * p.2 + fullOf ss l := by simp [fullOf, hr]
      have e2 : wideOf (p :: ss) l = wideOf ss l := by
        have : ¬ l < p.2 := by omega
        simp [wideOf, this]
      rw [e, e1, e2]
      omega
    · have hr' : l < p.2 := by omega
      have hm := hp hr'
      have e : mn p.2 m = m := by unfold mn; split <;> omega
      have e1 : fullOf (p :: ss) l = fullOf ss l := by simp [fullOf, hr]
      have e2 : wideOf (p :: ss) l = p.1 + wideOf ss l := by simp [wideOf, hr']
      rw [e, e1, e2, Int.add_mul]
      omega
theorem car_zero : ∀ {ss : List Srt}, Nn ss → car ss 0 = 0
  | [], _ => rfl
  | p :: ss, h => by
    have e : mn p.2 0 = 0 := by
      have := (h p List.mem_cons_self).2
      unfold mn; split <;> omega
    rw [car_cons, car_zero h.tail, e]
    simp
theorem low_spec {ss : List Srt} {c : Int} (h : Nn ss) : 0 ≤ lowOf ss c ∧ Fits ss (lowOf ss c) c ∧ ∀ p ∈ ss, Fits ss p.2 c → p.2 ≤ lowOf ss c := by
  obtain ⟨h1, h2, h3⟩ := maxI_spec ((ss.filter fun p => decide (p.2 * c ≤ car ss p.2)).map (·.2)) 0
  refine ⟨h2, ?_, fun p hp f => h3 _ (List.mem_map.mpr ⟨p, List.mem_filter.mpr ⟨hp, decide_eq_true f⟩, rfl⟩)⟩
  show Fits ss (maxI 0 _) c
  rcases h1 with e | e
  · rw [e]
    unfold Fits
    rw [car_zero h]
    simp
  · obtain ⟨p, hp, e2⟩ := List.mem_map.mp e
    rw [← e2]
    show p.2 * c ≤ car ss p.2
    exact of_decide_eq_true (List.mem_filter.mp hp).2
/-- none is above the low one, or there is a least of those above -/
theorem above (ss : List Srt) (l : Int) : (∀ p ∈ ss, p.2 ≤ l) ∨ ∃ r, l < r ∧ (∃ p ∈ ss, p.2 = r) ∧ ∀ p ∈ ss, l < p.2 → r ≤ p.2 := by
  cases e : (ss.filter fun p => decide (l < p.2)).map (·.2) with
  | nil =>
    refine .inl fun p hp => ?_
    by_cases hl : l < p.2
    · have : p.2 ∈ (ss.filter fun p => decide (l < p.2)).map (·.2) := List.mem_map.mpr ⟨p, List.mem_filter.mpr ⟨hp, decide_eq_true hl⟩, rfl⟩
      rw [e] at this
      cases this
    · omega
  | cons x xs =>
    obtain ⟨h1, h2, h3⟩ := minI_spec xs x
    have hin : minI x xs ∈ (ss.filter fun p => decide (l < p.2)).map (·.2) := by
      rw [e]
      rcases h1 with h | h
      · rw [h]; exact List.mem_cons_self
      · exact List.mem_cons_of_mem _ h
    obtain ⟨p, hp, e2⟩ := List.mem_map.mp hin
    obtain ⟨hp1, hp2⟩ := List.mem_filter.mp hp
    refine .inr ⟨minI x xs, by rw [← e2]; exact of_decide_eq_true hp2, ⟨p, hp1, e2⟩, fun q hq hl => ?_⟩
    have : q.2 ∈ (ss.filter fun p => decide (l < p.2)).map (·.2) := List.mem_map.mpr ⟨q, List.mem_filter.mpr ⟨hq, decide_eq_true hl⟩, rfl⟩
    rw [e] at this
    rcases List.mem_cons.mp this with z | z
    · omega
    · exact h3 _ z
theorem wide_zero {ss : List Srt} {l : Int} (h : ∀ p ∈ ss, p.2 ≤ l) : wideOf ss l = 0 := by
  have : (ss.filter fun p => decide (l < p.2)) = [] := List.filter_eq_nil_iff.mpr fun p hp => by
    have := h p hp
    simp; omega
  unfold wideOf
  rw [this]
  rfl
theorem wide_lt {ss : List Srt} {c : Int} (h : Nn ss) (hc : 1 ≤ c) : wideOf ss (lowOf ss c) < c := by
  obtain ⟨h1, h2, h3⟩ := low_spec (c := c) h
  rcases above ss (lowOf ss c) with ha | ⟨r, hr, ⟨p, hp, hpr⟩, hl⟩
  · rw [wide_zero ha]; omega
  · by_cases hw : wideOf ss (lowOf ss c) < c
    · exact hw
    · exfalso
      have e1 := car_split (Int.le_refl (lowOf ss c)) (ss := ss) fun p _ hp => by omega
      have e2 := car_split (Int.le_of_lt hr) hl
      have f : Fits ss p.2 c := by
        unfold Fits at h2 ⊢
        rw [hpr, e2]
        rw [e1] at h2
        have a : c * (r - lowOf ss c) ≤ wideOf ss (lowOf ss c) * (r - lowOf ss c) := Int.mul_le_mul_of_nonneg_right (by omega) (by omega)
        rw [Int.mul_sub, Int.mul_sub] at a
        have b : r * c = c * r := Int.mul_comm ..
        have d : lowOf ss c * c = c * lowOf ss c := Int.mul_comm ..
        omega
      have := h3 p hp f
      omega
theorem most_fit {ss : List Srt} {c : Int} (h : Nn ss) (hc : 1 ≤ c) : Most ss c (mostFit ss c) := by
  obtain ⟨h1, h2, h3⟩ := low_spec (c := c) h
  have hw := wide_lt h hc
  have e1 := car_split (Int.le_refl (lowOf ss c)) (ss := ss) fun p _ hp => by omega
  have hk : 0 < c - wideOf ss (lowOf ss c) := by omega
  have d1 : mostFit ss c * (c - wideOf ss (lowOf ss c)) ≤ fullOf ss (lowOf ss c) := Int.ediv_mul_le _ (by omega)
  have d2 : fullOf ss (lowOf ss c) < (mostFit ss c + 1) * (c - wideOf ss (lowOf ss c)) := Int.lt_ediv_add_one_mul_self _ hk
  have hql : lowOf ss c ≤ mostFit ss c := by
    refine (Int.le_ediv_iff_mul_le hk).mpr ?_
    unfold Fits at h2
    rw [e1] at h2
    rw [Int.mul_sub]
    have : lowOf ss c * wideOf ss (lowOf ss c) = wideOf ss (lowOf ss c) * lowOf ss c := Int.mul_comm ..
    omega
  have hup : ∀ p ∈ ss, lowOf ss c < p.2 → mostFit ss c + 1 ≤ p.2 := by
    rcases above ss (lowOf ss c) with ha | ⟨r, hr, ⟨p, hp, hpr⟩, hl⟩
    · intro p hp hlt
      have := ha p hp
      omega
    · intro q hq hlt
      have hrq := hl q hq hlt
      have e2 := car_split (Int.le_of_lt hr) hl
      have nf : ¬ Fits ss r c := fun f => by
        have := h3 p hp (hpr ▸ f)
        omega
      unfold Fits at nf
      rw [e2] at nf
      have lt : fullOf ss (lowOf ss c) < r * (c - wideOf ss (lowOf ss c)) := by
        rw [Int.mul_sub]
        have : r * wideOf ss (lowOf ss c) = wideOf ss (lowOf ss c) * r := Int.mul_comm ..
        omega
      have := Int.ediv_lt_of_lt_mul hk lt
      have : mostFit ss c < r := this
      omega
  refine ⟨by omega, ?_, ?_⟩
  · unfold Fits
    rw [car_split hql fun p hp hlt => by have := hup p hp hlt; omega]
    rw [Int.mul_sub] at d1
    have : mostFit ss c * wideOf ss (lowOf ss c) = wideOf ss (lowOf ss c) * mostFit ss c := Int.mul_comm ..
    omega
  · unfold Fits
    rw [car_split (by omega : lowOf ss c ≤ mostFit ss c + 1) hup]
    rw [Int.mul_sub] at d2
    have : (mostFit ss c + 1) * wideOf ss (lowOf ss c) = wideOf ss (lowOf ss c) * (mostFit ss c + 1) := Int.mul_comm ..
    omega
end K81
namespace K81
open PySem PySem.Spec L2 EL
/-! ### the pot -/
def Pot (cs : Cells) (n : Nat) : Prop := ∃ a b : Int, cs[n]? = some (.lst [.int a, .int b]) ∧ 0 ≤ a ∧ 0 ≤ b ∧ b < 2147483587
theorem pot_lt {cs : Cells} {n : Nat} {x : D} (h : cs[n]? = some x) : n < cs.length := (List.getElem?_eq_some_iff.mp h).1
theorem mf2 {i j : Int} (h1 : 0 ≤ i) (h2 : i < 2 ^ 64) (h3 : 0 ≤ j) (h4 : j < 2 ^ 64) : mulFit i j = true := by
  have a : i.natAbs.log2 < 64 := PySem.Flt.log2_lt_of (by decide) (by omega)
  have b : j.natAbs.log2 < 64 := PySem.Flt.log2_lt_of (by decide) (by omega)
  unfold mulFit
  exact decide_eq_true (by omega)
theorem r_draw {cs : Cells} {n : Nat} {s : Int} (h : Pot cs n) (h0 : 0 < s) (h1 : s < BB) : ∃ d cs', ph__law_draw [.cell n, .int s] cs = .ok (.int d) false cs' ∧ 0 ≤ d ∧ d < s ∧ Pot cs' n := by
  obtain ⟨a, b, hc, ha, hb, hb2⟩ := h
  have hl := pot_lt hc
  have hdf := df h0 h1
  by_cases hp : 0 < a
  · refine ⟨a % s, cs.set n (.lst [.int (a / s), .int b]), ?_, Int.emod_nonneg _ (by omega), Int.emod_lt_of_pos _ h0, a / s, b, by simp [hl], Int.ediv_nonneg ha (by omega), hb, hb2⟩
    simp [ph__law_draw, m__law_draw, hc, atI, ixN, hp, hdf]
  · have m1 : mulFit b 48271 = true := mf2 hb (by omega) (by omega) (by omega)
    have hb' : 0 ≤ (b * 48271 + 12437).fmod 2147483587 := Int.fmod_nonneg_of_pos _ (by omega)
    have hb2' : (b * 48271 + 12437).fmod 2147483587 < 2147483587 := Int.fmod_lt_of_pos _ (by omega)
    have m2 : mulFit ((b * 48271 + 12437).fmod 2147483587) ((b * 48271 + 12437).fmod 2147483587) = true := mf2 hb' (by omega) hb' (by omega)
    have hs0 : s ≠ 0 := by omega
    refine ⟨(((b * 48271 + 12437).fmod 2147483587 * (b * 48271 + 12437).fmod 2147483587).fmod 2147483549 / 17).fmod s, cs.set n (.lst [.int a, .int ((b * 48271 + 12437).fmod 2147483587)]), ?_, Int.fmod_nonneg_of_pos _ h0, Int.fmod_lt_of_pos _ h0, a, _, by simp [hl], ha, hb', hb2'⟩
    have hdv : divFit 17 = true := by decide
    have hs : ∀ x, (cs.set n x)[n]? = some x := fun x => List.getElem?_set_self hl
    simp [ph__law_draw, m__law_draw, hc, hs, atI, ixN, hp, hdf, m1, m2, hs0, hdv]

theorem powfit {i j : Int} (h1 : 0 ≤ j) (h2 : j ≤ 1000000) (h3 : 0 ≤ i) (h4 : i < 2 ^ 63) : powFit i j = true := by
  unfold powFit
  exact decide_eq_true ⟨h1, h2, by omega⟩
theorem r_pot (ns : List Int) (k : Nat) (hk : k ≤ 63) (cs : Cells) : ∃ a b : Int, ph__law_pot [.lst (ns.map D.int), .int k] cs = .ok (.lst [.int a, .int b]) true cs ∧ 0 ≤ a ∧ 0 ≤ b ∧ b < 2147483587 := by
  have m1 : mulFit 43 (k : Int) = true := mf2 (by omega) (by omega) (by omega) (by omega)
  have m2 : mulFit 2 (k : Int) = true := mf2 (by omega) (by omega) (by omega) (by omega)
  have p1 : powFit 10 18 = true := by decide
  have p2 : powFit (2 * (k : Int) + 3) 3 = true := powfit (by omega) (by omega) (by omega) (by omega)
  have main : ∀ c : Int, 0 ≤ c → ∃ a b : Int, a = (if 0 < c - 10 ^ 18 then c - 10 ^ 18 else 0) ∧ b = ((c.fmod 2147483549 + 17) * (2 * (k : Int) + 3) ^ 3).fmod 2147483477 + 1 ∧ mulFit (c.fmod 2147483549 + 17) ((2 * (k : Int) + 3) ^ 3) = true ∧ 0 ≤ a ∧ 0 ≤ b ∧ b < 2147483587 := fun c hc => by
    have h1 : 0 ≤ c.fmod 2147483549 := Int.fmod_nonneg_of_pos _ (by omega)
    have h2 : c.fmod 2147483549 < 2147483549 := Int.fmod_lt_of_pos _ (by omega)
    have h3 : 0 ≤ (2 * (k : Int) + 3) ^ 3 := Int.pow_nonneg (by omega)
    have h4 : (2 * (k : Int) + 3) ^ 3 ≤ 129 ^ 3 := by
      have h5 : (2 * (k : Int) + 3) ≤ 129 := by omega
      have e : ∀ x : Int, x ^ 3 = x * x * x := fun x => by rw [Int.pow_succ, Int.pow_succ, Int.pow_succ, Int.pow_zero, Int.one_mul]
      rw [e, e]
      have h6 : (2 * (k : Int) + 3) * (2 * (k : Int) + 3) ≤ 129 * 129 := Int.mul_le_mul h5 h5 (by omega) (by omega)
      exact Int.mul_le_mul h6 h5 (by omega) (by omega)
    have h7 : 0 ≤ ((c.fmod 2147483549 + 17) * (2 * (k : Int) + 3) ^ 3).fmod 2147483477 := Int.fmod_nonneg_of_pos _ (by omega)
    have h8 : ((c.fmod 2147483549 + 17) * (2 * (k : Int) + 3) ^ 3).fmod 2147483477 < 2147483477 := Int.fmod_lt_of_pos _ (by omega)
    refine ⟨_, _, rfl, rfl, mf2 (by omega) (by omega) h3 (by omega), ?_, by omega, by omega⟩
    split <;> omega
  by_cases hlt : k < ns.length
  · have e1 : (ns.map D.int)[k]? = some (.int ns[k]) := by simp [hlt]
    have hlt' : (k : Int) < (ns.length : Int) := by omega
    obtain ⟨a, b, ha, hb, hm, h1, h2, h3⟩ := main (if ns[k] < 0 then -ns[k] else ns[k]) (by split <;> omega)
    refine ⟨a, b, ?_, h1, h2, h3⟩
    rw [ha, hb]
    simp [ph__law_pot, m__law_pot, m1, m2, p1, p2, hlt, hlt', atI, ixN, hm]
  · have hlt' : ¬ (k : Int) < (ns.length : Int) := by omega
    obtain ⟨a, b, ha, hb, hm, h1, h2, h3⟩ := main (43 * k + 9) (by omega)
    refine ⟨a, b, ?_, h1, h2, h3⟩
    rw [ha, hb]
    simp [ph__law_pot, m__law_pot, m1, m2, p1, p2, hlt', atI, ixN, hm]
end K81
namespace K81
open PySem PySem.Spec L2 EL
/-! ### putting greedily -/
def caL (L : List Int) (m : Int) : Int := (L.map fun x => mn x m).sum
theorem sum_app (a b : List Int) : (a ++ b).sum = a.sum + b.sum := by
  induction a with
  | nil => simp
  | cons x a ih => simp [ih, Int.add_assoc]
theorem sum_perm {a b : List Int} (h : a.Perm b) : a.sum = b.sum := by
  induction h with
  | nil => rfl
  | cons x _ ih => simp [ih]
  | swap x y l => simp only [List.sum_cons]; omega
  | trans _ _ h1 h2 => rw [h1, h2]
theorem caL_perm {a b : List Int} (h : a.Perm b) (m : Int) : caL a m = caL b m := sum_perm (h.map _)
theorem caL_app (a b : List Int) (m : Int) : caL (a ++ b) m = caL a m + caL b m := by simp [caL, sum_app]
theorem caL_cons (x : Int) (b : List Int) (m : Int) : caL (x :: b) m = mn x m + caL b m := by simp [caL]
theorem caL_nn {m : Int} (hm : 0 ≤ m) : ∀ {L : List Int}, (∀ x ∈ L, 0 ≤ x) → 0 ≤ caL L m
  | [], _ => by simp [caL]
  | x :: L, h => by
    have h1 := h x List.mem_cons_self
    have h2 := caL_nn (L := L) hm fun y hy => h y (List.mem_cons_of_mem _ hy)
    rw [caL_cons]
    unfold mn
    split <;> omega
theorem caL_le {m : Int} (hm : 0 ≤ m) : ∀ (L : List Int), caL L m ≤ L.length * m
  | [] => by simp [caL]
  | x :: L => by
    have h2 := caL_le hm L
    rw [caL_cons, List.length_cons]
    have : mn x m ≤ m := by unfold mn; split <;> omega
    have e : ((L.length + 1 : Nat) : Int) * m = L.length * m + m := by rw [Int.natCast_add, Int.add_mul]; simp
    omega
theorem caL_zero {m : Int} (hm : 0 ≤ m) : ∀ {L : List Int}, (∀ x ∈ L, x = 0) → caL L m = 0
  | [], _ => rfl
  | x :: L, h => by
    have h1 := h x List.mem_cons_self
    have h2 := caL_zero (L := L) hm fun y hy => h y (List.mem_cons_of_mem _ hy)
    rw [caL_cons, h2, h1]
    unfold mn
    split <;> omega
theorem caL_all {m : Int} : ∀ {L : List Int}, (∀ x ∈ L, m ≤ x) → caL L m = L.length * m
  | [], _ => by simp [caL]
  | x :: L, h => by
    have h1 := h x List.mem_cons_self
    have h2 := caL_all (L := L) fun y hy => h y (List.mem_cons_of_mem _ hy)
    rw [caL_cons, h2, List.length_cons]
    have : mn x m = m := by unfold mn; split <;> omega
    have e : ((L.length + 1 : Nat) : Int) * m = L.length * m + m := by rw [Int.natCast_add, Int.add_mul]; simp
    omega
theorem caL_dec {m : Int} : ∀ (L : List Int), caL (L.map (· - 1)) m = caL L (m + 1) - L.length
  | [] => by simp [caL]
  | x :: L => by
    rw [List.map_cons, caL_cons, caL_cons, caL_dec L, List.length_cons]
    have : mn (x - 1) m = mn x (m + 1) - 1 := by unfold mn; split <;> split <;> omega
    omega
theorem caL_same {m : Int} : ∀ {L : List Int}, (∀ x ∈ L, x ≤ m) → caL L m = caL L (m + 1)
  | [], _ => by simp [caL]
  | x :: L, h => by
    have h1 := h x List.mem_cons_self
    have h2 := caL_same (L := L) fun y hy => h y (List.mem_cons_of_mem _ hy)
    rw [caL_cons, caL_cons, h2]
    have : mn x m = mn x (m + 1) := by unfold mn; split <;> split <;> omega
    omega
theorem put_step {A B : List Int} {m c : Int} (hm : 0 ≤ m) (hc : (A.length : Int) = c) (hA : ∀ a ∈ A, 1 ≤ a) (hB : ∀ b ∈ B, 0 ≤ b) (hs : ∀ a ∈ A, ∀ b ∈ B, b ≤ a) :
    m * c ≤ caL (A.map (· - 1) ++ B) m ↔ (m + 1) * c ≤ caL (A ++ B) (m + 1) := by
  rw [caL_app, caL_app, caL_dec, hc, Int.add_mul, Int.one_mul]
  by_cases h : ∀ b ∈ B, b ≤ m
  · rw [caL_same h]
    omega
  · obtain ⟨b, hb, hb2⟩ : ∃ b ∈ B, m < b := by
      by_cases h2 : ∃ b ∈ B, m < b
      · exact h2
      · exact absurd (fun b hb => by
          by_cases h3 : b ≤ m
          · exact h3
          · exact absurd ⟨b, hb, by omega⟩ h2) h
    have e : caL A (m + 1) = A.length * (m + 1) := caL_all fun a ha => by
      have := hs a ha b hb
      omega
    have n1 := caL_nn hm hB
    have n2 := caL_nn (m := m + 1) (by omega) hB
    rw [e, hc, Int.mul_add, Int.mul_one, Int.mul_comm c m]
    omega
def putL (c : Nat) : Nat → List Int → Bool
  | 0, _ => true
  | m + 1, L => if (sortI L).reverse.length < c ∨ (sortI L).reverse[c - 1]? = some 0 then false else putL c m (((sortI L).reverse.take c).map (· - 1) ++ (sortI L).reverse.drop c)
theorem desc (L : List Int) : (sortI L).reverse.Pairwise (fun a b => b ≤ a) := List.pairwise_reverse.mpr (sortI_pw L)
theorem putL_spec {c : Nat} (hc : 1 ≤ c) : ∀ (m : Nat) (L : List Int), (∀ x ∈ L, 0 ≤ x) → (putL c m L = true ↔ (m : Int) * c ≤ caL L m)
  | 0, L, h => by
    have := caL_nn (m := 0) (by omega) h
    simp [putL, this]
  | m + 1, L, h => by
    have hM := desc L
    have hp : (sortI L).reverse.Perm L := (List.reverse_perm _).trans (sortI_perm L)
    have hn : ∀ x ∈ (sortI L).reverse, 0 ≤ x := fun x hx => h x (hp.mem_iff.mp hx)
    rw [← caL_perm hp]
    unfold putL
    generalize (sortI L).reverse = M at *
    have hsp : M.take c ++ M.drop c = M := List.take_append_drop c M
    by_cases hf : M.length < c ∨ M[c - 1]? = some 0
    · rw [if_pos hf]
      have hlt : caL M ((m + 1 : Nat) : Int) < ((m + 1 : Nat) : Int) * c := by
        rcases hf with hf | hf
        · have h1 := caL_le (m := ((m + 1 : Nat) : Int)) (by omega) M
          have h2 : (M.length : Int) * ((m + 1 : Nat) : Int) ≤ ((c : Int) - 1) * ((m + 1 : Nat) : Int) := Int.mul_le_mul_of_nonneg_right (by omega) (by omega)
          rw [Int.sub_mul, Int.one_mul, Int.mul_comm] at h2
          rw [Int.mul_comm ((m + 1 : Nat) : Int) (c : Int)]
          rw [Int.mul_comm] at h1
          omega
        · have hz : ∀ x ∈ M.drop (c - 1), x = 0 := fun x hx => by
            have hl : c - 1 < M.length := (List.getElem?_eq_some_iff.mp hf).1
            have hd : M.drop (c - 1) = 0 :: M.drop c := by
              rw [List.drop_eq_getElem_cons hl, (List.getElem?_eq_some_iff.mp hf).2]
              congr 2
              omega
            rw [hd] at hx
            have hpw := hM.drop (i := c - 1)
            rw [hd, List.pairwise_cons] at hpw
            rcases List.mem_cons.mp hx with rfl | hx
            · rfl
            · have h1 := hpw.1 x hx
              have h2 := hn x (List.mem_of_mem_drop hx)
              omega
          have e : M = M.take (c - 1) ++ M.drop (c - 1) := (List.take_append_drop _ _).symm
          rw [e, caL_app, caL_zero (by omega) hz]
          have h1 := caL_le (m := ((m + 1 : Nat) : Int)) (by omega) (M.take (c - 1))
          have hl2 : ((M.take (c - 1)).length : Int) ≤ (c : Int) - 1 := by
            rw [List.length_take]
            omega
          have h2 : ((M.take (c - 1)).length : Int) * ((m + 1 : Nat) : Int) ≤ ((c : Int) - 1) * ((m + 1 : Nat) : Int) := Int.mul_le_mul_of_nonneg_right hl2 (by omega)
          rw [Int.sub_mul, Int.one_mul] at h2
          rw [Int.mul_comm ((m + 1 : Nat) : Int) (c : Int)]
          omega
      constructor
      · intro z; cases z
      · intro z; omega
    · rw [if_neg hf]
      have hf1 : c ≤ M.length := by
        have := not_or.mp hf
        omega
      have hl : c - 1 < M.length := by omega
      have hx : M[c - 1]? = some M[c - 1] := List.getElem?_eq_getElem hl
      have hpos : 1 ≤ M[c - 1] := by
        have h1 := hn M[c - 1] (List.getElem_mem hl)
        have h2 : M[c - 1] ≠ 0 := fun z => hf (.inr (by rw [hx, z]))
        omega
      have htl : (M.take c).length = c := by rw [List.length_take]; omega
      have hs : ∀ a ∈ M.take c, ∀ b ∈ M.drop c, b ≤ a := by
        have := hM
        rw [← hsp, List.pairwise_append] at this
        exact fun a ha b hb => this.2.2 a ha b hb
      have hA : ∀ a ∈ M.take c, 1 ≤ a := fun a ha => by
        obtain ⟨i, hi, e⟩ := List.getElem_of_mem ha
        rw [List.getElem_take] at e
        have hi2 : i < c := by rw [htl] at hi; exact hi
        by_cases hic : i = c - 1
        · subst hic
          rw [← e]; exact hpos
        · have := List.pairwise_iff_getElem.mp hM i (c - 1) (by omega) hl (by omega)
          omega
      have st := put_step (m := (m : Int)) (c := (c : Int)) (by omega) (by rw [htl]) hA (fun b hb => hn b (List.mem_of_mem_drop hb)) hs
      rw [putL_spec hc m _ fun x hx => by
        rcases List.mem_append.mp hx with hx | hx
        · obtain ⟨y, hy, rfl⟩ := List.mem_map.mp hx
          have := hA y hy
          omega
        · exact hn x (List.mem_of_mem_drop hx), st, hsp]
      rfl
end K81
namespace K81
open PySem PySem.Spec L2 EL
def expand (ss : List Srt) : List Int := ss.flatMap fun p => List.replicate p.1.toNat p.2
/-- few hosts -/
def Fw (ss : List Srt) : Prop := ∀ p ∈ ss, 0 ≤ p.1 ∧ p.1 ≤ 20 ∧ 0 ≤ p.2 ∧ p.2 ≤ 100
theorem expand_cons (p : Srt) (ss : List Srt) : expand (p :: ss) = List.replicate p.1.toNat p.2 ++ expand ss := rfl
theorem expand_len : ∀ {ss : List Srt}, Fw ss → (expand ss).length ≤ 20 * ss.length
  | [], _ => by simp [expand]
  | p :: ss, h => by
    have h1 := h p List.mem_cons_self
    have h2 := expand_len (ss := ss) fun q hq => h q (List.mem_cons_of_mem _ hq)
    rw [expand_cons, List.length_append, List.length_replicate, List.length_cons]
    omega
theorem caL_rep (x m : Int) : ∀ n : Nat, caL (List.replicate n x) m = n * mn x m
  | 0 => by simp [caL]
  | n + 1 => by
    rw [List.replicate_succ, caL_cons, caL_rep x m n, Int.natCast_add, Int.add_mul]
    simp
    omega
theorem caL_expand {m : Int} : ∀ {ss : List Srt}, Fw ss → caL (expand ss) m = car ss m
  | [], _ => rfl
  | p :: ss, h => by
    have h1 := h p List.mem_cons_self
    have h2 := caL_expand (ss := ss) (m := m) fun q hq => h q (List.mem_cons_of_mem _ hq)
    rw [expand_cons, caL_app, caL_rep, h2, car_cons]
    congr 2
    omega
theorem expand_nn {ss : List Srt} (h : Fw ss) : ∀ x ∈ expand ss, 0 ≤ x := fun x hx => by
  obtain ⟨p, hp, hx⟩ := List.mem_flatMap.mp hx
  have := (List.mem_replicate.mp hx).2
  have := h p hp
  omega
abbrev body1 : M Fl := (mSeq (mSet 3 (mOp2 (dr2 opAdd) (mPeek 3) (mZ (mOp2 (dr2 opMul) (mZ (mLst (mCons (mVar 6) (M.pure [])))) (mPeek 5)))))
    (M.pure .nx))
theorem rep_flat (n : Nat) (x : D) : (List.replicate n [x]).flatten = List.replicate n x := by
  induction n with
  | zero => rfl
  | succ n ih => rw [List.replicate_succ, List.flatten_cons, ih]; rfl
theorem put_one {d x y : D} {acc : List Int} {p : Srt} {e4 e5 e6 : Slot} (cs : Cells) (hp : 0 ≤ p.1 ∧ p.1 ≤ 20) (hl : acc.length + 20 ≤ 1000) :
    M.bind (mTg (.tup [(.name 5), (.name 6)]) (pr p)) (fun _ => body1) [.fz d, .fz x, .fz y, .ow (.lst (acc.map .int)), e4, e5, e6] cs = .ok .nx [.fz d, .fz x, .fz y, .ow (.lst ((acc ++ List.replicate p.1.toNat p.2).map .int)), e4, .fz (.int p.1), .fz (.int p.2)] cs := by
  have h1 : -1000000 ≤ p.1 ∧ p.1 ≤ 1000000 ∧ p.1.toNat ≤ sizeLine := by
    have e : sizeLine = 16777216 := rfl
    omega
  have h2 : acc.length + p.1.toNat ≤ sizeLine := by
    have e : sizeLine = 16777216 := rfl
    omega
  simp [pr, h1, rep_flat, h2]
theorem put_rows {d x y : D} {e4 : Slot} (cs : Cells) : ∀ (ss : List Srt) (acc : List Int) (e5 e6 : Slot), Fw ss → acc.length + 20 * ss.length ≤ 900 → ∃ e5' e6', forM (fun z => (mTg (.tup [(.name 5), (.name 6)]) z).bind fun _ => body1) (ss.map pr) [.fz d, .fz x, .fz y, .ow (.lst (acc.map .int)), e4, e5, e6] cs =
    .ok .nx [.fz d, .fz x, .fz y, .ow (.lst ((acc ++ expand ss).map .int)), e4, e5', e6'] cs
  | [], acc, e5, e6, _, _ => ⟨e5, e6, by rw [show acc ++ expand [] = acc by simp [expand]]; rfl⟩
  | p :: ss, acc, e5, e6, h, hl => by
    have h1 := h p List.mem_cons_self
    rw [List.length_cons] at hl
    have := put_one (d := d) (x := x) (y := y) (acc := acc) (e4 := e4) (e5 := e5) (e6 := e6) cs ⟨h1.1, h1.2.1⟩ (by omega)
    obtain ⟨e5', e6', ih⟩ := put_rows (d := d) (x := x) (y := y) (e4 := e4) cs ss (acc ++ List.replicate p.1.toNat p.2) (.fz (.int p.1)) (.fz (.int p.2)) (fun q hq => h q (List.mem_cons_of_mem _ hq)) (by rw [List.length_append, List.length_replicate]; omega)
    refine ⟨e5', e6', ?_⟩
    show M.bind (M.bind (mTg _ (pr p)) fun _ => body1) _ _ cs = _
    rw [ap_bind, this]
    simp only []
    rw [ih, expand_cons, List.append_assoc]
abbrev body2 : M Fl := (mSeq (mSet 3 (mOp1 fRev (mZ (mOpN (drN (orN fSort fSortD)) (mCons (mPeek 3) (M.pure []))))))
    (mSeq (mIf (mOr (mBl (mOp2 (dr2 opLt) (mZ (mOpN (drN (orN fLen fLenD)) (mCons (mPeek 3) (M.pure [])))) (mPeek 2))) (mBl (mOp2 (dr2 opEq) (mZ (mOp2 (dr2 opItem) (mPeek 3) (mZ (mOp2 (dr2 opSub) (mPeek 2) (M.pure (.int 1)))))) (M.pure (.int 0))))) (mSeq (mRet (mE (M.pure (.bl false))))
    (M.pure .nx)) (M.pure .nx))
    (mSeq (mSet 3 (mOp2 (dr2 opAdd) (mZ (mComp (mItems (mZ (mSlice (mPeek 3) (M.pure none) (mPart (mPeek 2))))) [6] (.name 6) (M.pure true) (mZ (mOp2 (dr2 opSub) (mPeek 6) (M.pure (.int 1)))))) (mZ (mSlice (mPeek 3) (mPart (mPeek 2)) (M.pure none)))))
    (M.pure .nx))))
theorem sortI_len (L : List Int) : (sortI L).length = L.length := List.length_mergeSort _
set_option maxHeartbeats 0 in
theorem put_turn {d x z : D} {L : List Int} {c : Nat} {e4 e5 e6 : Slot} (cs : Cells) (hc : 1 ≤ c) (hl : L.length ≤ 900) : ∃ s3 s6,
    M.bind (mTg (.name 4) z) (fun _ => body2) [.fz d, .fz x, .fz (.int c), .ow (.lst (L.map .int)), e4, e5, e6] cs =
      .ok (if (sortI L).reverse.length < c ∨ (sortI L).reverse[c - 1]? = some 0 then .rt (.bl false) false else .nx) [.fz d, .fz x, .fz (.int c), s3, .fz z, e5, s6] cs ∧
      (¬ ((sortI L).reverse.length < c ∨ (sortI L).reverse[c - 1]? = some 0) → s3 = .ow (.lst ((((sortI L).reverse.take c).map (· - 1) ++ (sortI L).reverse.drop c).map .int))) := by
  have e0 : sizeLine = 16777216 := rfl
  have hs := fSort_int (L := L) (by omega)
  have hs2 := orN_l (f' := fSortD) hs
  have hQL : (sortI L).reverse.length = L.length := by rw [List.length_reverse, sortI_len]
  have hrev : ((sortI L).map D.int).reverse = (sortI L).reverse.map D.int := List.map_reverse.symm
  generalize hM : (sortI L).reverse = Qs at *
  have hat : c - 1 < Qs.length → atI (Qs.map D.int) ((c : Int) - 1) = (Qs[c - 1]?).map D.int := fun h => by
    unfold L2.atI ixN
    have a1 : 0 ≤ (c : Int) - 1 := by omega
    have a2 : (c : Int) - 1 < ((Qs.map D.int).length : Int) := by rw [List.length_map]; omega
    have a3 : ((c : Int) - 1).toNat = c - 1 := by omega
    rw [if_pos a1, if_pos a2, a3]
    exact List.getElem?_map
  by_cases h1 : Qs.length < c
  · have h1' : (Qs.length : Int) < (c : Int) := by omega
    refine ⟨.ow (.lst (Qs.map .int)), e6, ?_, fun h => absurd (.inl h1) h⟩
    rw [if_pos (.inl h1)]
    simp [-orN, hs2, hrev, h1', orN_l, fLen]
  · have h1' : ¬ (Qs.length : Int) < (c : Int) := by omega
    have hlt : c - 1 < Qs.length := by omega
    have hget : Qs[c - 1]? = some Qs[c - 1] := List.getElem?_eq_getElem hlt
    have hat := hat hlt
    by_cases h2 : Qs[c - 1]? = some 0
    · rw [h2] at hat
      refine ⟨.ow (.lst (Qs.map .int)), e6, ?_, fun h => absurd (.inr h2) h⟩
      rw [if_pos (.inr h2)]
      simp [-orN, hs2, hrev, h1', orN_l, fLen, hat, eqD]
    · rw [hget] at hat h2
      have h2' : ¬ Qs[c - 1] = 0 := fun z => h2 (by rw [z])
      have hcl : c ≤ (Qs.map D.int).length := by rw [List.length_map]; omega
      have hlen : ((Qs.take c).map fun x => D.int (x - 1)).length + ((Qs.drop c).map D.int).length ≤ sizeLine := by
        simp only [List.length_map, List.length_take, List.length_drop]
        omega
      have key : compM (turnM [6] (.name 6) (M.pure true) (mZ (mOp2 (dr2 opSub) (mPeek 6) (M.pure (.int 1))))) ((Qs.take c).map .int) [.fz d, .fz x, .fz (.int c), .ow (.lst (Qs.map .int)), .fz z, e5, .no] cs = .ok ((Qs.take c).map fun x => D.int (x - 1)) [.fz d, .fz x, .fz (.int c), .ow (.lst (Qs.map .int)), .fz z, e5, .no] cs :=
        compM_map _ fun y hy => by simp
      refine ⟨_, fzOf (some e6), ?_, fun _ => rfl⟩
      rw [if_neg (by rw [hget]; exact fun z => z.elim h1 h2)]
      have c1 : cutD (Qs.map D.int) none (some (c : Int)) = (Qs.map D.int).take c := cut_take hcl
      have c2 : cutD (Qs.map D.int) (some (c : Int)) none = (Qs.map D.int).drop c := cut_drop hcl
      have hlen2 : min c Qs.length + (Qs.length - c) ≤ sizeLine := by
        simp only [List.length_map, List.length_take, List.length_drop] at hlen
        exact hlen
      rw [List.map_take, List.map_take] at key
      rcases e6 with _ | d6 | d6 <;> simp [-orN, hs2, hrev, h1', orN_l, fLen, hat, eqD, h2', c1, c2, key, hlen2, Function.comp_def]
theorem put_all {d x : D} {c : Nat} (cs : Cells) (hc : 1 ≤ c) : ∀ (m : Nat) (zs : List D) (L : List Int) (e4 e5 e6 : Slot), zs.length = m → L.length ≤ 900 → ∃ env',
    EL.forM (fun z => (mTg (.name 4) z).bind fun _ => body2) zs [.fz d, .fz x, .fz (.int c), .ow (.lst (L.map .int)), e4, e5, e6] cs = .ok (if putL c m L then .nx else .rt (.bl false) false) env' cs
  | 0, [], L, e4, e5, e6, _, _ => ⟨_, rfl⟩
  | m + 1, z :: zs, L, e4, e5, e6, hz, hl => by
    obtain ⟨s3, s6, h1, h2⟩ := put_turn (d := d) (x := x) (z := z) (L := L) (c := c) (e4 := e4) (e5 := e5) (e6 := e6) cs hc hl
    by_cases hf : (sortI L).reverse.length < c ∨ (sortI L).reverse[c - 1]? = some 0
    · rw [if_pos hf] at h1
      refine ⟨[.fz d, .fz x, .fz (.int c), s3, .fz z, e5, s6], ?_⟩
      show M.bind (M.bind (mTg _ z) fun _ => body2) _ _ cs = _
      rw [ap_bind, h1]
      unfold putL
      rw [if_pos hf]
      rfl
    · have h2 := h2 hf
      subst h2
      rw [if_neg hf] at h1
      obtain ⟨env', ih⟩ := put_all (d := d) (x := x) (c := c) cs hc m zs (((sortI L).reverse.take c).map (· - 1) ++ (sortI L).reverse.drop c) (.fz z) e5 s6 (by simpa using hz) (by
        have e := sortI_len L
        simp only [List.length_append, List.length_map, List.length_take, List.length_drop, List.length_reverse]
        omega)
      refine ⟨env', ?_⟩
      show M.bind (M.bind (mTg _ z) fun _ => body2) _ _ cs = _
      rw [ap_bind, h1]
      simp only []
      unfold putL
      rw [if_neg hf]
      exact ih
theorem r_put {ss : List Srt} {m c : Nat} (cs : Cells) (h : Fw ss) (hl : ss.length ≤ 3) (hc : 1 ≤ c) (hm : m ≤ 1000) : ph__law_put [.lst (ss.map pr), .int m, .int c] cs = .ok (.bl (decide ((m : Int) * c ≤ car ss m))) false cs := by
  obtain ⟨e5, e6, h1⟩ := put_rows (d := .lst (ss.map pr)) (x := .int m) (y := .int c) (e4 := .no) cs ss [] .no .no h (by simp; omega)
  have hel := expand_len h
  have hr : (m : Int) ≤ 1000000 := by omega
  obtain ⟨env', h2⟩ := put_all (d := .lst (ss.map pr)) (x := .int m) (c := c) cs hc m (rangeD 0 m) (expand ss) .no e5 e6 (by simp [rangeD]) (by omega)
  have hb : putL c m (expand ss) = decide ((m : Int) * c ≤ car ss m) := by
    rw [Bool.eq_iff_iff, putL_spec hc m _ (expand_nn h), caL_expand h]
    simp
  rw [hb] at h2
  have hm0 : (-1000000 : Int) ≤ m := by omega
  simp only [List.nil_append, List.map_nil] at h1
  by_cases hd : (m : Int) * c ≤ car ss m
  · simp only [hd, decide_true, if_true] at h2 ⊢
    simp [ph__law_put, m__law_put, h1, hm0, hr, h2]
  · simp only [hd, decide_false] at h2 ⊢
    rw [if_neg (by decide)] at h2
    simp [ph__law_put, m__law_put, h1, hm0, hr, h2]
end K81
namespace K81
open PySem PySem.Spec L2 EL
/-! ### houses without groups -/
abbrev Hs := List (Str × Int)
def hRow (p : Str × Int) : Key × D := (.inr p.1, .tup [.int p.2, .non])
def tRow (p : Str × Int) : Key × D := (.inr p.1, .int p.2)
structure Good (hs : Hs) : Prop where
  nm : ∀ p ∈ hs, ∀ cs, ph_is_name [.str p.1] cs = .ok (.bl true) false cs
  nd : (hs.map (·.1)).Nodup
  so : sortS (hs.map (·.1)) = hs.map (·.1)
  few : hs.length ≤ 8
theorem Good.key {hs : Hs} (h : Good hs) : (hs.map fun p => (Sum.inr p.1 : Key)).Nodup := by
  have := h.nd
  rw [List.nodup_iff_pairwise_ne, List.pairwise_map] at this ⊢
  exact this.imp fun hne e => hne (Sum.inr.inj e)
theorem e0 : sizeLine = 16777216 := rfl
theorem r_host_row {r : Int} (cs : Cells) (h : 0 ≤ r) : ph_is_host_row [.tup [.int r, .non]] cs = .ok (.bl true) false cs := by
  simp [ph_is_host_row, m_is_host_row, r_is_count, h, eqD, atI, ixN]
theorem r_want_hosts {hs : Hs} (cs : Cells) (G : Good hs) (h0 : hs ≠ []) (hr : ∀ p ∈ hs, 0 ≤ p.2) : ph_want_hosts [.dct (hs.map hRow)] cs = .ok .non false cs := by
  have key : compM (turnM [1, 2] (.tup [(.name 1), (.name 2)]) (M.pure true) (mZ (mAndV (mZ (mCall ph_is_name [.p 0] (mCons (mVar 1) (M.pure [])) (M.pure []))) (mCall ph_is_host_row [.p 0] (mCons (mVar 2) (M.pure [])) (M.pure [])))))
      (hs.map fun p => D.tup [.str p.1, .tup [.int p.2, .non]]) [.fz (.dct (hs.map hRow)), .no, .no] cs = .ok (hs.map fun _ => D.bl true) [.fz (.dct (hs.map hRow)), .no, .no] cs :=
    compM_map hs fun p hp => by simp [hRow, G.nm p hp, r_host_row cs (hr p hp)]
  have hb := blsD_map (fun _ : Str × Int => true) hs
  have hl : hs.length ≤ sizeLine := by have := G.few; have := e0; omega
  simp [ph_want_hosts, m_want_hosts, eqD, hl, hRow, Function.comp_def, key, hb, h0]
theorem r_is_copies {i : Int} (cs : Cells) (h : 1 ≤ i) (h' : i ≤ 4) : ph_is_copies [.int i] cs = .ok (.bl true) false cs := by
  simp [ph_is_copies, m_is_copies, r_is_integer, h, h']
theorem r_want_things {ts : Hs} (cs : Cells) (G : Good ts) (hr : ∀ p ∈ ts, 1 ≤ p.2 ∧ p.2 ≤ 4) : ph_want_things [.dct (ts.map tRow)] cs = .ok .non false cs := by
  have key : compM (turnM [1, 2] (.tup [(.name 1), (.name 2)]) (M.pure true) (mZ (mAndV (mZ (mCall ph_is_name [.p 0] (mCons (mVar 1) (M.pure [])) (M.pure []))) (mCall ph_is_copies [.p 0] (mCons (mVar 2) (M.pure [])) (M.pure [])))))
      (ts.map fun p => D.tup [.str p.1, .int p.2]) [.fz (.dct (ts.map tRow)), .no, .no] cs = .ok (ts.map fun _ => D.bl true) [.fz (.dct (ts.map tRow)), .no, .no] cs :=
    compM_map ts fun p hp => by simp [tRow, G.nm p hp, r_is_copies cs (hr p hp).1 (hr p hp).2]
  have hb := blsD_map (fun _ : Str × Int => true) ts
  have hl : ts.length ≤ sizeLine := by have := G.few; have := e0; omega
  simp [ph_want_things, m_want_things, hl, tRow, Function.comp_def, key, hb]
theorem r_want_limit {i j : Int} {x : D} (cs : Cells) (h : i ≤ j) : ph_want_limit [.int i, x, .int j] cs = .ok .non false cs := by
  have : ¬ j < i := by omega
  simp [ph_want_limit, m_want_limit, this]
theorem r_greatest {hs : Hs} {b : Int} (cs : Cells) (h0 : hs ≠ []) (hl : hs.length ≤ 8) (hr : ∀ p ∈ hs, p.2 ≤ b) : ∃ i, ph_greatest_rooms [.dct (hs.map hRow)] cs = .ok (.int i) false cs ∧ i ≤ b := by
  have key : compM (turnM [1] (.name 1) (M.pure true) (mZ (mOp2 (dr2 opItem) (mPeek 1) (M.pure (.int 0))))) (hs.map fun p => D.tup [.int p.2, .non]) [.fz (.dct (hs.map hRow)), .no] cs = .ok (hs.map fun p => D.int p.2) [.fz (.dct (hs.map hRow)), .no] cs :=
    compM_map hs fun p hp => by simp [hRow, atI, ixN]
  have hi := intsD_map (fun p : Str × Int => p.2) hs
  have hl2 : hs.length ≤ sizeLine := by have := e0; omega
  obtain ⟨p, r, rfl⟩ := List.exists_cons_of_ne_nil h0
  obtain ⟨m1, m2, m3⟩ := maxI_spec (r.map (·.2)) p.2
  refine ⟨maxI p.2 (r.map (·.2)), ?_, ?_⟩
  · simp only [List.map_cons, hRow] at key hi
    simp only [List.length_cons] at hl2
    simp [ph_greatest_rooms, m_greatest_rooms, hl2, hRow, Function.comp_def, key, hi]
  · rcases m1 with e | e
    · rw [e]; exact hr p List.mem_cons_self
    · obtain ⟨q, hq, e⟩ := List.mem_map.mp e
      rw [← e]
      exact hr q (List.mem_cons_of_mem _ hq)
/-- a dict's items by name -/
theorem r_in_order {hs : Hs} {f : Str × Int → D} (cs : Cells) (G : Good hs) : ph_in_order [.dct (hs.map fun p => (.inr p.1, f p))] cs = .ok (.dct (hs.map fun p => (.inr p.1, f p))) true cs := by
  have hs1 := fSortD_str (f := fun p : Str × Int => p.1) (h := f) (l := hs) (by have := G.few; omega)
  rw [G.so] at hs1
  have key : compP (turnP [1] (.name 1) (M.pure true) (mVar 1) (mZ (mOp2 (dr2 opItem) (mPeek 0) (mPeek 1)))) (hs.map fun p => D.str p.1) [.fz (.dct (hs.map fun p => (.inr p.1, f p))), .no] cs = .ok (hs.map fun p => (.inr p.1, f p)) [.fz (.dct (hs.map fun p => (.inr p.1, f p))), .no] cs :=
    compP_map hs fun p hp => by
      have hv := valD_at (f := fun p : Str × Int => (Sum.inr p.1 : Key)) (g := f) G.key hp
      simp [hv]
  have hm : mergeD [] (hs.map fun p => ((.inr p.1 : Key), f p)) = hs.map fun p => (.inr p.1, f p) := by
    rw [mergeD_new]
    · rfl
    · rw [List.nil_append, List.map_map]
      exact G.key
  rw [List.map_map] at hs1
  simp only [Function.comp_def] at hs1
  simp [-orN, ph_in_order, m_in_order, hs1, key, hm]
end K81
namespace K81
open PySem PySem.Spec L2 EL
abbrev bodyC : M Fl := (mSeq (mExtend 1 (mNewL (mOp2 (dr2 opMul) (mZ (mLst (mCons (mVar 2) (M.pure [])))) (mZ (mOp2 (dr2 opItem) (mPeek 0) (mPeek 2))))))
    (M.pure .nx))
theorem copy_rows {ts : Hs} (cs : Cells) (G : Good ts) (hr : ∀ p ∈ ts, 1 ≤ p.2 ∧ p.2 ≤ 4) : ∀ (l : Hs) (acc : List D) (s2 : Slot), (∀ p ∈ l, p ∈ ts) → acc.length + 4 * l.length ≤ 100 → ∃ acc' s2', EL.forM (fun z => (mTg (.name 2) z).bind fun _ => bodyC) (l.map fun p => D.str p.1) [.fz (.dct (ts.map tRow)), .ow (.lst acc), s2] cs =
    .ok .nx [.fz (.dct (ts.map tRow)), .ow (.lst acc'), s2'] cs
  | [], acc, s2, _, _ => ⟨acc, s2, rfl⟩
  | p :: l, acc, s2, h, hl => by
    have hp := h p List.mem_cons_self
    have h1 := hr p hp
    rw [List.length_cons] at hl
    obtain ⟨acc', s2', ih⟩ := copy_rows cs G hr l (acc ++ List.replicate p.2.toNat (.str p.1)) (.fz (.str p.1)) (fun q hq => h q (List.mem_cons_of_mem _ hq)) (by rw [List.length_append, List.length_replicate]; omega)
    have hv : valD (ts.map tRow) (.inr p.1) = some (.int p.2) := valD_at (f := fun p : Str × Int => (Sum.inr p.1 : Key)) (g := fun p => D.int p.2) G.key hp
    have a1 : -1000000 ≤ p.2 ∧ p.2 ≤ 1000000 ∧ p.2.toNat ≤ sizeLine := by have := e0; omega
    have a2 : acc.length + p.2.toNat ≤ sizeLine := by have := e0; omega
    have one : M.bind (mTg (.name 2) (.str p.1)) (fun _ => bodyC) [.fz (.dct (ts.map tRow)), .ow (.lst acc), s2] cs = .ok .nx [.fz (.dct (ts.map tRow)), .ow (.lst (acc ++ List.replicate p.2.toNat (.str p.1))), .fz (.str p.1)] cs := by
      simp [hv, a1, rep_flat, a2]
    refine ⟨acc', s2', ?_⟩
    show M.bind (M.bind (mTg _ _) fun _ => bodyC) _ _ cs = _
    rw [ap_bind, one]
    exact ih
theorem r_each_copy {ts : Hs} (cs : Cells) (G : Good ts) (hr : ∀ p ∈ ts, 1 ≤ p.2 ∧ p.2 ≤ 4) : ∃ ds, ph_each_copy [.dct (ts.map tRow)] cs = .ok (.lst ds) false cs := by
  obtain ⟨acc, s2, h⟩ := copy_rows cs G hr ts [] .no (fun _ h => h) (by have := G.few; simp; omega)
  have hs1 := fSortD_str (f := fun p : Str × Int => p.1) (h := fun p => D.int p.2) (l := ts) (by have := G.few; omega)
  rw [G.so, List.map_map] at hs1
  have hs2 : orN fSort fSortD [.dct (ts.map tRow)] = some (.lst (ts.map fun p => D.str p.1), true) := hs1
  refine ⟨acc, ?_⟩
  simp [-orN, ph_each_copy, m_each_copy, hs2, h]
/-! the object -/
def hF (hs ts : Hs) (ds : List D) : List (Str × D) := [(Str.ofString "own_hosts", .dct (hs.map hRow)), (Str.ofString "own_things", .dct (ts.map tRow)), (Str.ofString "own_copies", .lst ds)]
abbrev houseD (hs ts : Hs) (ds : List D) : D := .ins 0 (hF hs ts ds)
theorem hF_h {hs ts ds} : (hF hs ts ds).lookup (Str.ofString "own_hosts") = some (.dct (hs.map hRow)) := rfl
theorem hF_t {hs ts ds} : (hF hs ts ds).lookup (Str.ofString "own_things") = some (.dct (ts.map tRow)) := rfl
theorem hF_f {hs ts ds} : (hF hs ts ds).lookup (Str.ofString "fellows") = none := rfl
theorem hF_c {hs ts ds} : (hF hs ts ds).lookup (Str.ofString "copies") = none := rfl
theorem put1 {a : D} : putFD (Str.ofString "own_hosts") a [] = [(Str.ofString "own_hosts", a)] := rfl
theorem put2 {a b : D} : putFD (Str.ofString "own_things") b [(Str.ofString "own_hosts", a)] = [(Str.ofString "own_hosts", a), (Str.ofString "own_things", b)] := rfl
theorem put3 {a b c : D} : putFD (Str.ofString "own_copies") c [(Str.ofString "own_hosts", a), (Str.ofString "own_things", b)] = [(Str.ofString "own_hosts", a), (Str.ofString "own_things", b), (Str.ofString "own_copies", c)] := rfl
structure HOk (hs ts : Hs) : Prop where
  h : Good hs
  h0 : hs ≠ []
  h7 : hs.length ≤ 7
  hr : ∀ p ∈ hs, 0 ≤ p.2 ∧ p.2 ≤ 20
  t : Good ts
  tr : ∀ p ∈ ts, 1 ≤ p.2 ∧ p.2 ≤ 4
theorem r_House {hs ts : Hs} (cs : Cells) (O : HOk hs ts) : ∃ ds, mkPhi ph_House_init [.dct (hs.map hRow), .dct (ts.map tRow), .int 20] cs = .ok (houseD hs ts ds) true cs := by
  obtain ⟨ds, h5⟩ := r_each_copy cs O.t O.tr
  refine ⟨ds, mkPhi_eq fun x => ?_⟩
  have h1 := r_want_hosts cs O.h O.h0 fun p hp => (O.hr p hp).1
  have h2 := r_want_things cs O.t O.tr
  obtain ⟨i, h3, h3'⟩ := r_greatest (b := 20) cs O.h0 O.h.few fun p hp => (O.hr p hp).2
  have h4 : ph_in_order [.dct (hs.map hRow)] cs = .ok (.dct (hs.map hRow)) true cs := r_in_order cs O.h
  have h4' : ph_in_order [.dct (ts.map tRow)] cs = .ok (.dct (ts.map tRow)) true cs := r_in_order cs O.t
  have l1 := r_want_limit (i := hs.length) (j := 7) (x := .str (Str.ofString "hosts")) cs (by have := O.h7; omega)
  have l2 := r_want_limit (i := ts.length) (j := 8) (x := .str (Str.ofString "things")) cs (by have := O.t.few; omega)
  have l3 := r_want_limit (i := i) (j := 20) (x := .str (Str.ofString "rooms")) cs h3'
  simp [ph_House_init, m_House_init, h1, h2, l1, l2, l3, h3, h4, h4', h5, put1, put2, put3, houseD, hF]
section
variable {hs ts : Hs} {ds : List D} (cs : Cells) (O : HOk hs ts)
include O
theorem hs_len : hs.length ≤ sizeLine := by have := O.h7; have := e0; omega
theorem r_rooms : ph_House_rooms [houseD hs ts ds] cs = .ok (.dct (hs.map tRow)) true cs := by
  have key : compP (turnP [1, 2] (.tup [(.name 1), (.name 2)]) (M.pure true) (mVar 1) (mZ (mOp2 (dr2 opItem) (mPeek 2) (M.pure (.int 0))))) (hs.map fun p => D.tup [.str p.1, .tup [.int p.2, .non]]) [.fz (houseD hs ts ds), .no, .no] cs = .ok (hs.map tRow) [.fz (houseD hs ts ds), .no, .no] cs :=
    compP_map hs fun p hp => by simp [atI, ixN, tRow]
  have hm : mergeD [] (hs.map tRow) = hs.map tRow := by
    rw [mergeD_new]
    · rfl
    · rw [List.nil_append, List.map_map]
      exact O.h.key
  have hl := hs_len O
  simp [ph_House_rooms, m_House_rooms, hF_h, hl, hRow, Function.comp_def, key, hm]
theorem r_hosts : ph_House_hosts [houseD hs ts ds] cs = .ok (.tup (hs.map fun p => .str p.1)) false cs := by
  have e : orN fTuple fTupD [.dct (hs.map hRow)] = some (.tup (hs.map fun p => .str p.1), false) := by
    show some (D.tup ((hs.map hRow).map fKey), false) = _
    rw [List.map_map]
    rfl
  simp [-orN, ph_House_hosts, m_House_hosts, hF_h, e]
theorem r_things : ph_House_things [houseD hs ts ds] cs = .ok (.tup (ts.map fun p => .str p.1)) false cs := by
  have e : orN fTuple fTupD [.dct (ts.map tRow)] = some (.tup (ts.map fun p => .str p.1), false) := by
    show some (D.tup ((ts.map tRow).map fKey), false) = _
    rw [List.map_map]
    rfl
  simp [-orN, ph_House_things, m_House_things, hF_t, e]
theorem r_fellows {p : Str × Int} (hp : p ∈ hs) : ph_House_fellows [houseD hs ts ds, .str p.1] cs = .ok (.lst [.str p.1]) true cs := by
  have hv : valD (hs.map hRow) (.inr p.1) = some (.tup [.int p.2, .non]) := valD_at (f := fun p : Str × Int => (Sum.inr p.1 : Key)) (g := fun p => D.tup [.int p.2, .non]) O.h.key hp
  simp [ph_House_fellows, m_House_fellows, hF_h, hv, atI, ixN]
theorem r_copies {p : Str × Int} (hp : p ∈ ts) : ph_House_copies [houseD hs ts ds, .str p.1] cs = .ok (.int p.2) false cs := by
  have hv : valD (ts.map tRow) (.inr p.1) = some (.int p.2) := valD_at (f := fun p : Str × Int => (Sum.inr p.1 : Key)) (g := fun p => D.int p.2) O.t.key hp
  have hk : ph_is_known [.str p.1, .dct (ts.map tRow)] cs = .ok (.bl true) false cs := by
    simp [ph_is_known, m_is_known, hv]
  have hw : ph_want_thing [houseD hs ts ds, .str p.1] cs = .ok .non false cs := by
    simp [ph_want_thing, m_want_thing, hF_t, hk]
  simp [ph_House_copies, m_House_copies, hw, hF_t, hv]
theorem r_groups : ∃ ns : List Str, ns.Perm (hs.map (·.1)) ∧ ph_House_groups [houseD hs ts ds] cs = .ok (.lst (ns.map fun x => .lst [.str x])) true cs := by
  have key : compM (turnM [1] (.name 1) (mBl (mOp2 (dr2 opEq) (mZ (mOp2 (dr2 opItem) (mZ (mMethF (Str.ofString "fellows") [(0, [.p 0], ph_House_fellows)] (mVar 0) (mCons (mVar 1) (M.pure [])) (M.pure []))) (M.pure (.int 0)))) (mPeek 1))) (mZ (mMethF (Str.ofString "fellows") [(0, [.p 0], ph_House_fellows)] (mVar 0) (mCons (mVar 1) (M.pure [])) (M.pure []))))
      (hs.map fun p => D.str p.1) [.fz (houseD hs ts ds), .no] cs = .ok (hs.map fun p => D.lst [.str p.1]) [.fz (houseD hs ts ds), .no] cs :=
    compM_map hs fun p hp => by
      have h1 := r_fellows (ds := ds) cs O hp
      simp [hF_f, h1, atI, ixN, eqD]
  have hh := r_hosts (ds := ds) cs O
  have e1 : (hs.map fun p => D.lst [.str p.1]) = (hs.map (·.1)).map fun x => D.lst [.str x] := by rw [List.map_map]; rfl
  have ok : okSort ((hs.map (·.1)).map fun x => D.lst [.str x]) = true := okSort_of' (k := fun x => .list [.str x]) (fun _ => rfl) (fun _ _ => rfl) (fun _ => rfl) (fun _ => by show 1 ≤ 40; omega) (by rw [List.length_map]; exact hs_len O)
  have hp := srtD_perm ((hs.map (·.1)).map fun x => D.lst [.str x])
  have hall : ∀ d ∈ srtD ((hs.map (·.1)).map fun x => D.lst [.str x]), ∃ x : Str, d = .lst [.str x] ∧ True := fun d hd => by
    obtain ⟨x, _, rfl⟩ := List.mem_map.mp (hp.mem_iff.mp hd)
    exact ⟨x, rfl, trivial⟩
  obtain ⟨ns, e2, _, _⟩ := list_of hall
  refine ⟨ns, ?_, ?_⟩
  · rw [e2] at hp
    have h3 := hp.map (fun d => match d with
      | .lst [.str x] => x
      | _ => (default : Str))
    rw [List.map_map, List.map_map] at h3
    simpa [Function.comp_def] using h3
  · have hs1 : orN fSort fSortD [.lst (hs.map fun p => D.lst [.str p.1])] = some (.lst (ns.map fun x => D.lst [.str x]), true) := by
      refine orN_l ?_
      rw [e1]
      show (if okSort ((hs.map (·.1)).map fun x => D.lst [.str x]) then some (D.lst (srtD ((hs.map (·.1)).map fun x => D.lst [.str x])), true) else none) = _
      rw [if_pos ok, e2]
    simp [-orN, ph_House_groups, m_House_groups, hh, key, hs1]
end
end K81
namespace K81
open PySem PySem.Spec L2 EL
/-! ### all sets of hosts -/
def dS (S : Hs) : D := .lst (S.map fun p => .str p.1)
def okE (S : Hs) (p : Str × Int) : Bool := match S.getLast? with
  | none => true
  | some q => strLt q.1 p.1
def nxt (hs : Hs) (lv : List Hs) : List Hs := lv.flatMap fun S => (hs.filter (okE S)).map fun p => S ++ [p]
def lvs (hs : Hs) : Nat → List Hs
  | 0 => [[]]
  | k + 1 => nxt hs (lvs hs k)
def fnd (hs : Hs) : Nat → List Hs
  | 0 => [[]]
  | k + 1 => fnd hs k ++ lvs hs (k + 1)
theorem nxt_len (hs : Hs) (h : hs.length ≤ 7) : ∀ lv : List Hs, (nxt hs lv).length ≤ 7 * lv.length
  | [] => by simp [nxt]
  | S :: lv => by
    have h1 := nxt_len hs h lv
    have h2 := List.length_filter_le (okE S) hs
    have e : nxt hs (S :: lv) = ((hs.filter (okE S)).map fun p => S ++ [p]) ++ nxt hs lv := rfl
    rw [e, List.length_append, List.length_map, List.length_cons]
    omega
theorem lvs_len (hs : Hs) (h : hs.length ≤ 7) : ∀ k, (lvs hs k).length ≤ 7 ^ k
  | 0 => by simp [lvs]
  | k + 1 => by
    have h1 := nxt_len hs h (lvs hs k)
    have h2 := lvs_len hs h k
    have e : lvs hs (k + 1) = nxt hs (lvs hs k) := rfl
    rw [e, Nat.pow_succ]
    omega
theorem fnd_len (hs : Hs) (h : hs.length ≤ 7) : ∀ k, (fnd hs k).length ≤ 2 * 7 ^ k
  | 0 => by simp [fnd]
  | k + 1 => by
    have h1 := lvs_len hs h (k + 1)
    have h2 := fnd_len hs h k
    have e : fnd hs (k + 1) = fnd hs k ++ lvs hs (k + 1) := rfl
    rw [e, List.length_append]
    rw [Nat.pow_succ] at h1 ⊢
    omega
theorem lvs_at (hs : Hs) : ∀ (k : Nat) (S : Hs), S ∈ lvs hs k → S.length = k ∧ (∀ p ∈ S, p ∈ hs) ∧ S.Pairwise (fun a b => strLt a.1 b.1 = true)
  | 0, S, h => by
    have : S = [] := by simpa [lvs] using h
    subst this
    exact ⟨rfl, fun _ h => (by cases h), .nil⟩
  | k + 1, S, h => by
    obtain ⟨T, hT, hS⟩ := List.mem_flatMap.mp h
    obtain ⟨p, hp, rfl⟩ := List.mem_map.mp hS
    obtain ⟨h1, h2, h3⟩ := lvs_at hs k T hT
    obtain ⟨p1, p2⟩ := List.mem_filter.mp hp
    refine ⟨by rw [List.length_append, h1]; rfl, fun q hq => ?_, ?_⟩
    · rcases List.mem_append.mp hq with hq | hq
      · exact h2 q hq
      · rw [List.mem_singleton.mp hq]; exact p1
    · rw [List.pairwise_append]
      refine ⟨h3, List.pairwise_singleton _ _, fun a ha b hb => ?_⟩
      rw [List.mem_singleton.mp hb]
      unfold okE at p2
      cases hl : T.getLast? with
      | none =>
        have : T = [] := List.getLast?_eq_none_iff.mp hl
        subst this
        cases ha
      | some q =>
        rw [hl] at p2
        have p2 : strLt q.1 p.1 = true := p2
        obtain ⟨U, rfl⟩ : ∃ U, T = U ++ [q] := by
          have := List.getLast?_eq_some_iff.mp hl
          exact this
        rw [List.pairwise_append] at h3
        rcases List.mem_append.mp ha with ha | ha
        · have a1 := h3.2.2 a ha q (List.mem_singleton.mpr rfl)
          have a1 := of_decide_eq_true a1
          have a2 := of_decide_eq_true p2
          exact decide_eq_true (List.lt_trans a1 a2)
        · rw [List.mem_singleton.mp ha]; exact p2
theorem lvs_all (hs : Hs) : ∀ (k : Nat) (S : Hs), S.length = k → (∀ p ∈ S, p ∈ hs) → S.Pairwise (fun a b => strLt a.1 b.1 = true) → S ∈ lvs hs k
  | 0, S, h, _, _ => by
    have : S = [] := List.length_eq_zero_iff.mp h
    subst this
    simp [lvs]
  | k + 1, S, h, hm, hp => by
    have hne : S ≠ [] := fun e => by rw [e] at h; cases h
    obtain ⟨T, p, rfl⟩ : ∃ T p, S = T ++ [p] := ⟨S.dropLast, S.getLast hne, (List.dropLast_concat_getLast hne).symm⟩
    rw [List.pairwise_append] at hp
    refine List.mem_flatMap.mpr ⟨T, lvs_all hs k T (by rw [List.length_append] at h; simpa using h) (fun q hq => hm q (List.mem_append_left _ hq)) hp.1, List.mem_map.mpr ⟨p, List.mem_filter.mpr ⟨hm p (by simp), ?_⟩, rfl⟩⟩
    unfold okE
    cases hl : T.getLast? with
    | none => rfl
    | some q => exact hp.2.2 q (List.mem_of_getLast? hl) p (by simp)
theorem fnd_at (hs : Hs) : ∀ (k : Nat) (S : Hs), S ∈ fnd hs k ↔ ∃ j, j ≤ k ∧ S ∈ lvs hs j
  | 0, S => by
    constructor
    · intro h; exact ⟨0, Nat.le_refl _, h⟩
    · rintro ⟨j, hj, h⟩
      have : j = 0 := by omega
      subst this
      exact h
  | k + 1, S => by
    have e : fnd hs (k + 1) = fnd hs k ++ lvs hs (k + 1) := rfl
    rw [e, List.mem_append, fnd_at hs k S]
    constructor
    · rintro (⟨j, hj, h⟩ | h)
      · exact ⟨j, by omega, h⟩
      · exact ⟨k + 1, Nat.le_refl _, h⟩
    · rintro ⟨j, hj, h⟩
      by_cases hk : j = k + 1
      · subst hk; exact .inr h
      · exact .inl ⟨j, by omega, h⟩
/-! the reading -/
abbrev tstS : M Bool := mOr (mBl (mOp2 (dr2 opEq) (mPeek 5) (mZ (mLst (M.pure []))))) (mBl (mOp2 (dr2 opLt) (mZ (mOp2 (dr2 opItem) (mPeek 5) (mZ (mOp1 fNeg (M.pure (.int 1)))))) (mPeek 6)))
abbrev eltS : M D := mZ (mOp2 (dr2 opAdd) (mPeek 5) (mZ (mLst (mCons (mVar 6) (M.pure [])))))
theorem ext_some {X : List D} {q p : Str} {s0 s1 s2 s3 s4 : Slot} (cs : Cells) (hat : atI X (-1) = some (.str q)) (hn : ¬ X.length = 0) (hz : X.length + 1 ≤ sizeLine) :
    turnM [6] (.name 6) tstS eltS (.str p) [s0, s1, s2, s3, s4, .fz (.lst X), .no] cs = .ok (if strLt q p then some (.lst (X ++ [.str p])) else none) [s0, s1, s2, s3, s4, .fz (.lst X), .no] cs := by
  have hX : ¬ X = [] := fun e => hn (by rw [e]; rfl)
  by_cases hlt : strLt q p = true
  · simp [eqD, hat, hlt, hz, hX]
  · simp [eqD, hat, hlt, hz, hX]
theorem ext_none {p : Str} {s0 s1 s2 s3 s4 : Slot} (cs : Cells) :
    turnM [6] (.name 6) tstS eltS (.str p) [s0, s1, s2, s3, s4, .fz (.lst []), .no] cs = .ok (some (.lst [.str p])) [s0, s1, s2, s3, s4, .fz (.lst []), .no] cs := by
  have hz1 : 1 ≤ sizeLine := by have := e0; omega
  simp [eqD, eqZ, hz1]
theorem ext_key {hs S : Hs} {s0 s1 s2 s3 s4 : Slot} (cs : Cells) (hl : S.length ≤ 100) : compM (turnM [6] (.name 6) tstS eltS) (hs.map fun p => D.str p.1) [s0, s1, s2, s3, s4, .fz (dS S), .no] cs = .ok ((hs.filter (okE S)).map fun p => dS (S ++ [p])) [s0, s1, s2, s3, s4, .fz (dS S), .no] cs :=
  compM_if hs fun p hp => by
    cases hL : S.getLast? with
    | none =>
      have : S = [] := List.getLast?_eq_none_iff.mp hL
      subst this
      exact ext_none cs
    | some q =>
      have hok : okE S p = strLt q.1 p.1 := by unfold okE; rw [hL]
      have hX : dS (S ++ [p]) = .lst ((S.map fun p => D.str p.1) ++ [.str p.1]) := by unfold dS; rw [List.map_append]; rfl
      rw [hok, hX]
      obtain ⟨U, hU⟩ := List.getLast?_eq_some_iff.mp hL
      have hlen : (S.map fun p => D.str p.1).length = U.length + 1 := by rw [hU]; simp
      have hat : atI (S.map fun p => D.str p.1) (-1) = some (.str q.1) := by
        unfold L2.atI ixN
        rw [if_neg (by decide), if_pos (by omega), hlen]
        have e : ((-1 : Int) + ((U.length + 1 : Nat) : Int)).toNat = U.length := by omega
        rw [e, hU]
        show (List.map (fun p => D.str p.1) (U ++ [q]))[U.length]? = _
        rw [List.getElem?_map, List.getElem?_append_right (Nat.le_refl _), Nat.sub_self]
        rfl
      exact ext_some cs hat (by omega) (by have := e0; rw [List.length_map]; omega)
abbrev bodyS : M Fl := (mSeq (mExtend 4 (mNewL (mComp (mItems (mVar 0)) [6] (.name 6) tstS eltS)))
    (M.pure .nx))
theorem sub_rows {hs : Hs} {s1 s2 s3 : Slot} (cs : Cells) (h7 : hs.length ≤ 7) : ∀ (lv : List Hs) (acc : List D) (s5 s6 : Slot), (∀ S ∈ lv, S.length ≤ 100) → acc.length + 7 * lv.length ≤ 10000000 → ∃ s5' s6',
    EL.forM (fun z => (mTg (.name 5) z).bind fun _ => bodyS) (lv.map dS) [.fz (dS hs), s1, s2, s3, .ow (.lst acc), s5, s6] cs = .ok .nx [.fz (dS hs), s1, s2, s3, .ow (.lst (acc ++ (nxt hs lv).map dS)), s5', s6'] cs
  | [], acc, s5, s6, _, _ => ⟨s5, s6, by simp only [nxt, List.flatMap_nil, List.map_nil, List.append_nil]; rfl⟩
  | S :: lv, acc, s5, s6, h, hl => by
    rw [List.length_cons] at hl
    have hf := List.length_filter_le (okE S) hs
    have key := ext_key (hs := hs) (S := S) (s0 := .fz (dS hs)) (s1 := s1) (s2 := s2) (s3 := s3) (s4 := .ow (.lst acc)) cs (h S List.mem_cons_self)
    have hsz : acc.length + (hs.filter (okE S)).length ≤ sizeLine := by have := e0; omega
    have one : ∃ s6', M.bind (mTg (.name 5) (dS S)) (fun _ => bodyS) [.fz (dS hs), s1, s2, s3, .ow (.lst acc), s5, s6] cs = .ok .nx [.fz (dS hs), s1, s2, s3, .ow (.lst (acc ++ (hs.filter (okE S)).map fun p => dS (S ++ [p]))), .fz (dS S), s6'] cs := by
      have hi : itemsD (dS hs) = some (hs.map fun p => D.str p.1) := rfl
      rcases s6 with _ | d6 | d6 <;> exact ⟨_, by simp [hi, key, hsz]; rfl⟩
    obtain ⟨s6', one⟩ := one
    obtain ⟨s5'', s6'', ih⟩ := sub_rows (hs := hs) (s1 := s1) (s2 := s2) (s3 := s3) cs h7 lv (acc ++ (hs.filter (okE S)).map fun p => dS (S ++ [p])) (.fz (dS S)) s6' (fun T hT => h T (List.mem_cons_of_mem _ hT)) (by rw [List.length_append, List.length_map]; omega)
    refine ⟨s5'', s6'', ?_⟩
    show M.bind (M.bind (mTg _ _) fun _ => bodyS) _ _ cs = _
    rw [ap_bind, one]
    simp only []
    rw [ih]
    have e : nxt hs (S :: lv) = ((hs.filter (okE S)).map fun p => S ++ [p]) ++ nxt hs lv := rfl
    rw [e, List.map_append, List.map_map, List.append_assoc]
    rfl
abbrev bodyT : M Fl := (mSeq (mSet 4 (mLst (M.pure [])))
    (mSeq (mFor (mItems (mVar 3)) (.name 5) bodyS)
    (mSeq (mExtend 2 (mOwnL 4))
    (mSeq (mSet 3 (mOpN (drN (orN fList fListD)) (mCons (mPeek 4) (M.pure []))))
    (M.pure .nx)))))
theorem sub_turns {hs : Hs} (cs : Cells) (h7 : hs.length ≤ 7) : ∀ (zs : List D) (j : Nat) (s1 s4 s5 s6 : Slot), j + zs.length ≤ 7 → ∃ s1' s3' s4' s5' s6',
    EL.forM (fun z => (mTg (.name 1) z).bind fun _ => bodyT) zs [.fz (dS hs), s1, .ow (.lst ((fnd hs j).map dS)), .ow (.lst ((lvs hs j).map dS)), s4, s5, s6] cs = .ok .nx [.fz (dS hs), s1', .ow (.lst ((fnd hs (j + zs.length)).map dS)), s3', s4', s5', s6'] cs
  | [], j, s1, s4, s5, s6, _ => ⟨_, _, _, _, _, rfl⟩
  | z :: zs, j, s1, s4, s5, s6, hj => by
    rw [List.length_cons] at hj
    have b1 := lvs_len hs h7 j
    have b2 := fnd_len hs h7 (j + 1)
    have b3 : 7 ^ j ≤ 7 ^ 6 := Nat.pow_le_pow_right (by omega) (by omega)
    have b4 : 7 ^ (j + 1) ≤ 7 ^ 7 := Nat.pow_le_pow_right (by omega) (by omega)
    obtain ⟨s5', s6', h1⟩ := sub_rows (hs := hs) (s1 := .fz z) (s2 := .ow (.lst ((fnd hs j).map dS))) (s3 := .fz (.lst ((lvs hs j).map dS))) cs h7 (lvs hs j) [] s5 s6 (fun S hS => by
      have := (lvs_at hs j S hS).1
      omega) (by simp; omega)
    rw [List.nil_append] at h1
    have hl : (fnd hs j).length + (nxt hs (lvs hs j)).length ≤ sizeLine := by
      have e : fnd hs (j + 1) = fnd hs j ++ nxt hs (lvs hs j) := rfl
      rw [e, List.length_append] at b2
      have := e0
      omega
    have el : orN fList fListD [.lst ((nxt hs (lvs hs j)).map dS)] = some (.lst ((nxt hs (lvs hs j)).map dS), true) := rfl
    have one : M.bind (mTg (.name 1) z) (fun _ => bodyT) [.fz (dS hs), s1, .ow (.lst ((fnd hs j).map dS)), .ow (.lst ((lvs hs j).map dS)), s4, s5, s6] cs =
        .ok .nx [.fz (dS hs), .fz z, .ow (.lst ((fnd hs (j + 1)).map dS)), .ow (.lst ((lvs hs (j + 1)).map dS)), .ow (.lst ((nxt hs (lvs hs j)).map dS)), s5', s6'] cs := by
      have e1 : (fnd hs (j + 1)).map dS = (fnd hs j).map dS ++ (nxt hs (lvs hs j)).map dS := List.map_append
      have e2 : lvs hs (j + 1) = nxt hs (lvs hs j) := rfl
      rw [e1, e2]
      simp [-orN, h1, hl, el]
    obtain ⟨t1, t3, t4, t5, t6, ih⟩ := sub_turns (hs := hs) cs h7 zs (j + 1) (.fz z) (.ow (.lst ((nxt hs (lvs hs j)).map dS))) s5' s6' (by omega)
    refine ⟨t1, t3, t4, t5, t6, ?_⟩
    show M.bind (M.bind (mTg _ _) fun _ => bodyT) _ _ cs = _
    rw [ap_bind, one]
    simp only []
    rw [ih, List.length_cons, show j + 1 + zs.length = j + (zs.length + 1) by omega]
theorem r_subsets {hs : Hs} (cs : Cells) (h7 : hs.length ≤ 7) : ph_subsets [dS hs] cs = .ok (.lst ((fnd hs hs.length).map dS)) false cs := by
  obtain ⟨t1, t3, t4, t5, t6, h⟩ := sub_turns (hs := hs) cs h7 (rangeD 0 hs.length) 0 .no .no .no .no (by simp [rangeD]; omega)
  have hl : (rangeD 0 hs.length).length = hs.length := by simp [rangeD]
  rw [hl, Nat.zero_add] at h
  have hr : (-1000000 : Int) ≤ hs.length ∧ (hs.length : Int) ≤ 1000000 := by omega
  have z1 : (fnd hs 0).map dS = [D.lst []] := rfl
  have z2 : (lvs hs 0).map dS = [D.lst []] := rfl
  rw [z1, z2] at h
  have len : orN fLen fLenD [dS hs] = some (.int hs.length, false) := by
    show some (D.int ((hs.map fun p => D.str p.1).length : Nat), false) = _
    rw [List.length_map]
  have hd : ∀ c, drL c [dS hs] = some [dS hs] := fun _ => rfl
  simp [-orN, -drL, ph_subsets, m_subsets, hd, len, hr, h]
end K81
namespace K81
open PySem PySem.Spec L2 EL
/-! ### sums -/
def sF (hs ts : Hs) (ns : List Str) : List (Str × D) := [(Str.ofString "own_rooms", .dct (hs.map tRow)), (Str.ofString "own_groups", .lst (ns.map fun x => .lst [.str x])), (Str.ofString "own_copies", .lst (ts.map fun p => .int p.2))]
abbrev sumsD (hs ts : Hs) (ns : List Str) : D := .ins 1 (sF hs ts ns)
theorem sF_r {hs ts ns} : (sF hs ts ns).lookup (Str.ofString "own_rooms") = some (.dct (hs.map tRow)) := rfl
theorem sF_g {hs ts ns} : (sF hs ts ns).lookup (Str.ofString "own_groups") = some (.lst (ns.map fun x => .lst [.str x])) := rfl
theorem sF_c {hs ts ns} : (sF hs ts ns).lookup (Str.ofString "own_copies") = some (.lst (ts.map fun p => .int p.2)) := rfl
theorem sF_1 {hs ts ns} : (sF hs ts ns).lookup (Str.ofString "sets") = none := rfl
theorem sF_2 {hs ts ns} : (sF hs ts ns).lookup (Str.ofString "left") = none := rfl
theorem sF_3 {hs ts ns} : (sF hs ts ns).lookup (Str.ofString "need") = none := rfl
theorem sF_4 {hs ts ns} : (sF hs ts ns).lookup (Str.ofString "room_sum") = none := rfl
theorem sF_5 {hs ts ns} : (sF hs ts ns).lookup (Str.ofString "excess") = none := rfl
theorem sput1 {a : D} : putFD (Str.ofString "own_rooms") a [] = [(Str.ofString "own_rooms", a)] := rfl
theorem sput2 {a b : D} : putFD (Str.ofString "own_groups") b [(Str.ofString "own_rooms", a)] = [(Str.ofString "own_rooms", a), (Str.ofString "own_groups", b)] := rfl
theorem sput3 {a b c : D} : putFD (Str.ofString "own_copies") c [(Str.ofString "own_rooms", a), (Str.ofString "own_groups", b)] = [(Str.ofString "own_rooms", a), (Str.ofString "own_groups", b), (Str.ofString "own_copies", c)] := rfl
theorem in_nil {d : D} : inL d [] = some false := rfl
theorem r_Sums {hs ts : Hs} {ds : List D} (cs : Cells) (O : HOk hs ts) : ∃ ns : List Str, ns.Perm (hs.map (·.1)) ∧ mkPhi ph_Sums_init [houseD hs ts ds, .lst []] cs = .ok (sumsD hs ts ns) true cs := by
  obtain ⟨ns, hp, hg⟩ := r_groups (ds := ds) cs O
  refine ⟨ns, hp, mkPhi_eq fun x => ?_⟩
  have h1 := r_rooms (ds := ds) cs O
  have h2 := r_things (ds := ds) cs O
  have hl := hs_len O
  have hm : mergeD [] (hs.map tRow) = hs.map tRow := by
    rw [mergeD_new]
    · rfl
    · rw [List.nil_append, List.map_map]
      exact O.h.key
  have k1 : compP (turnP [5, 6] (.tup [(.name 5), (.name 6)]) (mBl (mOp2 (drR (opInA true)) (mVar 5) (mPeek 2))) (mVar 5) (mVar 6)) (hs.map fun p => D.tup [.str p.1, .int p.2]) [.ow (.slf x 1 []), .fz (houseD hs ts ds), .fz (.lst []), .no, .no, .no, .no] cs =
      .ok (hs.map tRow) [.ow (.slf x 1 []), .fz (houseD hs ts ds), .fz (.lst []), .no, .no, .no, .no] cs :=
    compP_map hs fun p hp => by simp [in_nil, tRow]
  have k2 : ∀ fs, compM (turnM [3] (.name 3) (M.pure true) (mZ (mComp (mItems (mVar 3)) [5] (.name 5) (mBl (mOp2 (drR (opInA true)) (mVar 5) (mPeek 2))) (mVar 5)))) (ns.map fun x => D.lst [.str x]) [.ow (.slf x 1 fs), .fz (houseD hs ts ds), .fz (.lst []), .no, .no, .no, .no] cs =
      .ok (ns.map fun x => D.lst [.str x]) [.ow (.slf x 1 fs), .fz (houseD hs ts ds), .fz (.lst []), .no, .no, .no, .no] cs := fun fs =>
    compM_map ns fun p hp => by simp [in_nil, compM]
  have k3 : ∀ fs, compM (turnM [4] (.name 4) (M.pure true) (mZ (mMethF (Str.ofString "copies") [(0, [.p 0], ph_House_copies)] (mVar 1) (mCons (mVar 4) (M.pure [])) (M.pure [])))) (ts.map fun p => D.str p.1) [.ow (.slf x 1 fs), .fz (houseD hs ts ds), .fz (.lst []), .no, .no, .no, .no] cs =
      .ok (ts.map fun p => D.int p.2) [.ow (.slf x 1 fs), .fz (houseD hs ts ds), .fz (.lst []), .no, .no, .no, .no] cs := fun fs =>
    compM_map ts fun p hp => by
      have hc := r_copies (ds := ds) cs O hp
      simp [hF_c, hc]
  have t1 : hs.map (fItem ∘ tRow) = hs.map fun p => D.tup [.str p.1, .int p.2] := rfl
  simp [-Function.comp_apply, ph_Sums_init, m_Sums_init, h1, h2, hg, hl, t1, k1, k2, k3, hm, sput1, sput2, sput3, sumsD, sF]
section
variable {hs ts S : Hs} {ns : List Str} (cs : Cells)
theorem in_names {x : Str} : ∀ {S : Hs}, inL (.str x) (S.map fun p => D.str p.1) = some (decide (x ∈ S.map (·.1)))
  | [] => rfl
  | p :: S => by
    have ih := in_names (x := x) (S := S)
    rw [List.map_cons]
    unfold inL
    have e : eqD eqFuel (.str p.1) (.str x) = some (p.1 == x) := rfl
    rw [e, ih]
    simp only [Option.map_some, List.map_cons, List.mem_cons]
    by_cases h : p.1 = x
    · subst h; simp
    · have h2 : ¬ x = p.1 := fun z => h z.symm
      have h3 : (p.1 == x) = false := by simpa using h
      simp [h2, h3]
def lft (ns : List Str) (S : Hs) : Int := ((ns.filter fun x => decide (¬ x ∈ S.map (·.1))).length : Nat)
theorem r_left : ph_Sums_left [sumsD hs ts ns, dS S] cs = .ok (.int (lft ns S)) false cs := by
  have key : compM (turnM [2] (.name 2) (mTr (mZ (mOpN (drN fAny) (mCons (mZ (mComp (mItems (mVar 2)) [3] (.name 3) (M.pure true) (mZ (mOp2 (drR (opInA true)) (mVar 3) (mPeek 1))))) (M.pure []))))) (mVar 2)) (ns.map fun x => D.lst [.str x]) [.fz (sumsD hs ts ns), .fz (dS S), .no, .no] cs =
      .ok ((ns.filter fun x => decide (¬ x ∈ S.map (·.1))).map fun x => D.lst [.str x]) [.fz (sumsD hs ts ns), .fz (dS S), .no, .no] cs :=
    compM_if ns fun x hx => by
      have hi := in_names (x := x) (S := S)
      by_cases h : x ∈ S.map (·.1)
      · simp only [h, decide_true] at hi
        simp only [h, not_true, decide_false]
        simp [compM, dS, hi, blsD]
      · simp only [h, decide_false] at hi
        simp only [h, not_false_eq_true, decide_true]
        simp [compM, dS, hi, blsD]
  simp [ph_Sums_left, m_Sums_left, sF_g, key, lft]
def need (ts : Hs) (l : Int) : Int := (ts.map fun p => if p.2 - l > 0 then p.2 - l else 0).sum
theorem r_need : ph_Sums_need [sumsD hs ts ns, dS S] cs = .ok (.int (need ts (lft ns S))) false cs := by
  have h1 := r_left (hs := hs) (ts := ts) (ns := ns) (S := S) cs
  generalize hl : lft ns S = l at *
  have key : compM (turnM [3] (.name 3) (M.pure true) (mZ (mOpN (drN fMax) (mCons (M.pure (.int 0)) (mCons (mZ (mOp2 (dr2 opSub) (mPeek 3) (mPeek 2))) (M.pure [])))))) (ts.map fun p => D.int p.2) [.fz (sumsD hs ts ns), .fz (dS S), .fz (.int l), .no] cs =
      .ok (ts.map fun p => D.int (if p.2 - l > 0 then p.2 - l else 0)) [.fz (sumsD hs ts ns), .fz (dS S), .fz (.int l), .no] cs :=
    compM_map ts fun p hp => by simp
  have hi := intsD_map (fun p : Str × Int => if p.2 - l > 0 then p.2 - l else 0) ts
  have hlk : List.lookup 1 [((0 : Nat), (none : Option Phi)), (1, none)] = some none := rfl
  simp only [gt_iff_lt] at key hi
  simp [-Int.sub_pos, ph_Sums_need, m_Sums_need, sF_2, sF_c, h1, hlk, key, hi, need]
theorem r_room_sum (O : HOk hs ts) (hS : ∀ p ∈ S, p ∈ hs) : ph_Sums_room_sum [sumsD hs ts ns, dS S] cs = .ok (.int (S.map (·.2)).sum) false cs := by
  have key : compM (turnM [2] (.name 2) (M.pure true) (mZ (mOp2 (dr2 opItem) (mZ (mAttr [(1, none)] (Str.ofString "own_rooms") (mVar 0))) (mPeek 2)))) (S.map fun p => D.str p.1) [.fz (sumsD hs ts ns), .fz (dS S), .no] cs =
      .ok (S.map fun p => D.int p.2) [.fz (sumsD hs ts ns), .fz (dS S), .no] cs :=
    compM_map S fun p hp => by
      have hv : valD (hs.map tRow) (.inr p.1) = some (.int p.2) := valD_at (f := fun p : Str × Int => (Sum.inr p.1 : Key)) (g := fun p => D.int p.2) O.h.key (hS p hp)
      simp [sF_r, hv]
  have hi := intsD_map (fun p : Str × Int => p.2) S
  have hit : itemsD (dS S) = some (S.map fun p => D.str p.1) := rfl
  simp [ph_Sums_room_sum, m_Sums_room_sum, hit, key, hi]
def exc (ts : Hs) (ns : List Str) (S : Hs) : Int := need ts (lft ns S) - (S.map (·.2)).sum
theorem r_excess (O : HOk hs ts) (hS : ∀ p ∈ S, p ∈ hs) : ph_Sums_excess [sumsD hs ts ns, dS S] cs = .ok (.int (exc ts ns S)) false cs := by
  have h1 := r_need (hs := hs) (ts := ts) (ns := ns) (S := S) cs
  have h2 := r_room_sum (ns := ns) cs O hS
  simp [ph_Sums_excess, m_Sums_excess, sF_3, sF_4, h1, h2, exc]
theorem r_sets (O : HOk hs ts) : ph_Sums_sets [sumsD hs ts ns] cs = .ok (.lst ((fnd hs hs.length).map dS)) false cs := by
  have h1 := r_subsets cs O.h7
  have el : orN fList fListD [.dct (hs.map tRow)] = some (dS hs, true) := by
    show some (D.lst ((hs.map tRow).map fKey), true) = _
    rw [List.map_map]
    rfl
  simp [-orN, ph_Sums_sets, m_Sums_sets, sF_r, el, h1]
theorem r_can {ds : List D} (O : HOk hs ts) : ∃ ns : List Str, ns.Perm (hs.map (·.1)) ∧ ph_can_be_out [houseD hs ts ds, .lst []] cs = .ok (.bl ((fnd hs hs.length).all fun S => decide (exc ts ns S ≤ 0))) false cs := by
  obtain ⟨ns, hp, h1⟩ := r_Sums (ds := ds) cs O
  refine ⟨ns, hp, ?_⟩
  have h2 := r_sets (ns := ns) cs O
  have hw : ph_want_out [houseD hs ts ds, .lst []] cs = .ok .non false cs := by
    have a : ph_wrong_place [.lst [], .dct (hs.map hRow)] cs = .ok .non false cs := by
      have hz : 0 ≤ sizeLine := by omega
      simp [ph_wrong_place, m_wrong_place, r_is_list_l, enumD]
      rfl
    have b : ph_are_different [.lst [], .dct (hs.map hRow)] cs = .ok (.bl true) false cs := by
      simp [ph_are_different, m_are_different, r_is_list_l, a]
    simp [ph_want_out, m_want_out, hF_h, b]
  have key : compM (turnM [3] (.name 3) (M.pure true) (mZ (mOp2 (dr2 opLe) (mZ (mMethF (Str.ofString "excess") [(1, [.p 0], ph_Sums_excess)] (mVar 2) (mCons (mVar 3) (M.pure [])) (M.pure []))) (M.pure (.int 0))))) ((fnd hs hs.length).map dS) [.fz (houseD hs ts ds), .fz (.lst []), .fz (sumsD hs ts ns), .no] cs =
      .ok ((fnd hs hs.length).map fun S => D.bl (decide (exc ts ns S ≤ 0))) [.fz (houseD hs ts ds), .fz (.lst []), .fz (sumsD hs ts ns), .no] cs :=
    compM_map _ fun S hS => by
      obtain ⟨j, _, hj⟩ := (fnd_at hs _ S).mp hS
      have h3 := r_excess (ns := ns) cs O (lvs_at hs j S hj).2.1
      simp [sF_5, h3]
  have hb := blsD_map (fun S => decide (exc ts ns S ≤ 0)) (fnd hs hs.length)
  simp [ph_can_be_out, m_can_be_out, hw, h1, sF_1, h2, key, hb, Function.comp_def, List.all_map]
end
end K81
namespace K81
open PySem PySem.Spec L2 EL
theorem strLt_of {a b : Str} (h : a.cps.toList ≤ b.cps.toList) (hne : a ≠ b) : strLt a b = true := by
  refine decide_eq_true ?_
  by_cases h2 : a.cps.toList < b.cps.toList
  · exact h2
  · have h3 : b.cps.toList ≤ a.cps.toList := List.not_lt.mp h2
    exact absurd (str_ext (List.le_antisymm h h3)) hne
theorem Good.inc {hs : Hs} (G : Good hs) : hs.Pairwise (fun a b => strLt a.1 b.1 = true) := by
  have h1 := sortS_pw (hs.map (·.1))
  rw [G.so] at h1
  have h2 : (hs.map (·.1)).Pairwise (fun a b : Str => a ≠ b) := G.nd
  have h3 := h1.and h2
  rw [List.pairwise_map] at h3
  exact h3.imp fun h => strLt_of h.1 h.2
theorem inc_nd {S : Hs} (h : S.Pairwise (fun a b => strLt a.1 b.1 = true)) : (S.map (·.1)).Nodup := by
  unfold List.Nodup
  rw [List.pairwise_map]
  refine h.imp fun {a b} hab e => ?_
  have := of_decide_eq_true hab
  rw [e] at this
  exact List.lt_irrefl _ this
theorem nd_of_names {S : Hs} (h : (S.map (·.1)).Nodup) : S.Nodup := by
  unfold List.Nodup at *
  rw [List.pairwise_map] at h
  exact h.imp fun {a b} hab e => hab (by rw [e])
def rest (hs S : Hs) : Hs := hs.filter fun p => decide (¬ p ∈ S)
theorem split_perm {hs S : Hs} (hn : hs.Nodup) (hS : S.Nodup) (hm : ∀ p ∈ S, p ∈ hs) : hs.Perm (S ++ rest hs S) := by
  refine (List.perm_ext_iff_of_nodup hn ?_).mpr fun p => ?_
  · rw [List.nodup_append]
    refine ⟨hS, hn.filter _, fun a ha b hb e => ?_⟩
    subst e
    have := of_decide_eq_true (List.mem_filter.mp hb).2
    exact this ha
  · rw [List.mem_append]
    constructor
    · intro h
      by_cases hp : p ∈ S
      · exact .inl hp
      · exact .inr (List.mem_filter.mpr ⟨h, decide_eq_true hp⟩)
    · rintro (h | h)
      · exact hm p h
      · exact (List.mem_filter.mp h).1
theorem lft_eq {hs S : Hs} {ns : List Str} (G : Good hs) (hp : ns.Perm (hs.map (·.1))) (hm : ∀ p ∈ S, p ∈ hs) : lft ns S = ((rest hs S).length : Nat) := by
  unfold lft
  have h1 := (hp.filter fun x => decide (¬ x ∈ S.map (·.1))).length_eq
  rw [h1, List.filter_map, List.length_map]
  congr 2
  unfold rest
  refine List.filter_congr fun p hp => ?_
  show decide (¬ p.1 ∈ S.map (·.1)) = decide (¬ p ∈ S)
  have : p.1 ∈ S.map (·.1) ↔ p ∈ S := by
    constructor
    · intro h
      obtain ⟨q, hq, e⟩ := List.mem_map.mp h
      have hq2 := hm q hq
      have hnd := G.nd
      obtain ⟨i, hi, ei⟩ := List.getElem_of_mem hp
      obtain ⟨j, hj, ej⟩ := List.getElem_of_mem hq2
      have hij : i = j := by
        have := (List.getElem_inj (h₀ := by rw [List.length_map]; exact hi) (h₁ := by rw [List.length_map]; exact hj) hnd).mp (by rw [List.getElem_map, List.getElem_map, ei, ej]; exact e.symm)
        exact this
      subst hij
      rw [ei] at ej
      rw [ej]; exact hq
    · intro h
      exact List.mem_map.mpr ⟨p, h, rfl⟩
  simp only [this]
theorem need_eq {c l : Int} : ∀ {ts : Hs}, (∀ p ∈ ts, p.2 = c) → need ts l = ts.length * (if c - l > 0 then c - l else 0)
  | [], _ => by simp [need]
  | p :: ts, h => by
    have h1 := h p List.mem_cons_self
    have h2 := need_eq (l := l) (ts := ts) fun q hq => h q (List.mem_cons_of_mem _ hq)
    have e : need (p :: ts) l = (if p.2 - l > 0 then p.2 - l else 0) + need ts l := by simp [need]
    rw [e, h2, h1, List.length_cons, Int.natCast_add, Int.add_mul]
    simp
    omega
theorem sum_ge {m : Int} : ∀ (S : Hs), caL (S.map (·.2)) m ≤ (S.map (·.2)).sum
  | [] => by simp [caL]
  | p :: S => by
    have := sum_ge (m := m) S
    rw [List.map_cons, caL_cons, List.sum_cons]
    have : mn p.2 m ≤ p.2 := by unfold mn; split <;> omega
    omega
theorem sum_eq {m : Int} : ∀ {S : Hs}, (∀ p ∈ S, p.2 ≤ m) → caL (S.map (·.2)) m = (S.map (·.2)).sum
  | [], _ => by simp [caL]
  | p :: S, h => by
    have h1 := h p List.mem_cons_self
    have := sum_eq (m := m) (S := S) fun q hq => h q (List.mem_cons_of_mem _ hq)
    rw [List.map_cons, caL_cons, List.sum_cons, this]
    have : mn p.2 m = p.2 := by unfold mn; split <;> omega
    omega
theorem can_iff {hs ts : Hs} {ns : List Str} {m : Nat} {c : Int} (O : HOk hs ts) (hp : ns.Perm (hs.map (·.1))) (hc : ∀ p ∈ ts, p.2 = c) (hm : ts.length = m) :
    ((fnd hs hs.length).all fun S => decide (exc ts ns S ≤ 0)) = decide ((m : Int) * c ≤ caL (hs.map (·.2)) m) := by
  rw [Bool.eq_iff_iff, List.all_eq_true, decide_eq_true_eq]
  have hnd : hs.Nodup := nd_of_names O.h.nd
  have ex : ∀ S : Hs, (∀ p ∈ S, p ∈ hs) → exc ts ns S = (m : Int) * (if c - (rest hs S).length > 0 then c - (rest hs S).length else 0) - (S.map (·.2)).sum := fun S hS => by
    unfold exc
    rw [need_eq hc, lft_eq O.h hp hS, hm]
  have spl : ∀ S : Hs, S.Nodup → (∀ p ∈ S, p ∈ hs) → caL (hs.map (·.2)) m = caL (S.map (·.2)) m + caL ((rest hs S).map (·.2)) m := fun S h1 h2 => by
    rw [caL_perm ((split_perm hnd h1 h2).map (·.2)), List.map_append, caL_app]
  constructor
  · intro h
    have hm1 : ∀ p ∈ hs.filter (fun p => decide (p.2 < (m : Int))), p ∈ hs := fun p hp => (List.mem_filter.mp hp).1
    have hi : (hs.filter fun p => decide (p.2 < (m : Int))).Pairwise (fun a b => strLt a.1 b.1 = true) := O.h.inc.filter _
    have hin : (hs.filter fun p => decide (p.2 < (m : Int))) ∈ fnd hs hs.length := (fnd_at hs _ _).mpr ⟨_, List.length_filter_le _ _, lvs_all hs _ _ rfl hm1 hi⟩
    have h1 := of_decide_eq_true (h _ hin)
    rw [ex _ hm1] at h1
    rw [spl _ (nd_of_names (inc_nd hi)) hm1, sum_eq fun p hp => by
      have := of_decide_eq_true (List.mem_filter.mp hp).2
      omega]
    have h2 : caL ((rest hs (hs.filter fun p => decide (p.2 < (m : Int)))).map (·.2)) m = ((rest hs (hs.filter fun p => decide (p.2 < (m : Int)))).length : Nat) * (m : Int) := by
      rw [caL_all (m := (m : Int)), List.length_map]
      intro x hx
      obtain ⟨p, hp, rfl⟩ := List.mem_map.mp hx
      obtain ⟨p1, p2⟩ := List.mem_filter.mp hp
      have p2 := of_decide_eq_true p2
      by_cases hlt : p.2 < m
      · exact absurd (List.mem_filter.mpr ⟨p1, decide_eq_true hlt⟩) p2
      · omega
    rw [h2]
    generalize ((rest hs (hs.filter fun p => decide (p.2 < (m : Int)))).length : Int) = t at *
    generalize ((hs.filter fun p => decide (p.2 < (m : Int))).map (·.2)).sum = u at *
    by_cases hct : c - t > 0
    · rw [if_pos hct, Int.mul_sub] at h1
      rw [Int.mul_comm t]
      omega
    · rw [if_neg hct, Int.mul_zero] at h1
      have : (m : Int) * c ≤ (m : Int) * t := Int.mul_le_mul_of_nonneg_left (by omega) (by omega)
      rw [Int.mul_comm t]
      omega
  · intro h S hS
    obtain ⟨j, _, hj⟩ := (fnd_at hs _ S).mp hS
    obtain ⟨_, h2, h3⟩ := lvs_at hs j S hj
    refine decide_eq_true ?_
    rw [ex S h2]
    rw [spl S (nd_of_names (inc_nd h3)) h2] at h
    have g1 := sum_ge (m := (m : Int)) S
    have g2 := caL_le (m := (m : Int)) (by omega) ((rest hs S).map (·.2))
    rw [List.length_map] at g2
    have g3 : 0 ≤ (S.map (·.2)).sum := sum_nonneg fun x hx => by
      obtain ⟨p, hp, rfl⟩ := List.mem_map.mp hx
      exact (O.hr p (h2 p hp)).1
    generalize ((rest hs S).length : Int) = t at *
    generalize (S.map (·.2)).sum = u at *
    by_cases hct : c - t > 0
    · rw [if_pos hct, Int.mul_sub]
      rw [Int.mul_comm t] at g2
      omega
    · rw [if_neg hct, Int.mul_zero]
      omega
end K81
namespace K81
open PySem PySem.Spec L2 EL
/-! ### the law's houses -/
def kS (k : Nat) : Str := ((toString (k : Int) : String) : Str)
def hN (a k : Nat) : Str := (Str.ofString "h" ++ (⟨#[97 + a]⟩ : Str)) ++ kS k
def tN (k : Nat) : Str := Str.ofString "t" ++ kS k
theorem abc_at {a : Nat} (h : a < 3) : opItem (.str (Str.ofString "abc")) (.int (a : Nat)) = some (.str ⟨#[97 + a]⟩, false) := by
  match a, h with
  | 0, _ => rfl
  | 1, _ => rfl
  | 2, _ => rfl
theorem add_h {a : Nat} (h : a < 3) : opAdd (.str (Str.ofString "h")) (.str ⟨#[97 + a]⟩) = some (.str (Str.ofString "h" ++ (⟨#[97 + a]⟩ : Str)), false) := rfl
theorem add_k {a k : Nat} (h : a < 3) (h' : k < 10) : opAdd (.str (Str.ofString "h" ++ (⟨#[97 + a]⟩ : Str))) (.str (kS k)) = some (.str (hN a k), false) := by
  match k, h' with
  | 0, _ | 1, _ | 2, _ | 3, _ | 4, _ | 5, _ | 6, _ | 7, _ | 8, _ | 9, _ => rfl
theorem add_t {k : Nat} (h' : k < 10) : opAdd (.str (Str.ofString "t")) (.str (kS k)) = some (.str (tN k), false) := by
  match k, h' with
  | 0, _ | 1, _ | 2, _ | 3, _ | 4, _ | 5, _ | 6, _ | 7, _ | 8, _ | 9, _ => rfl
theorem str_k {k : Nat} (h' : k < 10) : fStr [.int (k : Nat)] = some (.str (kS k), false) := by
  match k, h' with
  | 0, _ | 1, _ | 2, _ | 3, _ | 4, _ | 5, _ | 6, _ | 7, _ | 8, _ | 9, _ => rfl
theorem nm_h {a k : Nat} (h : a < 3) (h' : k < 5) (cs : Cells) : ph_is_name [.str (hN a k)] cs = .ok (.bl true) false cs := by
  match a, h, k, h' with
  | 0, _, 0, _ | 0, _, 1, _ | 0, _, 2, _ | 0, _, 3, _ | 0, _, 4, _ => kernel_rfl
  | 1, _, 0, _ | 1, _, 1, _ | 1, _, 2, _ | 1, _, 3, _ | 1, _, 4, _ => kernel_rfl
  | 2, _, 0, _ | 2, _, 1, _ | 2, _, 2, _ | 2, _, 3, _ | 2, _, 4, _ => kernel_rfl
theorem nm_t {k : Nat} (h' : k < 9) (cs : Cells) : ph_is_name [.str (tN k)] cs = .ok (.bl true) false cs := by
  match k, h' with
  | 0, _ | 1, _ | 2, _ | 3, _ | 4, _ | 5, _ | 6, _ | 7, _ | 8, _ => kernel_rfl
def nms (s0 s1 s2 : Nat) : List Str := (List.range s0).map (hN 0) ++ ((List.range s1).map (hN 1) ++ (List.range s2).map (hN 2))
theorem nms_inc : ∀ s0 < 5, ∀ s1 < 5, ∀ s2 < 5, (nms s0 s1 s2).Pairwise (fun a b => a.cps.toList < b.cps.toList) := by decide +kernel
theorem tms_inc : ∀ m < 9, ((List.range m).map tN).Pairwise (fun a b => a.cps.toList < b.cps.toList) := by decide +kernel
theorem good_of {hs : Hs} (h1 : ∀ p ∈ hs, ∀ cs, ph_is_name [.str p.1] cs = .ok (.bl true) false cs) (h2 : (hs.map (·.1)).Pairwise (fun a b => a.cps.toList < b.cps.toList)) (h3 : hs.length ≤ 8) : Good hs :=
  ⟨h1, h2.imp fun {a b} hab e => by rw [e] at hab; exact List.lt_irrefl _ hab, (sortS_one (List.Perm.refl _) (h2.imp fun hab => List.le_of_lt hab)).symm, h3⟩
def seg (a : Nat) (p : Srt) : Hs := (List.range p.1.toNat).map fun k => (hN a k, p.2)
def hsOf : Nat → List Srt → Hs
  | _, [] => []
  | a, p :: ss => seg a p ++ hsOf (a + 1) ss
def tsOf (m : Nat) (c : Int) : Hs := (List.range m).map fun k => (tN k, c)
theorem seg_nm (a : Nat) (p : Srt) : (seg a p).map (·.1) = (List.range p.1.toNat).map (hN a) := by unfold seg; rw [List.map_map]; rfl
theorem rooms_of : ∀ (ss : List Srt) (a : Nat), (hsOf a ss).map (·.2) = expand ss
  | [], _ => rfl
  | p :: ss, a => by
    show (seg a p ++ hsOf (a + 1) ss).map (·.2) = List.replicate p.1.toNat p.2 ++ expand ss
    rw [List.map_append, rooms_of ss (a + 1)]
    congr 1
    unfold seg
    rw [List.map_map]
    show (List.range p.1.toNat).map (fun _ => p.2) = _
    rw [List.map_const', List.length_range]
theorem hs_names {ss : List Srt} (hl : ss.length ≤ 3) (h : ∀ p ∈ ss, p.1 ≤ 4) : ((hsOf 0 ss).map (·.1)).Pairwise (fun a b => a.cps.toList < b.cps.toList) := by
  have z : ∀ p ∈ ss, p.1.toNat < 5 := fun p hp => by have := h p hp; omega
  rcases ss with _ | ⟨p, _ | ⟨q, _ | ⟨r, _ | ⟨x, l⟩⟩⟩⟩
  · exact .nil
  · have := nms_inc p.1.toNat (z p (by simp)) 0 (by omega) 0 (by omega)
    simpa [hsOf, seg_nm, nms] using this
  · have := nms_inc p.1.toNat (z p (by simp)) q.1.toNat (z q (by simp)) 0 (by omega)
    simpa [hsOf, seg_nm, nms] using this
  · have := nms_inc p.1.toNat (z p (by simp)) q.1.toNat (z q (by simp)) r.1.toNat (z r (by simp))
    simpa [hsOf, seg_nm, nms] using this
  · simp at hl
abbrev nmE : M D := mZ (mOp2 (dr2 opAdd) (mZ (mOp2 (dr2 opAdd) (M.pure (.str (Str.ofString "h"))) (mZ (mOp2 (dr2 opItem) (M.pure (.str (Str.ofString "abc"))) (mPeek 4))))) (mZ (mOpN (drN fStr) (mCons (mPeek 5) (M.pure [])))))
theorem hs_mem : ∀ {ss : List Srt} {a : Nat} {x : Str × Int}, x ∈ hsOf a ss → ∃ b k p, a ≤ b ∧ b < a + ss.length ∧ p ∈ ss ∧ k < p.1.toNat ∧ x = (hN b k, p.2)
  | p :: ss, a, x, h => by
    rcases List.mem_append.mp h with h | h
    · obtain ⟨k, hk, rfl⟩ := List.mem_map.mp h
      exact ⟨a, k, p, Nat.le_refl _, by simp, List.mem_cons_self, List.mem_range.mp hk, rfl⟩
    · obtain ⟨b, k, q, h1, h2, h3, h4, h5⟩ := hs_mem h
      exact ⟨b, k, q, by omega, by rw [List.length_cons]; omega, List.mem_cons_of_mem _ h3, h4, h5⟩
/-- what the law draws -/
def Dr (ss : List Srt) : Prop := ∀ p ∈ ss, 0 ≤ p.1 ∧ p.1 ≤ 4 ∧ 0 ≤ p.2 ∧ p.2 ≤ 6
theorem Dr.fw {ss : List Srt} (h : Dr ss) : Fw ss := fun p hp => by have := h p hp; omega
theorem hs_ok {ss : List Srt} {m : Nat} {c : Int} (hl : ss.length ≤ 3) (h : Dr ss) (h1 : hsOf 0 ss ≠ []) (h7 : (hsOf 0 ss).length ≤ 7) (hm : m ≤ 8) (hc1 : 1 ≤ c) (hc4 : c ≤ 4) : HOk (hsOf 0 ss) (tsOf m c) where
  h := good_of (fun p hp cs => by
    obtain ⟨b, k, q, a1, a2, a3, a4, rfl⟩ := hs_mem hp
    have := h q a3
    exact nm_h (by omega) (by omega) cs) (hs_names hl fun p hp => (h p hp).2.1) (by omega)
  h0 := h1
  h7 := h7
  hr := fun p hp => by
    obtain ⟨b, k, q, a1, a2, a3, a4, rfl⟩ := hs_mem hp
    have := h q a3
    exact ⟨this.2.2.1, by show q.2 ≤ 20; omega⟩
  t := good_of (fun p hp cs => by
    obtain ⟨k, hk, rfl⟩ := List.mem_map.mp hp
    exact nm_t (by have := List.mem_range.mp hk; omega) cs) (by
      unfold tsOf
      rw [List.map_map]
      exact tms_inc m (by omega)) (by unfold tsOf; simpa using hm)
  tr := fun p hp => by
    obtain ⟨k, hk, rfl⟩ := List.mem_map.mp hp
    exact ⟨hc1, hc4⟩
end K81
namespace K81
open PySem PySem.Spec L2 EL
theorem r_nmE {a k : Nat} {s0 s1 s2 s3 s6 s7 : Slot} (cs : Cells) (ha : a < 3) (hk : k < 10) : nmE [s0, s1, s2, s3, .fz (.int (a : Nat)), .fz (.int (k : Nat)), s6, s7] cs = .ok (.str (hN a k)) [s0, s1, s2, s3, .fz (.int (a : Nat)), .fz (.int (k : Nat)), s6, s7] cs := by
  have h1 := abc_at ha
  have h2 := add_h ha
  have h3 := add_k ha hk
  have h4 := str_k hk
  simp [-opAdd, -fStr, h1, h2, h3, h4]
abbrev bodyI : M Fl := (mSeq (mSetA 3 nmE (mZ (mTup (mCons (mVar 7) (mCons (M.pure .non) (M.pure []))))))
    (M.pure .nx))
theorem in_rows {d x y r : D} {a : Nat} {s6 : Slot} (cs : Cells) (ha : a < 3) : ∀ (ks : List Nat) (acc : List (Key × D)) (s5 : Slot), (∀ k ∈ ks, k < 10) → ((acc ++ ks.map fun k => ((.inr (hN a k) : Key), D.tup [r, .non])).map (·.1)).Nodup → acc.length + ks.length ≤ 1000 → ∃ s5',
    EL.forM (fun z => (mTg (.name 5) z).bind fun _ => bodyI) (ks.map fun k => .int (k : Nat)) [.fz d, .fz x, .fz y, .ow (.dct acc), .fz (.int (a : Nat)), s5, s6, .fz r] cs =
      .ok .nx [.fz d, .fz x, .fz y, .ow (.dct (acc ++ ks.map fun k => ((.inr (hN a k) : Key), D.tup [r, .non]))), .fz (.int (a : Nat)), s5', s6, .fz r] cs
  | [], acc, s5, _, _, _ => ⟨s5, by simp only [List.map_nil, List.append_nil]; rfl⟩
  | k :: ks, acc, s5, hk, hn, hl => by
    rw [List.length_cons] at hl
    have h1 := r_nmE (a := a) (k := k) (s0 := .fz d) (s1 := .fz x) (s2 := .fz y) (s3 := .ow (.dct acc)) (s6 := s6) (s7 := .fz r) cs ha (hk k List.mem_cons_self)
    have hnew : putD acc (.inr (hN a k)) (.tup [r, .non]) = acc ++ [(.inr (hN a k), .tup [r, .non])] := putD_new fun p hp e => by
      rw [List.map_append, List.nodup_append] at hn
      exact hn.2.2 p.1 (List.mem_map.mpr ⟨p, hp, rfl⟩) (.inr (hN a k)) (by simp) e
    have hsz : acc.length < sizeLine := by have := e0; omega
    have one : M.bind (mTg (.name 5) (.int (k : Nat))) (fun _ => bodyI) [.fz d, .fz x, .fz y, .ow (.dct acc), .fz (.int (a : Nat)), s5, s6, .fz r] cs =
        .ok .nx [.fz d, .fz x, .fz y, .ow (.dct (acc ++ [(.inr (hN a k), .tup [r, .non])])), .fz (.int (a : Nat)), .fz (.int (k : Nat)), s6, .fz r] cs := by
      show M.bind (mPut 5 (.int (k : Nat), false)) (fun _ => bodyI) _ cs = _
      have h1' : mZ (mOp2 (dr2 opAdd) (mZ (mOp2 (dr2 opAdd) (M.pure (.str (Str.ofString "h"))) (mZ (mOp2 (dr2 opItem) (M.pure (.str (Str.ofString "abc"))) (mPeek 4))))) (mZ (mOpN (drN fStr) (mCons (mPeek 5) (M.pure []))))) [.fz d, .fz x, .fz y, .ow (.dct acc), .fz (.int (a : Nat)), .fz (.int (k : Nat)), s6, .fz r] cs = _ := h1
      generalize hE : (mZ (mOp2 (dr2 opAdd) (mZ (mOp2 (dr2 opAdd) (M.pure (.str (Str.ofString "h"))) (mZ (mOp2 (dr2 opItem) (M.pure (.str (Str.ofString "abc"))) (mPeek 4))))) (mZ (mOpN (drN fStr) (mCons (mPeek 5) (M.pure []))))) : M D) = E at h1'
      unfold bodyI nmE
      rw [hE]
      simp [h1', hnew, hsz]
    obtain ⟨s5', ih⟩ := in_rows (d := d) (x := x) (y := y) (r := r) (s6 := s6) cs ha ks (acc ++ [(.inr (hN a k), .tup [r, .non])]) (.fz (.int (k : Nat))) (fun j hj => hk j (List.mem_cons_of_mem _ hj)) (by simpa using hn) (by rw [List.length_append]; simp; omega)
    refine ⟨s5', ?_⟩
    show M.bind (M.bind (mTg _ _) fun _ => bodyI) _ _ cs = _
    rw [ap_bind, one]
    simp only []
    rw [ih]
    simp
abbrev bodyO : M Fl := (mSeq (mFor (mRng1 (mCons (mVar 6) (M.pure []))) (.name 5) bodyI)
    (M.pure .nx))
theorem seg_row (a : Nat) (p : Srt) : (seg a p).map hRow = (List.range p.1.toNat).map fun k => ((.inr (hN a k) : Key), D.tup [.int p.2, .non]) := by
  unfold seg
  rw [List.map_map]
  rfl
theorem rng_eq (i : Int) (h : 0 ≤ i) : rangeD 0 i.toNat = (List.range i.toNat).map fun k => D.int (k : Nat) := by
  unfold rangeD
  refine List.map_congr_left fun k _ => ?_
  rw [Int.zero_add]
theorem out_rows {d x y : D} (cs : Cells) : ∀ (ss : List Srt) (a : Nat) (acc : List (Key × D)) (s4 s5 s6 s7 : Slot), Dr ss → a + ss.length ≤ 3 → ((acc ++ (hsOf a ss).map hRow).map (·.1)).Nodup → acc.length + 4 * ss.length ≤ 100 → ∃ s4' s5' s6' s7',
    EL.forM (fun z => (mTg (.tup [(.name 4), (.tup [(.name 6), (.name 7)])]) z).bind fun _ => bodyO) (enumD a (ss.map pr)) [.fz d, .fz x, .fz y, .ow (.dct acc), s4, s5, s6, s7] cs =
      .ok .nx [.fz d, .fz x, .fz y, .ow (.dct (acc ++ (hsOf a ss).map hRow)), s4', s5', s6', s7'] cs
  | [], a, acc, s4, s5, s6, s7, _, _, _, _ => ⟨s4, s5, s6, s7, by show _ = R.ok Fl.nx [_, _, _, .ow (.dct (acc ++ [])), _, _, _, _] cs; rw [List.append_nil]; rfl⟩
  | p :: ss, a, acc, s4, s5, s6, s7, hd, ha, hn, hl => by
    have h1 := hd p List.mem_cons_self
    rw [List.length_cons] at ha hl
    have eh : (hsOf a (p :: ss)).map hRow = (seg a p).map hRow ++ (hsOf (a + 1) ss).map hRow := List.map_append
    rw [eh, ← List.append_assoc] at hn
    have sl : ((seg a p).map hRow).length = p.1.toNat := by rw [seg_row]; simp
    have hn1 : ((acc ++ (seg a p).map hRow).map (·.1)).Nodup := by
      rw [List.map_append, List.nodup_append] at hn
      exact hn.1
    rw [seg_row] at hn1
    obtain ⟨s5', h2⟩ := in_rows (d := d) (x := x) (y := y) (r := .int p.2) (a := a) (s6 := .fz (.int p.1)) cs (by omega) (List.range p.1.toNat) acc s5 (fun k hk => by have := List.mem_range.mp hk; omega) hn1 (by rw [List.length_range]; omega)
    have hr : (-1000000 : Int) ≤ p.1 ∧ p.1 ≤ 1000000 := by omega
    have hre := rng_eq p.1 h1.1
    have one : M.bind (mTg (.tup [(.name 4), (.tup [(.name 6), (.name 7)])]) (.tup [.int (a : Nat), pr p])) (fun _ => bodyO) [.fz d, .fz x, .fz y, .ow (.dct acc), s4, s5, s6, s7] cs =
        .ok .nx [.fz d, .fz x, .fz y, .ow (.dct (acc ++ (seg a p).map hRow)), .fz (.int (a : Nat)), s5', .fz (.int p.1), .fz (.int p.2)] cs := by
      rw [seg_row]
      simp [pr, hr, hre, h2]
    obtain ⟨t4, t5, t6, t7, ih⟩ := out_rows (d := d) (x := x) (y := y) cs ss (a + 1) (acc ++ (seg a p).map hRow) (.fz (.int (a : Nat))) s5' (.fz (.int p.1)) (.fz (.int p.2)) (fun q hq => hd q (List.mem_cons_of_mem _ hq)) (by omega) hn (by rw [List.length_append, sl]; omega)
    refine ⟨t4, t5, t6, t7, ?_⟩
    show M.bind (M.bind (mTg _ _) fun _ => bodyO) _ _ cs = _
    rw [ap_bind, one]
    simp only []
    rw [ih, eh, List.append_assoc]
theorem prs_map {α : Type} {f : α → Str} {h : α → D} : ∀ l : List α, prsD (l.map fun x => .tup [.str (f x), h x]) = some (l.map fun x => (.inr (f x), h x))
  | [] => rfl
  | x :: l => by
    show (keyD (.str (f x))).bind (fun kk => (prsD (l.map fun x => .tup [.str (f x), h x])).map fun kvs => (kk, h x) :: kvs) = _
    rw [prs_map l]
    rfl
theorem r_law_house {ss : List Srt} {m : Nat} {c : Int} (cs : Cells) (hd : Dr ss) (hl : ss.length ≤ 3) (h1 : hsOf 0 ss ≠ []) (h7 : (hsOf 0 ss).length ≤ 7) (hm : m ≤ 8) (hc1 : 1 ≤ c) (hc4 : c ≤ 4) :
    ∃ ds, ph__law_house [.lst (ss.map pr), .int (m : Nat), .int c] cs = .ok (houseD (hsOf 0 ss) (tsOf m c) ds) true cs := by
  have O := hs_ok (m := m) (c := c) hl hd h1 h7 hm hc1 hc4
  obtain ⟨ds, hH⟩ := r_House cs O
  refine ⟨ds, ?_⟩
  have hk : ((([] : List (Key × D)) ++ (hsOf 0 ss).map hRow).map (·.1)).Nodup := by
    rw [List.nil_append, List.map_map]
    exact O.h.key
  obtain ⟨t4, t5, t6, t7, h2⟩ := out_rows (d := .lst (ss.map pr)) (x := .int (m : Nat)) (y := .int c) cs ss 0 [] .no .no .no .no hd (by omega) hk (by simp; omega)
  rw [List.nil_append] at h2
  have hr : (-1000000 : Int) ≤ m ∧ (m : Int) ≤ 1000000 := by omega
  have key : ∀ s3 s4 s6 s7, compM (turnM [5] (.name 5) (M.pure true) (mZ (mTup (mCons (mZ (mOp2 (dr2 opAdd) (M.pure (.str (Str.ofString "t"))) (mZ (mOpN (drN fStr) (mCons (mPeek 5) (M.pure [])))))) (mCons (mVar 2) (M.pure [])))))) ((List.range m).map fun k => D.int (k : Nat)) [.fz (.lst (ss.map pr)), .fz (.int (m : Nat)), .fz (.int c), s3, s4, .no, s6, s7] cs =
      .ok ((List.range m).map fun k => D.tup [.str (tN k), .int c]) [.fz (.lst (ss.map pr)), .fz (.int (m : Nat)), .fz (.int c), s3, s4, .no, s6, s7] cs := fun s3 s4 s6 s7 =>
    compM_map _ fun k hk => by
      have hk := List.mem_range.mp hk
      have a1 := str_k (k := k) (by omega)
      have a2 := add_t (k := k) (by omega)
      simp [-opAdd, -fStr, a1, a2]
  have hp := prs_map (f := tN) (h := fun _ => D.int c) (List.range m)
  have hmg : mergeD [] ((List.range m).map fun k => ((.inr (tN k) : Key), D.int c)) = (tsOf m c).map tRow := by
    have e : (List.range m).map (fun k => ((.inr (tN k) : Key), D.int c)) = (tsOf m c).map tRow := by
      unfold tsOf
      rw [List.map_map]
      rfl
    rw [e, mergeD_new]
    · rfl
    · rw [List.nil_append, List.map_map]
      exact O.t.key
  have hdd : orN fDictP fDictD [.lst ((List.range m).map fun k => D.tup [.str (tN k), .int c])] = some (.dct ((tsOf m c).map tRow), true) := by
    refine orN_l ?_
    show (prsD _).map (fun kvs => (D.dct (mergeD [] kvs), true)) = _
    rw [hp]
    simp only [Option.map_some, hmg]
  have hre := rng_eq (m : Int) (by omega)
  have hm' : ((m : Int)).toNat = m := by omega
  rw [hm'] at hre
  have hz : ss.length ≤ sizeLine := by have := e0; omega
  rcases t5 with _ | d5 | d5 <;> simp [-orN, -opAdd, -fStr, ph__law_house, m__law_house, mPairs, mDict, mergeD, hz, h2, hr, hre, key, hdd, hH]
end K81
namespace K81
open PySem PySem.Spec L2 EL
theorem in_small {i : Int} (h0 : 0 ≤ i) (h1 : i < 2 ^ 250) : In i := by
  refine ⟨h0, ?_⟩
  have : (2 : Int) ^ 250 < BB := by unfold BB; decide +kernel
  omega
theorem rng0 (k : Nat) : rangeD 0 k = (List.range k).map fun j => D.int (j : Nat) := by
  unfold rangeD
  refine List.map_congr_left fun j _ => ?_
  rw [Int.zero_add]
theorem r_drawn {cs : Cells} {n : Nat} (h : Pot cs n) : ∃ (ss : List Srt) (cs' : Cells), ph__law_drawn_sorts [.cell n, .int 4, .int 6] cs = .ok (.lst (ss.map pr)) true cs' ∧ 1 ≤ ss.length ∧ ss.length ≤ 3 ∧ Dr ss ∧ Pot cs' n := by
  obtain ⟨d, cs1, e1, d0, d1, h1⟩ := r_draw (s := 3) h (by omega) (in_small (by omega) (by omega)).2
  obtain ⟨xs, cs2, e, hl, hP, hI⟩ := compM_inv (turn := turnM [3] (.name 3) (M.pure true) (mZ (mTup (mCons (mZ (mCall ph__law_draw [.p 0, .p 1] (mCons (mVar 0) (mCons (mZ (mOp2 (dr2 opAdd) (mPeek 1) (M.pure (.int 1)))) (M.pure []))) (M.pure []))) (mCons (mZ (mCall ph__law_draw [.p 0, .p 1] (mCons (mVar 0) (mCons (mZ (mOp2 (dr2 opAdd) (mPeek 2) (M.pure (.int 1)))) (M.pure []))) (M.pure []))) (M.pure []))))))
    (env := [.fz (.cell n), .fz (.int 4), .fz (.int 6), .no]) (I := fun cs => Pot cs n) (P := fun x => ∃ p : Srt, x = pr p ∧ (0 ≤ p.1 ∧ p.1 ≤ 4 ∧ 0 ≤ p.2 ∧ p.2 ≤ 6)) (rangeD 0 (1 + d).toNat) cs1 h1 fun z hz cs0 h0 => by
      obtain ⟨i, cs2, e2, a1, a2, h2⟩ := r_draw (s := 5) h0 (by omega) (in_small (by omega) (by omega)).2
      obtain ⟨j, cs3, e3, b1, b2, h3⟩ := r_draw (s := 7) h2 (by omega) (in_small (by omega) (by omega)).2
      refine ⟨pr (i, j), cs3, ?_, ⟨(i, j), rfl, a1, by show i ≤ 4; omega, b1, by show j ≤ 6; omega⟩, h3⟩
      simp [e2, e3, pr]
  obtain ⟨ss, rfl, hl2, hS⟩ := list_of hP
  have hlen : ss.length = (1 + d).toNat := by rw [hl2, hl]; simp [rangeD]
  refine ⟨ss, cs2, ?_, by omega, by omega, hS, hI⟩
  have hr : (-1000000 : Int) ≤ 1 + d ∧ 1 + d ≤ 1000000 := by omega
  simp [ph__law_drawn_sorts, m__law_drawn_sorts, e1, hr, e]
def fitsB (ss : List Srt) (m c : Int) : Bool := decide (m * c ≤ car ss m)
theorem Dr.oks {ss : List Srt} (h : Dr ss) : Oks ss := fun p hp => by
  have := h p hp
  exact ⟨in_small (by omega) (by omega), in_small (by omega) (by omega)⟩
theorem Dr.nn {ss : List Srt} (h : Dr ss) : Nn ss := fun p hp => by have := h p hp; omega
theorem car_rev (ss : List Srt) (m : Int) : car ss.reverse m = car ss m := sum_perm ((List.reverse_perm ss).map _)
theorem Dr.rev {ss : List Srt} (h : Dr ss) : Dr ss.reverse := fun p hp => h p (List.mem_reverse.mp hp)
theorem r_fit {ss : List Srt} {d : D} {m c : Int} (cs : Cells) (hq : Sq d ss) (hd : Dr ss) (h1 : 1 ≤ ss.length) (h2 : ss.length ≤ 3) (hm0 : 0 ≤ m) (hm1 : m ≤ 100) (hc : 1 ≤ c) (hc' : c ≤ 100) : ph_do_fit [d, .int m, .int c] cs = .ok (.bl (fitsB ss m c)) false cs :=
  r_do_fit cs hq hd.oks h1 h2 (in_small hm0 (by omega)) hc (in_small (by omega) (by omega))
theorem repr3 (b : Bool) : ∃ x, reprD (.lst [.bl b, .bl b, .bl b]) = some (.str x, false) := by
  cases b <;> exact ⟨_, rfl⟩
def due (ss : List Srt) (c : Int) : List Bool := (List.range 30).map fun j => fitsB ss (j : Nat) c
theorem r_due {ss : List Srt} {c : Nat} {s0 s3 : Slot} {r : List Slot} (cs : Cells) (hd : Dr ss) (h2 : ss.length ≤ 3) (hc : 1 ≤ c) :
    compM (turnM [5] (.name 5) (M.pure true) (mZ (mCall ph__law_put [.p 0, .p 1, .p 2] (mCons (mVar 1) (mCons (mVar 5) (mCons (mVar 2) (M.pure [])))) (M.pure [])))) ((List.range 30).map fun j => D.int (j : Nat)) (s0 :: .fz (.lst (ss.map pr)) :: .fz (.int (c : Nat)) :: s3 :: .no :: .no :: r) cs =
      .ok ((due ss c).map .bl) (s0 :: .fz (.lst (ss.map pr)) :: .fz (.int (c : Nat)) :: s3 :: .no :: .no :: r) cs := by
  unfold due
  rw [List.map_map]
  exact compM_map _ fun j hj => by
    have := r_put (m := j) (c := c) cs hd.fw h2 hc (by have := List.mem_range.mp hj; omega)
    simp [this, fitsB]
theorem len_exp {ss : List Srt} (hd : Dr ss) : ((expand ss).length : Int) = (ss.map (·.1)).sum := by
  induction ss with
  | nil => rfl
  | cons p ss ih =>
    have h1 := hd p List.mem_cons_self
    have h2 := ih fun q hq => hd q (List.mem_cons_of_mem _ hq)
    rw [expand_cons, List.length_append, List.length_replicate, List.map_cons, List.sum_cons, Int.natCast_add, h2]
    omega
theorem len_hs (ss : List Srt) : (hsOf 0 ss).length = (expand ss).length := by
  have := congrArg List.length (rooms_of ss 0)
  rw [List.length_map] at this
  exact this
theorem r_out {ss : List Srt} {m c : Nat} (cs : Cells) (hd : Dr ss) (hl : ss.length ≤ 3) (h0 : 0 < (ss.map (·.1)).sum) (h8 : (ss.map (·.1)).sum < 8) (hm : m < 9) (hc : 1 ≤ c) (hc5 : c < 5) :
    ∃ h ds, ph__law_house [.lst (ss.map pr), .int (m : Nat), .int (c : Nat)] cs = .ok h ds cs ∧ ph_can_be_out [h, .lst []] cs = .ok (.bl (fitsB ss m c)) false cs := by
  have e1 := len_exp hd
  have e2 := len_hs ss
  have hne : hsOf 0 ss ≠ [] := fun z => by
    rw [z] at e2
    simp at e2
    omega
  obtain ⟨ds, hH⟩ := r_law_house (m := m) (c := (c : Nat)) cs hd hl hne (by omega) (by omega) (by omega) (by omega)
  have O := hs_ok (m := m) (c := (c : Nat)) hl hd hne (by omega) (by omega) (by omega) (by omega)
  obtain ⟨ns, hp, hC⟩ := r_can (ds := ds) cs O
  refine ⟨_, _, hH, ?_⟩
  rw [hC, can_iff (m := m) (c := (c : Nat)) O hp (fun p hp => by
    obtain ⟨k, _, rfl⟩ := List.mem_map.mp hp
    rfl) (by unfold tsOf; simp), rooms_of, caL_expand hd.fw]
  rfl
end K81
namespace K81
open PySem PySem.Spec L2 EL
@[simp] theorem ap_repr {m : M D} {e : EL.Env} {c : Cells} : mRepr m e c = M.bind m (fun a => mCs fun cs => (dr cs a).bind reprD) e c := rfl
noncomputable abbrev bodyL : M Fl := (mSeq (mSet 7 (mLst (mCons (mZ (mCall ph_do_fit [.p 0, .p 1, .p 2] (mCons (mVar 1) (mCons (mVar 5) (mCons (mVar 2) (M.pure [])))) (M.pure []))) (M.pure []))))
    (mSeq (mAppend 7 (mZ (mCall ph_do_fit [.k 2, .k 1, .k 0] (M.pure []) (mCons (mVar 2) (mCons (mVar 5) (mCons (mZ (mOpN (drN (orN fTuple fTupD)) (mCons (mPeek 1) (M.pure [])))) (M.pure [])))))))
    (mSeq (mAppend 7 (mZ (mCall ph_do_fit [.p 0, .p 1, .p 2] (mCons (mZ (mOp1 fRev (mPeek 1))) (mCons (mVar 5) (mCons (mVar 2) (M.pure [])))) (M.pure []))))
    (mSeq (mIf (mBl (mOp2 (dr2 opNe) (mZ (mRepr (mPeek 7))) (mZ (mRepr (mZ (mOp2 (dr2 opMul) (mZ (mLst (mCons (mZ (mOp2 (dr2 opItem) (mPeek 4) (mPeek 5))) (M.pure [])))) (M.pure (.int 3)))))))) (mSeq (mRet (mE (M.pure (.bl false))))
    (M.pure .nx)) (M.pure .nx))
    (mSeq (mIf (mAnd (mBl (mChain (dr2 opLt) (dr2 opLt) (M.pure (.int 0)) (mPeek 3) (M.pure (.int 8)))) (mAnd (mBl (mOp2 (dr2 opLt) (mPeek 5) (M.pure (.int 9)))) (mBl (mOp2 (dr2 opLt) (mPeek 2) (M.pure (.int 5)))))) (mSeq (mIf (mBl (mOp2 (dr2 opNe) (mZ (mCall ph_can_be_out [.p 0, .p 1] (mCons (mZ (mCall ph__law_house [.p 0, .p 1, .p 2] (mCons (mVar 1) (mCons (mVar 5) (mCons (mVar 2) (M.pure [])))) (M.pure []))) (mCons (mZ (mLst (M.pure []))) (M.pure []))) (M.pure []))) (mZ (mOp2 (dr2 opItem) (mPeek 4) (mPeek 5))))) (mSeq (mRet (mE (M.pure (.bl false))))
    (M.pure .nx)) (M.pure .nx))
    (M.pure .nx)) (M.pure .nx))
    (M.pure .nx))))))
theorem due_at {ss : List Srt} {c : Int} {j : Nat} (h : j < 30) : atI ((due ss c).map D.bl) (j : Int) = some (.bl (fitsB ss (j : Nat) c)) := by
  unfold L2.atI ixN
  have hl : ((due ss c).map D.bl).length = 30 := by simp [due]
  rw [hl, if_pos (by omega), if_pos (by omega)]
  show ((due ss c).map D.bl)[((j : Int)).toNat]? = _
  have : ((j : Int)).toNat = j := by omega
  rw [this]
  simp [due, h]
set_option maxHeartbeats 0 in
theorem loop_turn {ss : List Srt} {c j : Nat} {x : D} {s5 s7 : Slot} (cs : Cells) (hd : Dr ss) (h1 : 1 ≤ ss.length) (h2 : ss.length ≤ 3) (hc : 1 ≤ c) (hc' : c ≤ 100) (hj : j < 12) : ∃ s7',
    M.bind (mTg (.name 5) (.int (j : Nat))) (fun _ => bodyL) [.fz x, .fz (.lst (ss.map pr)), .fz (.int (c : Nat)), .fz (.int (ss.map (·.1)).sum), .ow (.lst ((due ss c).map .bl)), s5, .no, s7, .no, .no, .no, .no] cs =
      .ok .nx [.fz x, .fz (.lst (ss.map pr)), .fz (.int (c : Nat)), .fz (.int (ss.map (·.1)).sum), .ow (.lst ((due ss c).map .bl)), .fz (.int (j : Nat)), .no, s7', .no, .no, .no, .no] cs := by
  have a1 := r_fit (m := (j : Nat)) (c := (c : Nat)) cs (.inl rfl) hd h1 h2 (by omega) (by omega) (by omega) (by omega)
  have a2 := r_fit (d := .tup (ss.map pr)) (m := (j : Nat)) (c := (c : Nat)) cs (.inr rfl) hd h1 h2 (by omega) (by omega) (by omega) (by omega)
  have a3 := r_fit (d := .lst (ss.map pr).reverse) (m := (j : Nat)) (c := (c : Nat)) cs (.inl (by rw [List.map_reverse])) hd.rev (by rw [List.length_reverse]; exact h1) (by rw [List.length_reverse]; exact h2) (by omega) (by omega) (by omega) (by omega)
  have a3' : fitsB ss.reverse (j : Nat) (c : Nat) = fitsB ss (j : Nat) (c : Nat) := by unfold fitsB; rw [car_rev]
  rw [a3'] at a3
  have hat := due_at (ss := ss) (c := (c : Nat)) (j := j) (by omega)
  obtain ⟨t, hr⟩ := repr3 (fitsB ss (j : Nat) (c : Nat))
  have z1 : 1 ≤ sizeLine := by have := e0; omega
  have z2 : 2 ≤ sizeLine := by have := e0; omega
  have z3 : 3 ≤ sizeLine := by have := e0; omega
  have z4 : 1 < sizeLine := by have := e0; omega
  have z5 : 2 < sizeLine := by have := e0; omega
  have z6 : 0 < sizeLine := by have := e0; omega
  have rp : (List.replicate 3 [D.bl (fitsB ss (j : Nat) (c : Nat))]).flatten = [.bl (fitsB ss (j : Nat) (c : Nat)), .bl (fitsB ss (j : Nat) (c : Nat)), .bl (fitsB ss (j : Nat) (c : Nat))] := rfl
  have et : orN fTuple fTupD [.lst (ss.map pr)] = some (.tup (ss.map pr), false) := rfl
  generalize hb : fitsB ss (j : Nat) (c : Nat) = b at *
  refine ⟨.ow (.lst [.bl b, .bl b, .bl b]), ?_⟩
  by_cases hcond : 0 < (ss.map (·.1)).sum ∧ (ss.map (·.1)).sum < 8 ∧ (j : Int) < 9 ∧ (c : Int) < 5
  · obtain ⟨c1, c2, c3, c4⟩ := hcond
    obtain ⟨h, ds, hH, hC⟩ := r_out (m := j) (c := c) cs hd h2 c1 c2 (by omega) hc (by omega)
    rw [hb] at hC
    simp [-orN, a1, a2, a3, hat, hr, et, z1, z2, z3, z4, z5, z6, rp, eqD, c1, c2, c3, c4, hH, hC]
  · by_cases d1 : 0 < (ss.map (·.1)).sum
    · by_cases d2 : (ss.map (·.1)).sum < 8
      · by_cases d3 : (j : Int) < 9
        · have d4 : ¬ (c : Int) < 5 := fun z => hcond ⟨d1, d2, d3, z⟩
          simp [-orN, a1, a2, a3, hat, hr, et, z1, z2, z3, z4, z5, z6, rp, eqD, d1, d2, d3, d4]
        · simp [-orN, a1, a2, a3, hat, hr, et, z1, z2, z3, z4, z5, z6, rp, eqD, d1, d2, d3]
      · simp [-orN, a1, a2, a3, hat, hr, et, z1, z2, z3, z4, z5, z6, rp, eqD, d1, d2]
    · simp [-orN, a1, a2, a3, hat, hr, et, z1, z2, z3, z4, z5, z6, rp, eqD, d1]
end K81
namespace K81
open PySem PySem.Spec L2 EL
theorem in_bs (bs : List Bool) : (inL (.bl false) (bs.map .bl) = some false ∧ ∀ (i : Nat) b, bs[i]? = some b → b = true) ∨ ∃ j, bs[j]? = some false ∧ (∀ i, i < j → bs[i]? = some true) ∧ inL (.bl false) (bs.map .bl) = some true ∧ idxV (.bl false) (bs.map V.bl) = some j := by
  induction bs with
  | nil => exact .inl ⟨rfl, fun i b e => by simp at e⟩
  | cons b bs ih =>
    have e1 : inL (.bl false) ((b :: bs).map .bl) = (inL (.bl false) (bs.map .bl)).map fun r => (b == false) || r := rfl
    have e2 : idxV (.bl false) ((b :: bs).map V.bl) = if (b == false) = true then some 0 else (idxV (.bl false) (bs.map V.bl)).map (· + 1) := rfl
    cases b with
    | false =>
      refine .inr ⟨0, rfl, fun i hi => absurd hi (by omega), ?_, ?_⟩
      · rw [e1]
        rcases ih with ⟨h, _⟩ | ⟨j, _, _, h, _⟩ <;> rw [h] <;> rfl
      · rw [e2]; rfl
    | true =>
      rcases ih with ⟨h, k⟩ | ⟨j, h1, h2, h3, h4⟩
      · refine .inl ⟨by rw [e1, h]; rfl, fun i b e => ?_⟩
        cases i with
        | zero => simpa using e.symm
        | succ i => exact k i b (by simpa using e)
      · refine .inr ⟨j + 1, by simpa using h1, fun i hi => ?_, by rw [e1, h3]; rfl, by rw [e2, h4]; rfl⟩
        cases i with
        | zero => rfl
        | succ i =>
          have := h2 i (by omega)
          simpa using this
theorem flVs_bl (bs : List Bool) : flVs (bs.map .bl) = some (bs.map V.bl) := by
  induction bs with
  | nil => rfl
  | cons b bs ih =>
    show (flV (.bl b)).bind (fun v => (flVs (bs.map .bl)).map fun vs => v :: vs) = _
    rw [ih]
    rfl
theorem repr2 : ∀ j : Nat, j < 30 → ∃ x, reprD (.lst [.int ((j : Int)), .int ((j : Int))]) = some (.str x, false) := fun j hj => by
  have h : ∀ j : Nat, j < 30 → (PyData.showable (.list [.int (j : Int), .int (j : Int)]) && decide ((PyData.list [.int (j : Int), .int (j : Int)]).depth ≤ 40) && decide ((PyData.list [.int (j : Int), .int (j : Int)]).shown.length ≤ sizeLine)) = true := by decide +kernel
  have hp : pD (.lst [.int (j : Int), .int (j : Int)]) = some (.list [.int (j : Int), .int (j : Int)]) := by simp only [pD, pDs, Option.map_some, Option.bind_some]
  unfold reprD
  rw [hp]
  simp only [Option.bind_some, h j hj, if_true]
  exact ⟨_, rfl⟩
theorem r_most {ss : List Srt} {d : D} {c : Int} (cs : Cells) (hq : Sq d ss) (hd : Oks ss) (h1 : 1 ≤ ss.length) (h2 : ss.length ≤ 3) (hc : 1 ≤ c) (hc' : c ≤ 100) : ph_most_things [d, .int c] cs = .ok (.int (mostFit ss c)) false cs := by
  have hn : Nn ss := fun p hp => ⟨(hd p hp).1.1, (hd p hp).2.1⟩
  have hw := wide_lt hn hc
  have hw0 := wide_nonneg hn (lowOf ss c)
  exact r_most_things cs hq hd h1 h2 hc (in_small (by omega) (by omega)) (by omega) (in_small (i := c - wideOf ss (lowOf ss c)) (by omega) (by omega)).2
theorem most_of_due {ss : List Srt} {c : Int} {j : Nat} (hn : Nn ss) (hc : 1 ≤ c) (h1 : (due ss c)[j]? = some false) (h2 : ∀ i, i < j → (due ss c)[i]? = some true) : ∃ i : Nat, j = i + 1 ∧ i < 30 ∧ mostFit ss c = i := by
  have at_ : ∀ i b, (due ss c)[i]? = some b → i < 30 ∧ b = fitsB ss (i : Nat) c := fun i b e => by
    unfold due at e
    rw [List.getElem?_map] at e
    cases q : (List.range 30)[i]? with
    | none => rw [q] at e; cases e
    | some k =>
      rw [q] at e
      have hi := (List.getElem?_eq_some_iff.mp q).1
      rw [List.length_range] at hi
      rw [List.getElem?_range hi] at q
      cases q
      exact ⟨hi, (Option.some.inj e).symm⟩
  obtain ⟨hj, e⟩ := at_ j false h1
  have nf : ¬ Fits ss (j : Nat) c := by
    intro z
    have : fitsB ss (j : Nat) c = true := decide_eq_true z
    rw [← e] at this
    cases this
  cases j with
  | zero =>
    exfalso
    apply nf
    unfold Fits
    rw [show ((0 : Nat) : Int) = 0 from rfl, car_zero hn]
    omega
  | succ i =>
    obtain ⟨hi, e2⟩ := at_ i true (h2 i (by omega))
    have yf : Fits ss (i : Nat) c := by
      have e3 : decide ((i : Int) * c ≤ car ss i) = true := e2.symm
      show (i : Int) * c ≤ car ss i
      exact of_decide_eq_true e3
    refine ⟨i, rfl, hi, Most.eq hn (most_fit hn hc) ⟨by omega, yf, ?_⟩⟩
    have : ((i + 1 : Nat) : Int) = (i : Int) + 1 := rfl
    rw [← this]
    exact nf
theorem Most.car {ss ss' : List Srt} {c x : Int} (h : ∀ m, car ss' m = car ss m) (k : Most ss c x) : Most ss' c x := by
  unfold Most Fits at *
  rw [h, h]
  exact k
theorem most_same {ss ss' : List Srt} {c : Int} (hn : Nn ss) (hn' : Nn ss') (hc : 1 ≤ c) (h : ∀ m, car ss' m = car ss m) : mostFit ss' c = mostFit ss c :=
  Most.eq hn' (most_fit hn' hc) ((most_fit hn hc).car h)
noncomputable abbrev tailB : M Fl := (mSeq (mIf (mBl (mOp2 (dr2 opLt) (mZ (mOpN (drN (orN fLen fLenD)) (mCons (mPeek 1) (M.pure [])))) (M.pure (.int 3)))) (mSeq (mSetT (mZ (mOp2 (dr2 opItem) (mPeek 1) (M.pure (.int 0)))) (.tup [(.name 3), (.name 10)]))
    (mSeq (mSet 8 (mCall ph__law_draw [.p 0, .p 1] (mCons (mVar 0) (mCons (mZ (mOp2 (dr2 opAdd) (mPeek 3) (M.pure (.int 1)))) (M.pure []))) (M.pure [])))
    (mSeq (mSet 9 (mOp2 (dr2 opAdd) (mZ (mLst (mCons (mZ (mTup (mCons (mVar 8) (mCons (mVar 10) (M.pure []))))) (mCons (mZ (mTup (mCons (mZ (mOp2 (dr2 opSub) (mPeek 3) (mPeek 8))) (mCons (mVar 10) (M.pure []))))) (M.pure []))))) (mZ (mSlice (mPeek 1) (mPart (M.pure (.int 1))) (M.pure none)))))
    (mSeq (mRet (mOp2 (dr2 opEq) (mZ (mCall ph_most_things [.p 0, .p 1] (mCons (mVar 9) (mCons (mVar 2) (M.pure []))) (M.pure []))) (mZ (mCall ph_most_things [.p 0, .p 1] (mCons (mVar 1) (mCons (mVar 2) (M.pure []))) (M.pure [])))))
    (M.pure .nx))))) (M.pure .nx))
    (mSeq (mRet (mE (M.pure (.bl true))))
    (M.pure .nx)))
theorem tail_ok {ss : List Srt} {c n : Nat} {s3 s4 s5 s6 s7 : Slot} {cs : Cells} (hp : Pot cs n) (hd : Dr ss) (h1 : 1 ≤ ss.length) (h2 : ss.length ≤ 3) (hc : 1 ≤ c) (hc' : c ≤ 100) : ∃ env' cs',
    tailB [.fz (.cell n), .fz (.lst (ss.map pr)), .fz (.int (c : Nat)), s3, s4, s5, s6, s7, .no, .no, .no, .no] cs = .ok (.rt (.bl true) false) env' cs' := by
  by_cases h3 : ss.length < 3
  · obtain ⟨p, r, rfl⟩ := List.exists_cons_of_ne_nil (l := ss) fun e => by rw [e] at h1; simp at h1
    have hp1 := hd p List.mem_cons_self
    obtain ⟨d, cs1, e1, d0, d1, k1⟩ := r_draw (s := p.1 + 1) hp (by omega) (in_small (by omega) (by omega)).2
    have hr : Dr r := fun q hq => hd q (List.mem_cons_of_mem _ hq)
    have hdp : Dr ((d, p.2) :: (p.1 - d, p.2) :: r) := fun q hq => by
      rcases List.mem_cons.mp hq with rfl | hq
      · exact ⟨d0, by show d ≤ 4; omega, hp1.2.2⟩
      · rcases List.mem_cons.mp hq with rfl | hq
        · exact ⟨by show 0 ≤ p.1 - d; omega, by show p.1 - d ≤ 4; omega, hp1.2.2⟩
        · exact hr q hq
    have m1 := r_most (c := (c : Nat)) cs1 (.inl rfl) hd.oks h1 h2 (by omega) (by omega)
    have m2 := r_most (ss := (d, p.2) :: (p.1 - d, p.2) :: r) (c := (c : Nat)) cs1 (.inl rfl) hdp.oks (by simp) (by simp only [List.length_cons] at h3 ⊢; omega) (by omega) (by omega)
    have hcar : ∀ m, car ((d, p.2) :: (p.1 - d, p.2) :: r) m = car (p :: r) m := fun m => by
      rw [car_cons, car_cons, car_cons]
      show d * mn p.2 m + ((p.1 - d) * mn p.2 m + car r m) = _
      rw [Int.sub_mul]
      omega
    rw [most_same hd.nn hdp.nn (by omega) hcar] at m2
    have hl : (r.length + 1 : Int) < 3 := by
      rw [List.length_cons] at h3
      omega
    have z : 2 + r.length ≤ sizeLine := by
      have := e0
      rw [List.length_cons] at h3
      omega
    have cd : cutD (pr p :: r.map pr) (some 1) none = r.map pr := cut_drop (ds := pr p :: r.map pr) (k := 1) (by simp)
    have at0 : atI (pr p :: r.map pr) 0 = some (pr p) := by
      unfold L2.atI ixN
      rw [if_pos (by omega), if_pos (by simp)]
      rfl
    simp only [List.map_cons] at m1 m2
    have pe : ∀ a b : Int, pr (a, b) = .tup [.int a, .int b] := fun _ _ => rfl
    have pp : pr p = .tup [.int p.1, .int p.2] := rfl
    rw [pe, pe] at m2
    rw [pp] at m1 cd at0
    refine ⟨[.fz (.cell n), .fz (.lst ((p :: r).map pr)), .fz (.int (c : Nat)), .fz (.int p.1), s4, s5, s6, s7, .fz (.int d), .fz (.lst (.tup [.int d, .int p.2] :: .tup [.int (p.1 - d), .int p.2] :: r.map pr)), .fz (.int p.2), .no], cs1, ?_⟩
    simp only [List.map_cons, pp]
    simp [fLen, orN_l, hl, at0, e1, cd, z, m1, m2, eqD]
  · have hl : ¬ (ss.length : Int) < 3 := by omega
    refine ⟨[.fz (.cell n), .fz (.lst (ss.map pr)), .fz (.int (c : Nat)), s3, s4, s5, s6, s7, .no, .no, .no, .no], cs, ?_⟩
    simp [fLen, hl]
end K81
namespace K81
open PySem PySem.Spec L2 EL
theorem seq_nx {m m' : M Fl} {e e' : EL.Env} {c c' : Cells} (h : m e c = .ok .nx e' c') : mSeq m m' e c = m' e' c' := by rw [ap_seq, h]
noncomputable abbrev midI : M Fl := (mIf (mBl (mOp2 (dr2 (isF true)) (mPeek 6) (M.pure .non))) (mSeq (mSet 7 (mLst (mCons (mZ (mCall ph_most_things [.p 0, .p 1] (mCons (mVar 1) (mCons (mVar 2) (M.pure []))) (M.pure []))) (mCons (mZ (mCall ph_most_things [.k 1, .k 0] (M.pure []) (mCons (mVar 2) (mCons (mZ (mOp1 fRev (mPeek 1))) (M.pure []))))) (M.pure [])))))
    (mSeq (mIf (mBl (mOp2 (dr2 opNe) (mZ (mRepr (mPeek 7))) (mZ (mRepr (mZ (mLst (mCons (mVar 6) (mCons (mVar 6) (M.pure []))))))))) (mSeq (mRet (mE (M.pure (.bl false))))
    (M.pure .nx)) (M.pure .nx))
    (M.pure .nx))) (M.pure .nx))
noncomputable abbrev midS : M Fl := (mSet 6 (mIf (mBl (mOp2 (drR (opInA false)) (M.pure (.bl false)) (mPeek 4))) (mOp2 (dr2 opSub) (mZ (mIndex (mPeek 4) (M.pure (.bl false)))) (M.pure (.int 1))) (mE (M.pure .non))))
theorem mid_ok {ss : List Srt} {c : Nat} {x : D} {s3 s5 s7 : Slot} (cs : Cells) (hd : Dr ss) (h1 : 1 ≤ ss.length) (h2 : ss.length ≤ 3) (hc : 1 ≤ c) (hc' : c ≤ 100) : ∃ s6 s7',
    midS [.fz x, .fz (.lst (ss.map pr)), .fz (.int (c : Nat)), s3, .ow (.lst ((due ss c).map .bl)), s5, .no, s7, .no, .no, .no, .no] cs = .ok .nx [.fz x, .fz (.lst (ss.map pr)), .fz (.int (c : Nat)), s3, .ow (.lst ((due ss c).map .bl)), s5, s6, s7, .no, .no, .no, .no] cs ∧
    midI [.fz x, .fz (.lst (ss.map pr)), .fz (.int (c : Nat)), s3, .ow (.lst ((due ss c).map .bl)), s5, s6, s7, .no, .no, .no, .no] cs = .ok .nx [.fz x, .fz (.lst (ss.map pr)), .fz (.int (c : Nat)), s3, .ow (.lst ((due ss c).map .bl)), s5, s6, s7', .no, .no, .no, .no] cs := by
  have hf := flVs_bl (due ss c)
  rcases in_bs (due ss c) with ⟨k1, _⟩ | ⟨j, k1, k2, k3, k4⟩
  · refine ⟨.fz .non, s7, ?_, ?_⟩
    · simp [k1]
    · simp [isF]
  · obtain ⟨i, rfl, hi, hm⟩ := most_of_due hd.nn (by omega) k1 k2
    have m1 := r_most (c := (c : Nat)) cs (.inl rfl) hd.oks h1 h2 (by omega) (by omega)
    have m2 := r_most (d := .lst (ss.map pr).reverse) (ss := ss.reverse) (c := (c : Nat)) cs (.inl (by rw [List.map_reverse])) hd.rev.oks (by rw [List.length_reverse]; exact h1) (by rw [List.length_reverse]; exact h2) (by omega) (by omega)
    rw [most_same hd.nn hd.rev.nn (by omega) (car_rev ss), hm] at m2
    rw [hm] at m1
    obtain ⟨t, hr⟩ := repr2 i hi
    have hfv : flV (.bl false) = some (.bl false) := rfl
    have hs : ((i : Int) + 1) - 1 = i := by omega
    refine ⟨.fz (.int (i : Nat)), .ow (.lst [.int (i : Nat), .int (i : Nat)]), ?_, ?_⟩
    · simp [k3, hf, hfv, k4, hs]
    · simp [isF, m1, m2, hr, eqD]
set_option maxHeartbeats 0 in
theorem r_right {cs : Cells} {n : Nat} (h : Pot cs n) : ∃ cs', ph__law_right [.cell n] cs = .ok (.bl true) false cs' := by
  obtain ⟨ss, cs1, e1, h1, h2, hd, hp1⟩ := r_drawn h
  obtain ⟨d, cs2, e2, d0, d1, hp2⟩ := r_draw (s := 5) hp1 (by omega) (in_small (by omega) (by omega)).2
  obtain ⟨c, rfl⟩ : ∃ c : Nat, d = (c : Int) - 1 := ⟨(d + 1).toNat, by omega⟩
  have hc1 : 1 ≤ c := by omega
  have hc5 : c ≤ 5 := by omega
  have s1 : (mSet 1 (mCall ph__law_drawn_sorts [.p 0, .p 1, .p 2] (mCons (mVar 0) (mCons (M.pure (.int 4)) (mCons (M.pure (.int 6)) (M.pure [])))) (M.pure []))) [.fz (.cell n), .no, .no, .no, .no, .no, .no, .no, .no, .no, .no, .no] cs =
      .ok .nx [.fz (.cell n), .ow (.lst (ss.map pr)), .no, .no, .no, .no, .no, .no, .no, .no, .no, .no] cs1 := by
    simp [e1]
  have hcc : (1 : Int) + ((c : Int) - 1) = c := by omega
  have s2 : (mSet 2 (mOp2 (dr2 opAdd) (M.pure (.int 1)) (mZ (mCall ph__law_draw [.p 0, .p 1] (mCons (mVar 0) (mCons (M.pure (.int 5)) (M.pure []))) (M.pure []))))) [.fz (.cell n), .ow (.lst (ss.map pr)), .no, .no, .no, .no, .no, .no, .no, .no, .no, .no] cs1 =
      .ok .nx [.fz (.cell n), .ow (.lst (ss.map pr)), .fz (.int (c : Nat)), .no, .no, .no, .no, .no, .no, .no, .no, .no] cs2 := by
    simp [e2, hcc]
  have k3 : compM (turnM [11] (.name 11) (M.pure true) (mZ (mOp2 (dr2 opItem) (mPeek 11) (M.pure (.int 0))))) (ss.map pr) [.fz (.cell n), .fz (.lst (ss.map pr)), .fz (.int (c : Nat)), .no, .no, .no, .no, .no, .no, .no, .no, .no] cs2 =
      .ok (ss.map fun p => D.int p.1) [.fz (.cell n), .fz (.lst (ss.map pr)), .fz (.int (c : Nat)), .no, .no, .no, .no, .no, .no, .no, .no, .no] cs2 :=
    compM_map ss fun p hp => by simp [pr, atI, ixN]
  have i3 := intsD_map (fun p : Srt => p.1) ss
  have s3 : (mSet 3 (mOpN (drN fSum) (mCons (mZ (mComp (mItems (mVar 1)) [11] (.name 11) (M.pure true) (mZ (mOp2 (dr2 opItem) (mPeek 11) (M.pure (.int 0)))))) (M.pure [])))) [.fz (.cell n), .ow (.lst (ss.map pr)), .fz (.int (c : Nat)), .no, .no, .no, .no, .no, .no, .no, .no, .no] cs2 =
      .ok .nx [.fz (.cell n), .fz (.lst (ss.map pr)), .fz (.int (c : Nat)), .fz (.int (ss.map (·.1)).sum), .no, .no, .no, .no, .no, .no, .no, .no] cs2 := by
    simp [k3, i3]
  have k4 := r_due (s0 := .fz (.cell n)) (s3 := .fz (.int (ss.map (·.1)).sum)) (r := [.no, .no, .no, .no, .no, .no]) cs2 hd h2 hc1
  have r30 := rng0 30
  have s4 : (mSet 4 (mComp (mRng1 (mCons (M.pure (.int 30)) (M.pure []))) [5] (.name 5) (M.pure true) (mZ (mCall ph__law_put [.p 0, .p 1, .p 2] (mCons (mVar 1) (mCons (mVar 5) (mCons (mVar 2) (M.pure [])))) (M.pure []))))) [.fz (.cell n), .fz (.lst (ss.map pr)), .fz (.int (c : Nat)), .fz (.int (ss.map (·.1)).sum), .no, .no, .no, .no, .no, .no, .no, .no] cs2 =
      .ok .nx [.fz (.cell n), .fz (.lst (ss.map pr)), .fz (.int (c : Nat)), .fz (.int (ss.map (·.1)).sum), .ow (.lst ((due ss c).map .bl)), .no, .no, .no, .no, .no, .no, .no] cs2 := by
    simp [-List.map_inj_left, r30, k4]
  obtain ⟨env5, cs5, s5, ⟨t5, t7, rfl, rfl⟩⟩ := forM_inv (body := fun d => (mTg (.name 5) d).bind fun _ => bodyL) (I := fun env c2 => ∃ s5 s7, env = [.fz (.cell n), .fz (.lst (ss.map pr)), .fz (.int (c : Nat)), .fz (.int (ss.map (·.1)).sum), .ow (.lst ((due ss c).map .bl)), s5, .no, s7, .no, .no, .no, .no] ∧ c2 = cs2)
    ((List.range 12).map fun j => D.int (j : Nat)) _ cs2 ⟨.no, .no, rfl, rfl⟩ fun z hz env c2 hI => by
      obtain ⟨s5, s7, rfl, rfl⟩ := hI
      obtain ⟨j, hj, rfl⟩ := List.mem_map.mp hz
      obtain ⟨s7', ht⟩ := loop_turn (x := .cell n) (s5 := s5) (s7 := s7) c2 hd h1 h2 hc1 (by omega) (List.mem_range.mp hj)
      exact ⟨_, _, ht, _, _, rfl, rfl⟩
  have r12 := rng0 12
  have s5' : (mFor (mRng1 (mCons (M.pure (.int 12)) (M.pure []))) (.name 5) bodyL) [.fz (.cell n), .fz (.lst (ss.map pr)), .fz (.int (c : Nat)), .fz (.int (ss.map (·.1)).sum), .ow (.lst ((due ss c).map .bl)), .no, .no, .no, .no, .no, .no, .no] cs5 =
      .ok .nx [.fz (.cell n), .fz (.lst (ss.map pr)), .fz (.int (c : Nat)), .fz (.int (ss.map (·.1)).sum), .ow (.lst ((due ss c).map .bl)), t5, .no, t7, .no, .no, .no, .no] cs5 := by
    rw [ap_for, ap_bind]
    have e : mRng1 (mCons (M.pure (.int 12)) (M.pure [])) [.fz (.cell n), .fz (.lst (ss.map pr)), .fz (.int (c : Nat)), .fz (.int (ss.map (·.1)).sum), .ow (.lst ((due ss c).map .bl)), .no, .no, .no, .no, .no, .no, .no] cs5 = .ok (rangeD 0 12) [.fz (.cell n), .fz (.lst (ss.map pr)), .fz (.int (c : Nat)), .fz (.int (ss.map (·.1)).sum), .ow (.lst ((due ss c).map .bl)), .no, .no, .no, .no, .no, .no, .no] cs5 := rfl
    rw [e, r12]
    exact s5
  obtain ⟨u6, u7, s6, s7⟩ := mid_ok (x := .cell n) (s3 := .fz (.int (ss.map (·.1)).sum)) (s5 := t5) (s7 := t7) cs5 hd h1 h2 hc1 (by omega)
  obtain ⟨env8, cs8, s8⟩ := tail_ok (s3 := .fz (.int (ss.map (·.1)).sum)) (s4 := .ow (.lst ((due ss c).map .bl))) (s5 := t5) (s6 := u6) (s7 := u7) hp2 hd h1 h2 hc1 (by omega)
  have hm : m__law_right [.fz (.cell n), .no, .no, .no, .no, .no, .no, .no, .no, .no, .no, .no] cs = .ok (.rt (.bl true) false) env8 cs8 := by
    unfold m__law_right
    rw [seq_nx s1, seq_nx s2, seq_nx s3, seq_nx s4, seq_nx s5', seq_nx s6, seq_nx s7]
    exact s8
  refine ⟨cs8, ?_⟩
  show (match m__law_right [.fz (.cell n), .no, .no, .no, .no, .no, .no, .no, .no, .no, .no, .no] cs with
    | .ok (.rt d fr) _ c => RF.ok d fr c
    | .ok .nx _ c => .ok .non false c
    | .ok _ _ _ => .stuck
    | .exc k fs _ c => .exc k fs c
    | .stuck => .stuck) = _
  rw [hm]
end K81
namespace K81
open PySem PySem.Spec L2 EL
theorem pure_law (ns : List Int) (hn : ns.length ≤ 63) : ∃ cs, ph_law [.lst (ns.map D.int)] [] = .ok (.bl true) false cs := by
  have key : ∀ k : Nat, k ≤ 63 → ∃ xs cs', compM (turnM [1] (.name 1) (M.pure true) (mZ (mCall ph__law_right [.p 0] (mCons (mCell (mCall ph__law_pot [.p 0, .p 1] (mCons (mVar 0) (mCons (mVar 1) (M.pure []))) (M.pure []))) (M.pure [])) (M.pure [])))) (rangeD 0 k) [.fz (.lst (ns.map D.int)), .no] [] = .ok xs [.fz (.lst (ns.map D.int)), .no] cs' ∧ xs.length = (rangeD 0 k).length ∧ (∀ x ∈ xs, x = .bl true) ∧ True := fun k hk => by
    refine compM_inv (I := fun _ => True) (P := fun x => x = .bl true) (rangeD 0 k) [] trivial fun d hd cs _ => ?_
    obtain ⟨j, hj, rfl⟩ := List.mem_map.mp hd
    have hj2 : j < k := List.mem_range.mp hj
    obtain ⟨a, b, e1, ha, hb, hb2⟩ := r_pot ns j (by omega) cs
    have hp : Pot (cs ++ [.lst [.int a, .int b]]) cs.length := ⟨a, b, by simp, ha, hb, hb2⟩
    obtain ⟨cs2, e2⟩ := r_right hp
    refine ⟨_, cs2, ?_, rfl, trivial⟩
    have e0 : (0 : Int) + (j : Int) = j := by omega
    simp [e0, e1, e2]
  obtain ⟨k, hk, hr⟩ : ∃ k : Nat, k ≤ 63 ∧ ∀ e c, mRng1 (mCons (mZ (mOpN (drN fMax) (mCons (M.pure (.int 1)) (mCons (mZ (mOpN (drN fMin) (mCons (mZ (mOpN (drN (orN fLen fLenD)) (mCons (mPeek 0) (M.pure [])))) (mCons (M.pure (.int 4)) (M.pure []))))) (M.pure []))))) (M.pure [])) (.fz (.lst (ns.map D.int)) :: e) c = .ok (rangeD 0 k) (.fz (.lst (ns.map D.int)) :: e) c := by
    let i : Int := if 1 < (if (4 : Int) < ns.length then 4 else (ns.length : Int)) then (if (4 : Int) < ns.length then 4 else (ns.length : Int)) else 1
    have hi : 1 ≤ i ∧ i ≤ 63 := by
      show 1 ≤ (if _ then _ else _ : Int) ∧ (if _ then _ else _ : Int) ≤ 63
      split <;> split <;> omega
    refine ⟨i.toNat, by omega, fun e c => ?_⟩
    have h1 : -1000000 ≤ i ∧ i ≤ 1000000 := by omega
    simp [fMinL, fMaxL]
    rw [if_pos (show _ ∧ _ from h1)]
    rfl
  obtain ⟨xs, cs', e, hl, hx, _⟩ := key k hk
  obtain ⟨l, hl2, _, _⟩ := list_of (α := Unit) (h := fun _ => D.bl true) (P := fun _ => True) (xs := xs) fun x h => ⟨(), hx x h, trivial⟩
  subst hl2
  have hb := blsD_map (fun _ : Unit => true) l
  have hr0 := hr [.no] []
  refine ⟨cs', ?_⟩
  simp [ph_law, m_law] at hr0 ⊢
  rw [hr0]
  simp [e, hb]
end K81
open PySem PySem.W PySem.Calls PyProof.Rows
theorem PySem.Challenge.cw_neverlost_k81_whole_sorts_that_fit_holds : PySem.Challenge.rw_neverlost_k81_whole_sorts_that_fit.Holds := by
  w_on; o_law
  refine HandSHeadRun.head_any (r := K81.R) (q := view K81.R.prog [71]) (H := K81.hk) (ob := K81.ob) (M := 6000) (loose := K81.loose) (d := HandSHeadRun.topDef K81.R.prog 71) (kwd := []) K81.ob_eq
    (by kernel_rfl) (fun s => by kernel_rfl) K81.run (by kernel_rfl) (by kernel_rfl) (by kernel_rfl) (by rfl) (by first | assumption | decide +kernel) (by decide +kernel) ⟨rfl, rfl, rfl, rfl, rfl, by decide +kernel⟩ ?hw ?hc
  case hw => w_witness2
  case hc =>
    refine EL.walk_end (l := PySem.Challenge.rw_neverlost_k81_whole_sorts_that_fit) (n := 63) (k := 9) (x := PySem.Str.ofString "_law_script") (φ := K81.ph_law) rfl (by decide) (by kernel_rfl) ⟨rfl, by decide, by decide⟩ K81.pure_law ?F
    intro w mg h Y G
    obtain ⟨K, KX, c⟩ := Y
    obtain ⟨f, fd, hF, hb⟩ := K81.facts KX G c
    have e : (HandSHeadRun.topDef K81.R.prog 71).name = PySem.Str.ofString "law" := by kernel_rfl
    exact ⟨K, f, fd, _, KX, fun base _ _ => e ▸ hF base, hb⟩
