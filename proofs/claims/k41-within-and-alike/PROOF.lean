import PyProof.Rows.All
import Wide.All
import OpenK.AllK
import Wide.FinOn
import PySem.Challenge.RW_pileups_k41_within_and_alike
import HandS.Base
import HandS.Call
import HandS.Defaults
import HandS.Words
import HandS.ExcInit
import HandS.Head0
import HandS.Head1
import HandS.Head2
import HandS.HeadHook1
import HandS.HeadHook2
import HandS.ForMost
import HandS.Flow
import HandS.Wide
import HandS.IsInst
import HandS.Steps
import HandS.Codes
import HandS.Style
import HandS.Zip
import HandS.DictComp
import HandS.Conv
import HandS.ListItems
import HandS.FStr
import HandS.MakeKw
import HandS.SortInts
import HandS.Strs
import HandS.SetFor
import HandS.OwnEq
import HandS.Exc
import HandS.TryMany
import HandS.ExcField
import HandS.TryOnly
import KE.KDictCopyH
import HandS.TupAny
import HandS.MapJoin
import HandS.Star
import KE.KEqNest
import PyProof.EqKinds
import PyProof.NeKinds
import HandS.Finally
import KE.GoesMore
import KE.GoesEnum
import KE.KDictZip
import PyProof.ExcClass
import PyProof.RulesRaise
import PyProof.FactsTree
import PyProof.ExcBaseAll.LookupError
import PyProof.ExcBaseAll.ValueError
import KE.KExcInit
import HandS.WordsExc
import HandS.WordsDict
import HandS.More
import HandS.RaiseMore
import PyProof.MakeMany
import OpenK.KDescr
import HandS.Property
import KE.KOpsOwn
import KE.SortData
import KE.KDictSum
import PyProof.Rows.SumGenD
import KE.KRevSl
import HandS.HeadEnd
set_option Elab.async false
set_option linter.all false
set_option maxRecDepth 100000
set_option maxHeartbeats 4000000
namespace PySem
end PySem
namespace L2
end L2
namespace PySem.W
end PySem.W
namespace PySem.XO
end PySem.XO
namespace L3
open PySem PySem.Spec PyProof.Rows L2
abbrev Fb := PySem.W.Frag → Bool
def obsB (fa : List Fb) (fn : List He.DefD) (K : PySem.W.Frag) : He.AlD := ((fa.all fun f => f K) && fn.all fun d => d.ok K, fn.map fun d => He.fnW K d.at_)
def SaysB (fa : List Fb) (fn : List He.DefD) (K : PySem.W.Frag) : Prop := obsB fa fn K = He.valD fn
def obsBG (n : Nat) (fa : List Fb) (fn : List He.DefD) (g : Addr → Option Obj) : He.AlD := obsB fa fn (He.frG g (List.range n))
def hookB (n : Nat) (fa : List Fb) (fn : List He.DefD) : PySem.W.Hook where
  α := He.AlD
  obs := fun s => obsBG n fa fn s.heap.get?
  val := fun _ => He.valD fn
  says := fun _ h => ∃ K : PySem.W.Frag, K.In h ∧ SaysB fa fn K
  of := fun _ _ e => ⟨_, He.frG_in, e⟩
  keeps := fun _ _ _ ⟨K, hK, c⟩ k => ⟨K, PySem.W.Frag.In.keeps hK k, c⟩
theorem obsBG_eq {n : Nat} {fa : List Fb} {fn : List He.DefD} {g : Addr → Option Obj} {s : Shared} (h : ∀ a, g a = s.heap.get? a) : obsBG n fa fn g = (hookB n fa fn).obs s := by
  have e : g = s.heap.get? := funext h
  rw [e]
  rfl
section
variable {fa : List Fb} {fn : List He.DefD} {K : PySem.W.Frag}
theorem SaysB.both (c : SaysB fa fn K) : (fa.all fun f => f K) = true ∧ (fn.all fun d => d.ok K) = true := Bool.and_eq_true_iff.mp (congrArg (fun z : He.AlD => z.1) c)
theorem SaysB.fact (c : SaysB fa fn K) (i : Nat) {f : Fb} (h : fa[i]? = some f := by rfl) : f K = true := List.all_eq_true.mp c.both.1 f (List.mem_of_getElem? h)
theorem SaysB.def_ (c : SaysB fa fn K) (i : Nat) {d : He.DefD} (h : fn[i]? = some d := by rfl) : ∃ fd, FunD K d.name d.qual d.params d.body d.scope (d.dvs K) (d.kws K) (He.fAd K d.at_) fd := by
  have e : fn.map (fun d => He.fnW K d.at_) = fn.map He.DefD.val := congrArg (fun z : He.AlD => z.2) c
  have e2 : (fn.map fun d => He.fnW K d.at_)[i]? = (fn.map He.DefD.val)[i]? := by rw [e]
  rw [List.getElem?_map, List.getElem?_map, h] at e2
  exact He.DefD.funD (Option.some.inj e2) (List.all_eq_true.mp c.both.2 d (List.mem_of_getElem? h))
end
theorem run_join {σ γ δ : Type} {o : Option σ} {l a b : σ → Bool} {sn : σ → γ} {c : σ → δ} {gd : γ} {cv : δ} (h1 : o.map (fun s => (l s, sn s, a s)) = some (true, gd, true)) (h2 : o.map b = some true) (h3 : o.map c = some cv) : o.map (fun s => (l s, sn s, (a s && b s, c s))) = some (true, gd, (true, cv)) := by
  cases o with
  | none => cases h2
  | some s =>
    simp only [Option.map_some, Option.some.injEq, Prod.mk.injEq] at h1 h2 h3 ⊢
    obtain ⟨e1, e2, e3⟩ := h1
    exact ⟨e1, e2, by rw [e3, h2]; rfl, h3⟩
def dAt (p : Str × Option Str) (x qual : Str) (st : Stmt) (dfl : List He.Dv) (kwd : List (Str × He.Dv)) : He.DefD := ⟨p, x, qual, defArgs st, defBody st, defScope st, dfl, kwd⟩
def etpB (K : PySem.W.Frag) (a : Addr) : Bool := match K.lookup a with
  | some ⟨.type c, _, .seq its _, _⟩ => decide (c = "tuple") && decide (its.toList = [])
  | _ => false
end L3
namespace K41
open PySem PySem.Spec L2 L3
def topS (j : Nat) : Stmt := (PySem.Challenge.pw_pileups_k41_within_and_alike).main.body.getD j (Stmt.Pass ⟨0, 0, 0, 0⟩)
def faB0 : List (Fb) := [fun K => decide (PySem.W.nsIn K mainGlobals "Plan" = some (some (.ref (He.ga K "Plan")))),
  fun K => PySem.W.plainGet K (He.ga K "Plan") Str.empty,
  fun K => PySem.W.hasDictIn K (He.ga K "Plan"),
  fun K => PySem.W.plainOver K (He.ga K "Plan"),
  fun K => decide (PySem.W.findIn K (.ref (He.ga K "Plan")) "__setattr__" = some (some (.builtin "object.__setattr__"))),
  fun K => PySem.W.keepIn K (.ref (He.ga K "Plan")),
  fun K => PySem.W.isClsIn K (He.ga K "Plan"),
  fun K => decide (PySem.W.typeIn K (.ref (He.ga K "Plan")) = some (.type "type")),
  fun K => decide (PySem.W.findIn K (.ref (He.ga K "Plan")) "__class__" = some (some (.builtin "object.__class__"))),
  fun K => decide (PySem.W.specialIn K (.builtin "object.__class__") "__get__" = some (some (.builtin "getset_descriptor.__get__"))),
  fun K => decide (PySem.W.takesIn K (.builtin "object.__class__") = some true),
  fun K => decide (PySem.W.mroIn K (He.ga K "Plan") (.type "object") = some true),
  fun K => PySem.W.makesIn K (He.ga K "Plan"),
  fun K => decide (PySem.W.nsIn K mainGlobals "Table" = some (some (.ref (He.ga K "Table")))),
  fun K => PySem.W.plainGet K (He.ga K "Table") Str.empty,
  fun K => PySem.W.hasDictIn K (He.ga K "Table"),
  fun K => PySem.W.plainOver K (He.ga K "Table"),
  fun K => decide (PySem.W.findIn K (.ref (He.ga K "Table")) "__setattr__" = some (some (.builtin "object.__setattr__"))),
  fun K => PySem.W.keepIn K (.ref (He.ga K "Table")),
  fun K => PySem.W.isClsIn K (He.ga K "Table"),
  fun K => decide (PySem.W.typeIn K (.ref (He.ga K "Table")) = some (.type "type")),
  fun K => decide (PySem.W.findIn K (.ref (He.ga K "Table")) "__class__" = some (some (.builtin "object.__class__"))),
  fun K => decide (PySem.W.specialIn K (.builtin "object.__class__") "__get__" = some (some (.builtin "getset_descriptor.__get__"))),
  fun K => decide (PySem.W.takesIn K (.builtin "object.__class__") = some true),
  fun K => decide (PySem.W.mroIn K (He.ga K "Table") (.type "object") = some true),
  fun K => PySem.W.makesIn K (He.ga K "Table"),
  fun K => decide (PySem.W.findIn K (.ref (He.ga K "Plan")) "own_events" = some none),
  fun K => decide (PySem.W.findIn K (.ref (He.ga K "Plan")) "own_limits" = some none),
  fun K => decide (PySem.W.findIn K (.ref (He.ga K "Plan")) "own_ties" = some none),
  fun K => decide (PySem.W.findIn K (.ref (He.ga K "Table")) "leads" = some none)]
def faB1 : List (Fb) := [fun K => decide (PySem.W.findIn K (.ref (He.ga K "Table")) "row_of_events" = some none),
  fun K => decide (PySem.W.findIn K (.ref (He.ga K "Table")) "steps" = some none),
  fun K => decide (PySem.W.nsIn K mainGlobals "_law_box" = some (some (.ref (He.fAd K ("_law_box", none))))),
  fun K => decide (PySem.W.nsIn K mainGlobals "_law_cell" = some (some (.ref (He.fAd K ("_law_cell", none))))),
  fun K => decide (PySem.W.nsIn K mainGlobals "_law_take" = some (some (.ref (He.fAd K ("_law_take", none))))),
  fun K => decide (PySem.W.nsIn K mainGlobals "_law_names" = some (some (.ref (He.fAd K ("_law_names", none))))),
  fun K => decide (PySem.W.nsIn K mainGlobals "_law_mixed" = some (some (.ref (He.fAd K ("_law_mixed", none))))),
  fun K => decide (PySem.W.nsIn K mainGlobals "_law_lag" = some (some (.ref (He.fAd K ("_law_lag", none))))),
  fun K => decide (PySem.W.nsIn K mainGlobals "_law_model" = some (some (.ref (He.fAd K ("_law_model", none))))),
  fun K => decide (PySem.W.nsIn K mainGlobals "is_list" = some (some (.ref (He.fAd K ("is_list", none))))),
  fun K => decide (PySem.W.nsIn K mainGlobals "is_name" = some (some (.ref (He.fAd K ("is_name", none))))),
  fun K => decide (PySem.W.nsIn K mainGlobals "need_events" = some (some (.ref (He.fAd K ("need_events", none))))),
  fun K => decide (PySem.W.nsIn K mainGlobals "need_event" = some (some (.ref (He.fAd K ("need_event", none))))),
  fun K => decide (PySem.W.nsIn K mainGlobals "is_integer" = some (some (.ref (He.fAd K ("is_integer", none))))),
  fun K => decide (PySem.W.nsIn K mainGlobals "is_count" = some (some (.ref (He.fAd K ("is_count", none))))),
  fun K => decide (PySem.W.nsIn K mainGlobals "need_ties" = some (some (.ref (He.fAd K ("need_ties", none))))),
  fun K => decide (PySem.W.nsIn K mainGlobals "need_limits" = some (some (.ref (He.fAd K ("need_limits", none))))),
  fun K => decide (PySem.W.nsIn K mainGlobals "reached" = some (some (.ref (He.fAd K ("reached", none))))),
  fun K => decide (PySem.W.nsIn K mainGlobals "need_no_ring" = some (some (.ref (He.fAd K ("need_no_ring", none))))),
  fun K => decide (PySem.W.findIn K (.ref (He.ga K "Plan")) "__init__" = some (some (.ref (He.fAd K ("Plan", some "__init__"))))),
  fun K => PySem.W.isFn K (.ref (He.fAd K ("Plan", some "__init__"))),
  fun K => etpB K (He.dflAt ("Plan", some "__init__") 0 K),
  fun K => decide (PySem.W.nsIn K mainGlobals "_law_plan" = some (some (.ref (He.fAd K ("_law_plan", none))))),
  fun K => decide (PySem.W.nsIn K mainGlobals "need_plan" = some (some (.ref (He.fAd K ("need_plan", none))))),
  fun K => decide (PySem.W.findIn K (.ref (He.ga K "Plan")) "events" = some (some (.ref (He.fAd K ("Plan", some "events"))))),
  fun K => PySem.W.isFn K (.ref (He.fAd K ("Plan", some "events"))),
  fun K => decide (PySem.W.nsIn K mainGlobals "need_alike_events" = some (some (.ref (He.fAd K ("need_alike_events", none))))),
  fun K => decide (PySem.W.nsIn K mainGlobals "leads_of" = some (some (.ref (He.fAd K ("leads_of", none))))),
  fun K => decide (PySem.W.findIn K (.ref (He.ga K "Plan")) "ties" = some (some (.ref (He.fAd K ("Plan", some "ties"))))),
  fun K => PySem.W.isFn K (.ref (He.fAd K ("Plan", some "ties")))]
def faB2 : List (Fb) := [fun K => decide (PySem.W.findIn K (.ref (He.ga K "Plan")) "limits" = some (some (.ref (He.fAd K ("Plan", some "limits"))))),
  fun K => PySem.W.isFn K (.ref (He.fAd K ("Plan", some "limits"))),
  fun K => decide (PySem.W.nsIn K mainGlobals "rows_of" = some (some (.ref (He.fAd K ("rows_of", none))))),
  fun K => decide (PySem.W.findIn K (.ref (He.ga K "Table")) "__init__" = some (some (.ref (He.fAd K ("Table", some "__init__"))))),
  fun K => PySem.W.isFn K (.ref (He.fAd K ("Table", some "__init__"))),
  fun K => decide (PySem.W.findIn K (.ref (He.ga K "Table")) "lead" = some (some (.ref (He.fAd K ("Table", some "lead"))))),
  fun K => PySem.W.isFn K (.ref (He.fAd K ("Table", some "lead"))),
  fun K => decide (PySem.W.findIn K (.ref (He.ga K "Table")) "most" = some (some (.ref (He.fAd K ("Table", some "most"))))),
  fun K => PySem.W.isFn K (.ref (He.fAd K ("Table", some "most"))),
  fun K => decide (PySem.W.findIn K (.ref (He.ga K "Table")) "least" = some (some (.ref (He.fAd K ("Table", some "least"))))),
  fun K => PySem.W.isFn K (.ref (He.fAd K ("Table", some "least"))),
  fun K => decide (PySem.W.nsIn K mainGlobals "breaches" = some (some (.ref (He.fAd K ("breaches", none))))),
  fun K => decide (PySem.W.nsIn K mainGlobals "total" = some (some (.ref (He.fAd K ("total", none))))),
  fun K => decide (PySem.W.nsIn K mainGlobals "within" = some (some (.ref (He.fAd K ("within", none))))),
  fun K => decide (PySem.W.nsIn K mainGlobals "alike" = some (some (.ref (He.fAd K ("alike", none))))),
  fun K => decide (PySem.W.nsIn K mainGlobals "_law_far" = some (some (.ref (He.fAd K ("_law_far", none))))),
  fun K => decide (PySem.W.nsIn K mainGlobals "_law_leads" = some (some (.ref (He.fAd K ("_law_leads", none))))),
  fun K => decide (PySem.W.nsIn K mainGlobals "_law_least" = some (some (.ref (He.fAd K ("_law_least", none))))),
  fun K => decide (PySem.W.nsIn K mainGlobals "_law_breaches" = some (some (.ref (He.fAd K ("_law_breaches", none))))),
  fun K => decide (PySem.W.nsIn K mainGlobals "_law_sum" = some (some (.ref (He.fAd K ("_law_sum", none))))),
  fun K => decide (PySem.W.nsIn K mainGlobals "_law_is_moment" = some (some (.ref (He.fAd K ("_law_is_moment", none))))),
  fun K => decide (PySem.W.nsIn K mainGlobals "_law_within_right" = some (some (.ref (He.fAd K ("_law_within_right", none))))),
  fun K => decide (PySem.W.nsIn K mainGlobals "_law_alike_right" = some (some (.ref (He.fAd K ("_law_alike_right", none))))),
  fun K => decide (PySem.W.nsIn K mainGlobals "_law_right" = some (some (.ref (He.fAd K ("_law_right", none))))),
  fun K => decide (PySem.W.nsIn K mainGlobals "_law_near" = some (some (.ref (He.fAd K ("_law_near", none))))),
  fun K => decide (PySem.W.nsIn K mainGlobals "_law_small" = some (some (.ref (He.fAd K ("_law_small", none))))),
  fun K => decide (PySem.W.nsIn K mainGlobals "_law_moments" = some (some (.ref (He.fAd K ("_law_moments", none))))),
  fun K => decide (PySem.W.nsIn K mainGlobals "_law_small_right" = some (some (.ref (He.fAd K ("_law_small_right", none))))),
  fun K => decide (PySem.W.nsIn K mainGlobals "law" = some (some (.ref (He.fAd K ("law", none))))),
  fun K => decide (PySem.W.nsIn K mainGlobals "all" = some none)]
def faB3 : List (Fb) := [fun K => decide (PySem.W.nsIn K mainGlobals "bool" = some none),
  fun K => decide (PySem.W.nsIn K mainGlobals "dict" = some none),
  fun K => decide (PySem.W.nsIn K mainGlobals "enumerate" = some none),
  fun K => decide (PySem.W.nsIn K mainGlobals "int" = some none),
  fun K => decide (PySem.W.nsIn K mainGlobals "isinstance" = some none),
  fun K => decide (PySem.W.nsIn K mainGlobals "len" = some none),
  fun K => decide (PySem.W.nsIn K mainGlobals "list" = some none),
  fun K => decide (PySem.W.nsIn K mainGlobals "max" = some none),
  fun K => decide (PySem.W.nsIn K mainGlobals "min" = some none),
  fun K => decide (PySem.W.nsIn K mainGlobals "range" = some none),
  fun K => decide (PySem.W.nsIn K mainGlobals "repr" = some none),
  fun K => decide (PySem.W.nsIn K mainGlobals "sorted" = some none),
  fun K => decide (PySem.W.nsIn K mainGlobals "str" = some none),
  fun K => decide (PySem.W.nsIn K mainGlobals "sum" = some none),
  fun K => decide (PySem.W.nsIn K mainGlobals "tuple" = some none),
  fun K => decide (PySem.W.nsIn K mainGlobals "zip" = some none),
  fun K => (He.Fa.str "HOLD" "limit").ok K,
  fun K => (He.Fa.str "LETTERS" "abcdefghijklmnopqrstuvwxyz").ok K,
  fun K => (He.Fa.int "MOST_EVENTS" 8).ok K,
  fun K => (He.Fa.int "MOST_LETTERS" 8).ok K,
  fun K => (He.Fa.int "MOST_TIES" 60).ok K,
  fun K => (He.Fa.str "NONE" "none").ok K,
  fun K => (He.Fa.str "TIE" "tie").ok K]
def faB : List (Fb) := faB0 ++ (faB1 ++ (faB2 ++ (faB3)))
def fnB0 : List (He.DefD) := [dAt ("_law_box", none) "_law_box" "_law_box" (topS 48) [] [],
  dAt ("_law_cell", none) "_law_cell" "_law_cell" (topS 47) [] [],
  dAt ("_law_take", none) "_law_take" "_law_take" (topS 49) [] [],
  dAt ("_law_names", none) "_law_names" "_law_names" (topS 51) [] [],
  dAt ("_law_mixed", none) "_law_mixed" "_law_mixed" (topS 50) [] [],
  dAt ("_law_lag", none) "_law_lag" "_law_lag" (topS 52) [] [],
  dAt ("_law_model", none) "_law_model" "_law_model" (topS 53) [] [],
  dAt ("is_list", none) "is_list" "is_list" (topS 21) [] [],
  dAt ("is_name", none) "is_name" "is_name" (topS 20) [] [],
  dAt ("need_events", none) "need_events" "need_events" (topS 25) [] [],
  dAt ("need_event", none) "need_event" "need_event" (topS 26) [] [],
  dAt ("is_integer", none) "is_integer" "is_integer" (topS 18) [] [],
  dAt ("is_count", none) "is_count" "is_count" (topS 19) [] [],
  dAt ("need_ties", none) "need_ties" "need_ties" (topS 27) [] [],
  dAt ("need_limits", none) "need_limits" "need_limits" (topS 28) [] [],
  dAt ("reached", none) "reached" "reached" (topS 30) [] [],
  dAt ("need_no_ring", none) "need_no_ring" "need_no_ring" (topS 29) [] [],
  dAt ("Plan", some "__init__") "__init__" "Plan.__init__" (inClass (topS 31) 0) [.adr (He.dflAt ("Plan", some "__init__") 0)] [("limits", .non)],
  dAt ("_law_plan", none) "_law_plan" "_law_plan" (topS 54) [] [],
  dAt ("need_plan", none) "need_plan" "need_plan" (topS 32) [] [],
  dAt ("Plan", some "events") "events" "Plan.events" (inClass (topS 31) 1) [] [],
  dAt ("need_alike_events", none) "need_alike_events" "need_alike_events" (topS 41) [] [],
  dAt ("leads_of", none) "leads_of" "leads_of" (topS 38) [] [],
  dAt ("Plan", some "ties") "ties" "Plan.ties" (inClass (topS 31) 2) [] [],
  dAt ("Plan", some "limits") "limits" "Plan.limits" (inClass (topS 31) 3) [] [],
  dAt ("rows_of", none) "rows_of" "rows_of" (topS 37) [] [],
  dAt ("Table", some "__init__") "__init__" "Table.__init__" (inClass (topS 39) 0) [] [],
  dAt ("Table", some "lead") "lead" "Table.lead" (inClass (topS 39) 2) [] [],
  dAt ("Table", some "most") "most" "Table.most" (inClass (topS 39) 3) [] [],
  dAt ("Table", some "least") "least" "Table.least" (inClass (topS 39) 7) [] []]
def fnB1 : List (He.DefD) := [dAt ("breaches", none) "breaches" "breaches" (topS 42) [] [],
  dAt ("total", none) "total" "total" (topS 43) [] [],
  dAt ("within", none) "within" "within" (topS 44) [] [],
  dAt ("alike", none) "alike" "alike" (topS 45) [] [],
  dAt ("_law_far", none) "_law_far" "_law_far" (topS 58) [] [],
  dAt ("_law_leads", none) "_law_leads" "_law_leads" (topS 59) [] [],
  dAt ("_law_least", none) "_law_least" "_law_least" (topS 60) [] [],
  dAt ("_law_breaches", none) "_law_breaches" "_law_breaches" (topS 62) [] [],
  dAt ("_law_sum", none) "_law_sum" "_law_sum" (topS 63) [] [],
  dAt ("_law_is_moment", none) "_law_is_moment" "_law_is_moment" (topS 57) [] [],
  dAt ("_law_within_right", none) "_law_within_right" "_law_within_right" (topS 64) [] [],
  dAt ("_law_alike_right", none) "_law_alike_right" "_law_alike_right" (topS 65) [] [],
  dAt ("_law_right", none) "_law_right" "_law_right" (topS 66) [] [],
  dAt ("_law_near", none) "_law_near" "_law_near" (topS 61) [] [],
  dAt ("_law_small", none) "_law_small" "_law_small" (topS 55) [] [],
  dAt ("_law_moments", none) "_law_moments" "_law_moments" (topS 56) [] [],
  dAt ("_law_small_right", none) "_law_small_right" "_law_small_right" (topS 67) [] [],
  dAt ("law", none) "law" "law" (topS 68) [] []]
def fnB : List (He.DefD) := fnB0 ++ (fnB1)
def nmB0 : List (Str) := ["_wall",
  "PlanError",
  "MissingError",
  "InvalidInteger",
  "InvalidName",
  "Duplicate",
  "InvalidEvents",
  "InvalidTies",
  "InvalidTie",
  "InvalidLimits",
  "Ring",
  "InvalidPlan",
  "UnlikeEvents",
  "UnknownEvent",
  "LETTERS",
  "MOST_LETTERS",
  "is_integer",
  "is_count",
  "is_name",
  "is_list",
  "MOST_EVENTS",
  "MOST_TIES",
  "need_events",
  "need_event",
  "need_ties",
  "need_limits",
  "need_no_ring",
  "reached",
  "Plan",
  "need_plan"]
def nmB1 : List (Str) := ["HOLD",
  "TIE",
  "NONE",
  "rows_of",
  "leads_of",
  "Table",
  "need_alike_events",
  "breaches",
  "total",
  "within",
  "alike",
  "_law_cell",
  "_law_box",
  "_law_take",
  "_law_mixed",
  "_law_names",
  "_law_lag",
  "_law_model",
  "_law_plan",
  "_law_small",
  "_law_moments",
  "_law_is_moment",
  "_law_far",
  "_law_leads",
  "_law_least",
  "_law_near",
  "_law_breaches",
  "_law_sum",
  "_law_within_right",
  "_law_alike_right"]
def nmB2 : List (Str) := ["_law_right",
  "_law_small_right"]
def nmB : List (Str) := nmB0 ++ (nmB1 ++ (nmB2))
abbrev qB : Program := PySem.W.view (PySem.W.OpenLaw.row PySem.Challenge.rw_pileups_k41_within_and_alike).prog [68]
abbrev hkB : PySem.W.Hook := hookB 1200 faB fnB
def obB (s : PySem.W.SharedT) : He.AlD := obsBG 1200 faB fnB (HandSHeadRun.getT s)
theorem obB_eq (s : PySem.W.SharedT) : obB s = hkB.obs s.abs := obsBG_eq (HandSHeadRun.getT_eq s)
set_option maxHeartbeats 0 in
theorem runB1 (w : World) (os : OsState) : (HandSHeadRun.endF (HandSHeadRun.stepQ (HandSHeadRun.denQ HandSHeadRun.tabQ) (PySem.W.OpenLaw.row PySem.Challenge.rw_pileups_k41_within_and_alike).prog w) 40000 (PySem.W.OpenLaw.row PySem.Challenge.rw_pileups_k41_within_and_alike).prog w os).map (fun s => (HandSHeadRun.looksF (PySem.W.OpenLaw.row PySem.Challenge.rw_pileups_k41_within_and_alike).prog (PySem.W.boot_heap w.params) s.abs, HandSHeadRun.seenQ qB nmB (importedModules (PySem.W.OpenLaw.row PySem.Challenge.rw_pileups_k41_within_and_alike).prog.main.body) (fun s => PySem.W.xlAt qB [] s && PySem.W.recOk (PySem.W.OpenLaw.row PySem.Challenge.rw_pileups_k41_within_and_alike).toRowW.records s) s.abs, faB.all fun f => f (He.frG (HandSHeadRun.getT s) (List.range 1200)))) = some (true, PySem.W.openGood qB nmB, true) := by
  kernel_rfl
set_option maxHeartbeats 0 in
theorem runB2 (w : World) (os : OsState) : (HandSHeadRun.endF (HandSHeadRun.stepQ (HandSHeadRun.denQ HandSHeadRun.tabQ) (PySem.W.OpenLaw.row PySem.Challenge.rw_pileups_k41_within_and_alike).prog w) 40000 (PySem.W.OpenLaw.row PySem.Challenge.rw_pileups_k41_within_and_alike).prog w os).map (fun s => fnB.all fun d => d.ok (He.frG (HandSHeadRun.getT s) (List.range 1200))) = some true := by
  kernel_rfl
set_option maxHeartbeats 0 in
theorem runB3 (w : World) (os : OsState) : (HandSHeadRun.endF (HandSHeadRun.stepQ (HandSHeadRun.denQ HandSHeadRun.tabQ) (PySem.W.OpenLaw.row PySem.Challenge.rw_pileups_k41_within_and_alike).prog w) 40000 (PySem.W.OpenLaw.row PySem.Challenge.rw_pileups_k41_within_and_alike).prog w os).map (fun s => fnB.map fun d => He.fnW (He.frG (HandSHeadRun.getT s) (List.range 1200)) d.at_) = some (fnB.map He.DefD.val) := by
  kernel_rfl
theorem runB (w : World) : HandSHeadRun.RunEq (PySem.W.OpenLaw.row PySem.Challenge.rw_pileups_k41_within_and_alike) qB hkB obB 40000 nmB w := fun os => run_join (runB1 w os) (runB2 w os) (runB3 w os)
end K41
namespace L3
open PySem L2
structure Kn where
  K : PySem.W.Frag
  P : Program
  w : World
instance : Coe Kn PySem.W.Frag := ⟨Kn.K⟩
abbrev _root_.L2.Cx.kn (X : Cx) : Kn := ⟨X.K, X.prog, X.w⟩
abbrev LK := List Leaf
def lkH (K : Kn) : HeapKind K.P K.w LK := tupleKind (leafKind K.P K.w)
def dcnO (K : Kn) (a : Addr) (xs : List (LK × Addr × V)) : HO := .ext fun h => xs.length ≤ sizeLine ∧ (a == sysModules) = false ∧ (xs.map (·.1)).Nodup ∧ ∃ (ys : List (LK × Addr × Value)) (o : Obj) (es : Array DictEntry) (ep : Nat),
  Paired (fun (p : LK × Addr × V) (q : LK × Addr × Value) => p.1 = q.1 ∧ p.2.1 = q.2.1 ∧ RelV p.2.2 q.2.2) xs ys ∧ h.get? a = some o ∧ o.ExactDict ∧ o.data = .dict es ep ∧ es.toList = ys.map (entryOfKey (lkH K))
def clsA (K : Kn) (n : Str) (C : Addr) : Prop := PySem.W.nsIn K.K mainGlobals n = some (some (.ref C))
theorem clsA.inj {K : Kn} {n : Str} {C C' : Addr} (h : clsA K n C) (h' : clsA K n C') : C = C' := by
  unfold clsA at h h'
  rw [h] at h'
  cases h'
  rfl
def leafV : Leaf → V
  | .none => .non
  | .num i => .int i
  | .text x => .str x
inductive D where
  | non | bl (b : Bool) | int (i : Int) | str (x : Str) | ty (n : String) | ref (a : Addr)
  | tup (xs : List D) | lst (xs : List D) | dct (kvs : List (Key × D)) | obj (C : Str) (fs : List (Str × D))
  | cls (n : Str)
  | dcn (kvs : List (LK × D))
  | scr (xs : List D)
  | etp (p : Str × Option Str) (i : Nat)
inductive MO where
  | lst (xs : List D) | dct (kvs : List (Key × D)) | dcn (kvs : List (LK × D)) | ins (C : Str) (fs : List (Str × D))
  | dlk (od : Obj) (ks : List (Key × V)) (kvs : List (Key × D))
abbrev Mu := Addr → Option MO
def mset (μ : Mu) (a : Addr) (o : MO) : Mu := fun b => if b = a then some o else μ b
theorem mset_same {μ : Mu} {a : Addr} {o : MO} : mset μ a o a = some o := by unfold mset; rw [if_pos rfl]
theorem mset_ne {μ : Mu} {a b : Addr} {o : MO} (h : b ≠ a) : mset μ a o b = μ b := by unfold mset; rw [if_neg h]
def keyD : Key → D
  | .inl i => .int i
  | .inr x => .str x
def KL (K : Kn) (a : Addr) (xs : List V) : Prop :=
  ∃ (o : Obj) (its : Array Value) (n : Nat), K.K.lookup a = some o ∧ o.cls = .type "list" ∧ o.dict = none ∧ o.data = .seq its n ∧ its.size ≤ sizeLine ∧ Vals xs its.toList
def FL (K : Kn) (F : Addr → Prop) (H : Hp) (a : Addr) (vs : List V) : Prop := (F a ∧ Rd H a (.lst vs)) ∨ KL K a vs
def KTe (K : PySem.W.Frag) (a : Addr) : Prop := ∃ (o : Obj) (its : Array Value) (n : Nat), K.lookup a = some o ∧ o.cls = .type "tuple" ∧ o.data = .seq its n ∧ its.size ≤ sizeLine ∧ Vals [] its.toList
theorem etpB_ok {K : PySem.W.Frag} {a : Addr} (h : etpB K a = true) : KTe K a := by
  unfold etpB at h
  split at h
  · rename_i c od its n sl lk
    rw [Bool.and_eq_true] at h
    have e1 := of_decide_eq_true h.1
    have e2 := of_decide_eq_true h.2
    subst e1
    refine ⟨_, its, n, lk, rfl, rfl, ?_, by rw [e2]; exact .nil⟩
    have : its.size = 0 := by rw [← Array.length_toList, e2]; rfl
    rw [this]; exact Nat.zero_le _
  · cases h
mutual
inductive Rp (K : Kn) (F : Addr → Prop) (H : Hp) : D → V → Prop
  | non : Rp K F H .non .non
  | bl (b : Bool) : Rp K F H (.bl b) (.bl b)
  | int (i : Int) : Rp K F H (.int i) (.int i)
  | str (x : Str) : Rp K F H (.str x) (.str x)
  | ty (n : String) : Rp K F H (.ty n) (.ty n)
  | ref (a : Addr) : Rp K F H (.ref a) (.ref a)
  | cls {n : Str} {C : Addr} : clsA K n C → Rp K F H (.cls n) (.ref C)
  | tup {xs : List D} {vs : List V} {a : Addr} : F a → H a = some (.tup vs) → Rps K F H xs vs → Rp K F H (.tup xs) (.ref a)
  | scr {xs : List D} {vs : List V} {a : Addr} : FL K F H a vs → Rps K F H xs vs → Rp K F H (.scr xs) (.ref a)
  | etp (p : Str × Option Str) (i : Nat) : KTe K.K (He.dflAt p i K.K) → Rp K F H (.etp p i) (.ref (He.dflAt p i K.K))
  | lst {xs : List D} {vs : List V} {a : Addr} : F a → H a = some (.lst vs) → Rps K F H xs vs → Rp K F H (.lst xs) (.ref a)
  | dct {kvs : List (Key × D)} {ks : List (Key × V)} {a : Addr} : F a → Rd H a (.dK ks) → Rpk K F H kvs ks → Rp K F H (.dct kvs) (.ref a)
  | obj {n : Str} {C : Addr} {fs : List (Str × D)} {gs : List (Str × V)} {a dx : Addr} : clsA K n C → F a → H a = some (.ins C dx gs) → Rpf K F H fs gs → Rp K F H (.obj n fs) (.ref a)
  | dcn {kvs : List (LK × D)} {ks : List (LK × Addr × V)} {a : Addr} : F a → H a = some (dcnO K a ks) → Rpn K F H kvs ks → Rp K F H (.dcn kvs) (.ref a)
inductive Rps (K : Kn) (F : Addr → Prop) (H : Hp) : List D → List V → Prop
  | nil : Rps K F H [] []
  | cons {d : D} {v : V} {ds : List D} {vs : List V} : Rp K F H d v → Rps K F H ds vs → Rps K F H (d :: ds) (v :: vs)
inductive Rpk (K : Kn) (F : Addr → Prop) (H : Hp) : List (Key × D) → List (Key × V) → Prop
  | nil : Rpk K F H [] []
  | cons {k : Key} {d : D} {v : V} {ds : List (Key × D)} {vs : List (Key × V)} : Rp K F H d v → Rpk K F H ds vs → Rpk K F H ((k, d) :: ds) ((k, v) :: vs)
inductive Rpn (K : Kn) (F : Addr → Prop) (H : Hp) : List (LK × D) → List (LK × Addr × V) → Prop
  | nil : Rpn K F H [] []
  | cons {k : LK} {b : Addr} {d : D} {v : V} {ds : List (LK × D)} {vs : List (LK × Addr × V)} : F b → H b = some (.tup (k.map leafV)) → Rp K F H d v → Rpn K F H ds vs → Rpn K F H ((k, d) :: ds) ((k, b, v) :: vs)
inductive Rpf (K : Kn) (F : Addr → Prop) (H : Hp) : List (Str × D) → List (Str × V) → Prop
  | nil : Rpf K F H [] []
  | cons {f : Str} {d : D} {v : V} {ds : List (Str × D)} {vs : List (Str × V)} : Rp K F H d v → Rpf K F H ds vs → Rpf K F H ((f, d) :: ds) ((f, v) :: vs)
end
def isD : HO → Bool
  | .dK _ => true
  | _ => false
structure Grow (F : Addr → Prop) (H : Hp) (F' : Addr → Prop) (H' : Hp) : Prop where
  mono : ∀ a, F a → F' a
  rd : ∀ a u, F a → Rd H a u → Rd H' a u
  fix : ∀ a u, F a → isD u = false → H a = some u → H' a = some u
section
variable {K : Kn} {F F' F'' : Addr → Prop} {H H' H'' : Hp} {d : D} {v : V}
theorem Grow.refl : Grow F H F H := ⟨fun _ h => h, fun _ _ _ h => h, fun _ _ _ _ h => h⟩
theorem Grow.trans (a : Grow F H F' H') (b : Grow F' H' F'' H'') : Grow F H F'' H'' :=
  ⟨fun x h => b.mono x (a.mono x h), fun x u f h => b.rd x u (a.mono x f) (a.rd x u f h), fun x u f i h => b.fix x u (a.mono x f) i (a.fix x u f i h)⟩
theorem FL.grow {a : Addr} {vs : List V} (g : Grow F H F' H') (h : FL K F H a vs) : FL K F' H' a vs := h.imp (fun ⟨f, r⟩ => ⟨g.mono a f, g.rd a _ f r⟩) id
theorem FL.sq {a : Addr} {vs : List V} (h : FL K F H a vs) : SqL K H a vs := h.imp (fun ⟨_, r⟩ => r) id
mutual
theorem Rp.grow {d : D} {v : V} (g : Grow F H F' H') : Rp K F H d v → Rp K F' H' d v
  | .non => .non
  | .bl b => .bl b
  | .int i => .int i
  | .str x => .str x
  | .ty n => .ty n
  | .ref a => .ref a
  | .cls c => .cls c
  | .tup f h r => .tup (g.mono _ f) (g.fix _ _ f rfl h) (Rps.grow g r)
  | .scr h r => .scr (h.grow g) (Rps.grow g r)
  | .etp p i h => .etp p i h
  | .lst f h r => .lst (g.mono _ f) (g.fix _ _ f rfl h) (Rps.grow g r)
  | .dct f h r => .dct (g.mono _ f) (g.rd _ _ f h) (Rpk.grow g r)
  | .obj c f h r => .obj c (g.mono _ f) (g.fix _ _ f rfl h) (Rpf.grow g r)
  | .dcn f h r => .dcn (g.mono _ f) (g.fix _ _ f rfl h) (Rpn.grow g r)
theorem Rps.grow {ds : List D} {vs : List V} (g : Grow F H F' H') : Rps K F H ds vs → Rps K F' H' ds vs
  | .nil => .nil
  | .cons h r => .cons (Rp.grow g h) (Rps.grow g r)
theorem Rpk.grow {ds : List (Key × D)} {vs : List (Key × V)} (g : Grow F H F' H') : Rpk K F H ds vs → Rpk K F' H' ds vs
  | .nil => .nil
  | .cons h r => .cons (Rp.grow g h) (Rpk.grow g r)
theorem Rpn.grow {ds : List (LK × D)} {vs : List (LK × Addr × V)} (g : Grow F H F' H') : Rpn K F H ds vs → Rpn K F' H' ds vs
  | .nil => .nil
  | .cons f e h r => .cons (g.mono _ f) (g.fix _ _ f rfl e) (Rp.grow g h) (Rpn.grow g r)
theorem Rpf.grow {ds : List (Str × D)} {vs : List (Str × V)} (g : Grow F H F' H') : Rpf K F H ds vs → Rpf K F' H' ds vs
  | .nil => .nil
  | .cons h r => .cons (Rp.grow g h) (Rpf.grow g r)
end
theorem Rps.length {ds : List D} {vs : List V} : Rps K F H ds vs → ds.length = vs.length
  | .nil => rfl
  | .cons _ r => by rw [List.length_cons, List.length_cons, Rps.length r]
theorem Rps.get {ds : List D} {vs : List V} : ∀ {i : Nat} {d : D}, Rps K F H ds vs → ds[i]? = some d → ∃ v, vs[i]? = some v ∧ Rp K F H d v
  | _, _, .nil, e => by simp at e
  | 0, _, .cons h _, e => by simp at e; subst e; exact ⟨_, rfl, h⟩
  | i + 1, _, .cons _ r, e => by
    obtain ⟨v, e1, h⟩ := Rps.get (i := i) r (by simpa using e)
    exact ⟨v, by simpa using e1, h⟩
theorem Rps.back {ds : List D} {vs : List V} : ∀ {i : Nat} {v : V}, Rps K F H ds vs → vs[i]? = some v → ∃ d, ds[i]? = some d ∧ Rp K F H d v
  | _, _, .nil, e => by simp at e
  | 0, _, .cons h _, e => by simp at e; subst e; exact ⟨_, rfl, h⟩
  | i + 1, _, .cons _ r, e => by
    obtain ⟨v, e1, h⟩ := Rps.back (i := i) r (by simpa using e)
    exact ⟨v, by simpa using e1, h⟩
theorem Rps.append : ∀ {ds es : List D} {vs us : List V}, Rps K F H ds vs → Rps K F H es us → Rps K F H (ds ++ es) (vs ++ us)
  | _, _, _, _, .nil, s => s
  | _, _, _, _, .cons h r, s => .cons h (Rps.append r s)
theorem Rps.set {d : D} {v : V} (h : Rp K F H d v) : ∀ {ds : List D} {vs : List V} (i : Nat), Rps K F H ds vs → Rps K F H (ds.set i d) (vs.set i v)
  | _, _, _, .nil => .nil
  | _, _, 0, .cons _ t => .cons h t
  | _, _, i + 1, .cons q t => .cons q (Rps.set h i t)
theorem Rps.take : ∀ {ds : List D} {vs : List V} (n : Nat), Rps K F H ds vs → Rps K F H (ds.take n) (vs.take n)
  | _, _, 0, _ => .nil
  | _, _, _ + 1, .nil => .nil
  | _, _, n + 1, .cons r t => .cons r (Rps.take n t)
theorem Rps.drop : ∀ {ds : List D} {vs : List V} (n : Nat), Rps K F H ds vs → Rps K F H (ds.drop n) (vs.drop n)
  | _, _, 0, r => r
  | _, _, _ + 1, .nil => .nil
  | _, _, n + 1, .cons _ t => Rps.drop n t
theorem Rps.dropLast {ds : List D} {vs : List V} (h : Rps K F H ds vs) : Rps K F H ds.dropLast vs.dropLast := by
  rw [List.dropLast_eq_take, List.dropLast_eq_take, h.length]
  exact h.take _
theorem Rps.reverse : ∀ {ds : List D} {vs : List V}, Rps K F H ds vs → Rps K F H ds.reverse vs.reverse
  | _, _, .nil => .nil
  | _, _, .cons h t => by
    rw [List.reverse_cons, List.reverse_cons]
    exact (Rps.reverse t).append (.cons h .nil)
def MoOk (K : Kn) (F : Addr → Prop) (H : Hp) (a : Addr) : MO → Prop
  | .lst xs => ∃ vs, H a = some (.lst vs) ∧ Rps K F H xs vs
  | .dct kvs => ∃ ks, H a = some (.dK ks) ∧ Rpk K F H kvs ks
  | .dcn kvs => ∃ ks, H a = some (dcnO K a ks) ∧ Rpn K F H kvs ks
  | .dlk od ks kvs => H a = some (.frz od (.dK ks)) ∧ Rpk K F H kvs ks
  | .ins n fs => ∃ C dx gs, clsA K n C ∧ H a = some (.ins C dx gs) ∧ Rpf K F H fs gs
structure Sim0 (K : Kn) (F : Addr → Prop) (H : Hp) (μ : Mu) : Prop where
  dom : ∀ a, F a → ∃ u, H a = some u
  obj : ∀ a o, μ a = some o → ¬ F a ∧ MoOk K F H a o
abbrev St3 := List (Option D)
structure Sl (K : Kn) (F : Addr → Prop) (H : Hp) (σ : St) (δ : St3) : Prop where
  len : σ.length = δ.length
  at_ : ∀ (i : Nat) (d : D), δ[i]? = some (some d) → ∃ v, σ[i]? = some (some v) ∧ Rp K F H d v
theorem Sl.grow {σ : St} {δ : St3} (g : Grow F H F' H') (s : Sl K F H σ δ) : Sl K F' H' σ δ :=
  ⟨s.len, fun i d e => let ⟨v, e1, r⟩ := s.at_ i d e; ⟨v, e1, r.grow g⟩⟩
theorem Sl.set {σ : St} {δ : St3} {d : D} {v : V} (s : Sl K F H σ δ) (i : Nat) (r : Rp K F H d v) : Sl K F H (σ.set i (some v)) (δ.set i (some d)) := by
  refine ⟨by simpa using s.len, fun j e h => ?_⟩
  by_cases hj : i = j
  · subst hj
    by_cases hl : i < δ.length
    · rw [List.getElem?_set_self hl] at h
      cases h
      exact ⟨v, List.getElem?_set_self (by rw [s.len]; exact hl), r⟩
    · rw [List.getElem?_eq_none_iff.mpr (by simpa using hl)] at h
      cases h
  · rw [List.getElem?_set_ne hj] at h
    obtain ⟨u, e1, r1⟩ := s.at_ j e h
    exact ⟨u, by rw [List.getElem?_set_ne hj]; exact e1, r1⟩
theorem Sim0.new {μ : Mu} {p : Addr} {o : HO} (s : Sim0 K F H μ) (hp : H p = none) : Grow F H F (upd H p o) ∧ Sim0 K F (upd H p o) μ := by
  have ne : ∀ a, F a → a ≠ p := fun a f e => by
    obtain ⟨u, h⟩ := s.dom a f
    rw [e, hp] at h
    cases h
  have g : Grow F H F (upd H p o) := by
    refine ⟨fun _ h => h, fun a u f h => ?_, fun a u f _ h => by rw [upd_ne (ne a f)]; exact h⟩
    rcases h with h | ⟨ob, h⟩
    · exact .inl (by rw [upd_ne (ne a f)]; exact h)
    · exact .inr ⟨ob, by rw [upd_ne (ne a f)]; exact h⟩
  refine ⟨g, fun a f => ?_, fun a o' h => ?_⟩
  · rw [upd_ne (ne a f)]; exact s.dom a f
  · obtain ⟨nf, m⟩ := s.obj a o' h
    refine ⟨nf, ?_⟩
    have neA : ∀ u, H a = some u → a ≠ p := fun u hu e => by rw [e, hp] at hu; cases hu
    cases o' with
    | lst xs => obtain ⟨vs, e, r⟩ := m; exact ⟨vs, by rw [upd_ne (neA _ e)]; exact e, r.grow g⟩
    | dct kvs => obtain ⟨vs, e, r⟩ := m; exact ⟨vs, by rw [upd_ne (neA _ e)]; exact e, r.grow g⟩
    | dcn kvs => obtain ⟨vs, e, r⟩ := m; exact ⟨vs, by rw [upd_ne (neA _ e)]; exact e, r.grow g⟩
    | dlk od ks kvs => obtain ⟨e, r⟩ := m; exact ⟨by rw [upd_ne (neA _ e)]; exact e, r.grow g⟩
    | ins n fs => obtain ⟨C, dx, vs, c, e, r⟩ := m; exact ⟨C, dx, vs, c, by rw [upd_ne (neA _ e)]; exact e, r.grow g⟩
theorem Sim0.frz {μ : Mu} {p : Addr} {o : HO} (s : Sim0 K F H μ) (hp : H p = none) : Grow F H (fun a => F a ∨ a = p) (upd H p o) ∧ Sim0 K (fun a => F a ∨ a = p) (upd H p o) μ := by
  obtain ⟨g, s1⟩ := s.new (o := o) hp
  have g1 : Grow F (upd H p o) (fun a => F a ∨ a = p) (upd H p o) := ⟨fun _ h => .inl h, fun _ _ _ h => h, fun _ _ _ _ h => h⟩
  refine ⟨g.trans g1, fun a f => ?_, fun a o' h => ?_⟩
  · rcases f with f | rfl
    · exact s1.dom a f
    · exact ⟨o, upd_same⟩
  · obtain ⟨nf, m⟩ := s1.obj a o' h
    refine ⟨fun f => ?_, ?_⟩
    · rcases f with f | rfl
      · exact nf f
      · obtain ⟨_, m0⟩ := s.obj a o' h
        cases o' with
        | lst xs => obtain ⟨vs, e, r⟩ := m0; rw [hp] at e; cases e
        | dct kvs => obtain ⟨vs, e, r⟩ := m0; rw [hp] at e; cases e
        | dcn kvs => obtain ⟨vs, e, r⟩ := m0; rw [hp] at e; cases e
        | dlk od ks kvs => obtain ⟨e, r⟩ := m0; rw [hp] at e; cases e
        | ins n fs => obtain ⟨C, dx, vs, c, e, r⟩ := m0; rw [hp] at e; cases e
    · cases o' with
      | lst xs => obtain ⟨vs, e, r⟩ := m; exact ⟨vs, e, r.grow g1⟩
      | dct kvs => obtain ⟨vs, e, r⟩ := m; exact ⟨vs, e, r.grow g1⟩
      | dcn kvs => obtain ⟨vs, e, r⟩ := m; exact ⟨vs, e, r.grow g1⟩
      | dlk od ks kvs => obtain ⟨e, r⟩ := m; exact ⟨e, r.grow g1⟩
      | ins n fs => obtain ⟨C, dx, vs, c, e, r⟩ := m; exact ⟨C, dx, vs, c, e, r.grow g1⟩
theorem Sim0.free {μ : Mu} {p : Addr} (s : Sim0 K F H μ) (hp : H p = none) : μ p = none := by
  cases h : μ p with
  | none => rfl
  | some o =>
    obtain ⟨_, m⟩ := s.obj p o h
    cases o with
    | lst xs => obtain ⟨vs, e, r⟩ := m; rw [hp] at e; cases e
    | dct kvs => obtain ⟨vs, e, r⟩ := m; rw [hp] at e; cases e
    | dcn kvs => obtain ⟨vs, e, r⟩ := m; rw [hp] at e; cases e
    | dlk od ks kvs => obtain ⟨e, r⟩ := m; rw [hp] at e; cases e
    | ins n fs => obtain ⟨C, dx, vs, c, e, r⟩ := m; rw [hp] at e; cases e
theorem Sim0.trk {μ : Mu} {p : Addr} {o : HO} {m : MO} (s : Sim0 K F H μ) (hp : H p = none) (ok : ∀ {F' : Addr → Prop} {H' : Hp}, Grow F H F' H' → H' p = some o → MoOk K F' H' p m) :
    Grow F H F (upd H p o) ∧ Sim0 K F (upd H p o) (mset μ p m) := by
  obtain ⟨g, s1⟩ := s.new (o := o) hp
  refine ⟨g, s1.dom, fun a o' h => ?_⟩
  by_cases e : a = p
  · subst e
    rw [mset_same] at h
    cases h
    refine ⟨fun f => ?_, ok g upd_same⟩
    obtain ⟨u, hu⟩ := s.dom a f
    rw [hp] at hu
    cases hu
  · rw [mset_ne e] at h
    exact s1.obj a o' h
theorem Sim0.put {μ : Mu} {p : Addr} {o : HO} {m m0 : MO} (s : Sim0 K F H μ) (h0 : μ p = some m0) (ok : ∀ {F' : Addr → Prop} {H' : Hp}, Grow F H F' H' → H' p = some o → MoOk K F' H' p m) :
    Grow F H F (upd H p o) ∧ Sim0 K F (upd H p o) (mset μ p m) := by
  have ne : ∀ a, F a → a ≠ p := fun a f e => (s.obj p m0 h0).1 (e ▸ f)
  have g : Grow F H F (upd H p o) := by
    refine ⟨fun _ h => h, fun a u f h => ?_, fun a u f _ h => by rw [upd_ne (ne a f)]; exact h⟩
    rcases h with h | ⟨ob, h⟩
    · exact .inl (by rw [upd_ne (ne a f)]; exact h)
    · exact .inr ⟨ob, by rw [upd_ne (ne a f)]; exact h⟩
  refine ⟨g, fun a f => by rw [upd_ne (ne a f)]; exact s.dom a f, fun a o' h => ?_⟩
  by_cases e : a = p
  · subst e
    rw [mset_same] at h
    cases h
    exact ⟨(s.obj a m0 h0).1, ok g upd_same⟩
  · rw [mset_ne e] at h
    obtain ⟨nf, m⟩ := s.obj a o' h
    refine ⟨nf, ?_⟩
    cases o' with
    | lst xs => obtain ⟨vs, q, r⟩ := m; exact ⟨vs, by rw [upd_ne e]; exact q, r.grow g⟩
    | dct kvs => obtain ⟨vs, q, r⟩ := m; exact ⟨vs, by rw [upd_ne e]; exact q, r.grow g⟩
    | dcn kvs => obtain ⟨vs, q, r⟩ := m; exact ⟨vs, by rw [upd_ne e]; exact q, r.grow g⟩
    | dlk od ks kvs => obtain ⟨q, r⟩ := m; exact ⟨by rw [upd_ne e]; exact q, r.grow g⟩
    | ins n fs => obtain ⟨C, dx, vs, c, q, r⟩ := m; exact ⟨C, dx, vs, c, by rw [upd_ne e]; exact q, r.grow g⟩
def Fm (F : Addr → Prop) (μ : Mu) (H : Hp) (F' : Addr → Prop) (μ' : Mu) (H' : Hp) : Prop := ∀ a u, H a = some u → μ a = none → ¬ F a → μ' a = none ∧ H' a = some u ∧ ¬ F' a
theorem Fm.refl {μ : Mu} : Fm F μ H F μ H := fun _ _ h n z => ⟨n, h, z⟩
theorem Fm.trans {μ μ1 μ2 : Mu} {H1 H2 : Hp} {F1 F2 : Addr → Prop} (a : Fm F μ H F1 μ1 H1) (b : Fm F1 μ1 H1 F2 μ2 H2) : Fm F μ H F2 μ2 H2 := fun x u h n z =>
  let ⟨n1, h1, f1⟩ := a x u h n z
  b x u h1 n1 f1
theorem Fm.new {μ : Mu} {p : Addr} {o : HO} (hp : H p = none) : Fm F μ H F μ (upd H p o) := fun a u h n z => ⟨n, by rw [upd_ne (ne_of_none h hp)]; exact h, z⟩
theorem Fm.frz {μ : Mu} {p : Addr} {o : HO} (hp : H p = none) : Fm F μ H (fun a => F a ∨ a = p) μ (upd H p o) := fun a u h n z => ⟨n, by rw [upd_ne (ne_of_none h hp)]; exact h, fun q => q.elim z fun e => absurd e (ne_of_none h hp)⟩
theorem Fm.trk {μ : Mu} {p : Addr} {o : HO} {m : MO} (hp : H p = none) : Fm F μ H F (mset μ p m) (upd H p o) := fun a u h n z => ⟨by rw [mset_ne (ne_of_none h hp)]; exact n, by rw [upd_ne (ne_of_none h hp)]; exact h, z⟩
theorem Fm.put {μ : Mu} {p : Addr} {o : HO} {m m0 : MO} (h0 : μ p = some m0) : Fm F μ H F (mset μ p m) (upd H p o) := fun a u h n z => by
  have ne : a ≠ p := fun e => by rw [e, h0] at n; cases n
  exact ⟨by rw [mset_ne ne]; exact n, by rw [upd_ne ne]; exact h, z⟩
structure Zn (K : Kn) where
  his : (Addr → Prop) → Hp → Mu → Prop
  mono : ∀ {F H μ F' H' μ'}, Grow F H F' H' → Fm F μ H F' μ' H' → Sim0 K F' H' μ' → his F H μ → his F' H' μ'
def Zn.top (K : Kn) : Zn K := ⟨fun _ _ _ => True, fun _ _ _ _ => trivial⟩
structure Sim {K : Kn} (Z : Zn K) (F : Addr → Prop) (H : Hp) (μ : Mu) : Prop where
  raw : Sim0 K F H μ
  his : Z.his F H μ
variable {Z : Zn K}
theorem Sim.dom {μ : Mu} (s : Sim Z F H μ) : ∀ a, F a → ∃ u, H a = some u := s.raw.dom
theorem Sim.obj {μ : Mu} (s : Sim Z F H μ) : ∀ a o, μ a = some o → ¬ F a ∧ MoOk K F H a o := s.raw.obj
theorem Sim.free {μ : Mu} {p : Addr} (s : Sim Z F H μ) (hp : H p = none) : μ p = none := s.raw.free hp
structure Step {K : Kn} (Z : Zn K) (F : Addr → Prop) (H : Hp) (μ : Mu) (F' : Addr → Prop) (H' : Hp) (μ' : Mu) : Prop where
  grow : Grow F H F' H'
  fm : Fm F μ H F' μ' H'
  sim : Sim Z F' H' μ'
theorem Sim.step {μ μ' : Mu} (s : Sim Z F H μ) (g : Grow F H F' H') (m : Fm F μ H F' μ' H') (z : Sim0 K F' H' μ') : Step Z F H μ F' H' μ' := ⟨g, m, z, Z.mono g m z s.his⟩
theorem Sim.up {μ : Mu} (s : Sim Z F H μ) : Sim (Zn.top K) F H μ := ⟨s.raw, trivial⟩
theorem Step.on {μ μ' : Mu} {Y : Zn K} (g : Step Y F H μ F' H' μ') (s : Sim Z F H μ) : Step Z F H μ F' H' μ' := s.step g.grow g.fm g.sim.raw
theorem Step.refl {μ : Mu} (s : Sim Z F H μ) : Step Z F H μ F H μ := ⟨.refl, .refl, s⟩
theorem Step.trans {μ μ' μ'' : Mu} (a : Step Z F H μ F' H' μ') (b : Step Z F' H' μ' F'' H'' μ'') : Step Z F H μ F'' H'' μ'' := ⟨a.grow.trans b.grow, a.fm.trans b.fm, b.sim⟩
theorem Sim0.priv {μ : Mu} {p : Addr} {o : HO} (s : Sim0 K F H μ) (nF : ¬ F p) (nμ : μ p = none) : Grow F H F (upd H p o) ∧ Sim0 K F (upd H p o) μ := by
  have ne : ∀ a, F a → a ≠ p := fun a f e => nF (e ▸ f)
  have g : Grow F H F (upd H p o) := by
    refine ⟨fun _ h => h, fun a u f h => ?_, fun a u f _ h => by rw [upd_ne (ne a f)]; exact h⟩
    rcases h with h | ⟨ob, h⟩
    · exact .inl (by rw [upd_ne (ne a f)]; exact h)
    · exact .inr ⟨ob, by rw [upd_ne (ne a f)]; exact h⟩
  refine ⟨g, fun a f => by rw [upd_ne (ne a f)]; exact s.dom a f, fun a o' h => ?_⟩
  have e : a ≠ p := fun e => by rw [e, nμ] at h; cases h
  obtain ⟨nf, m⟩ := s.obj a o' h
  refine ⟨nf, ?_⟩
  cases o' with
  | lst xs => obtain ⟨vs, q, r⟩ := m; exact ⟨vs, by rw [upd_ne e]; exact q, r.grow g⟩
  | dct kvs => obtain ⟨vs, q, r⟩ := m; exact ⟨vs, by rw [upd_ne e]; exact q, r.grow g⟩
  | dcn kvs => obtain ⟨vs, q, r⟩ := m; exact ⟨vs, by rw [upd_ne e]; exact q, r.grow g⟩
  | dlk od ks kvs => obtain ⟨q, r⟩ := m; exact ⟨by rw [upd_ne e]; exact q, r.grow g⟩
  | ins n fs => obtain ⟨C, dx, vs, c, q, r⟩ := m; exact ⟨C, dx, vs, c, by rw [upd_ne e]; exact q, r.grow g⟩
theorem Step.priv {μ μ' : Mu} {p : Addr} {o : HO} (s0 : Sim Z F H μ) (s : Step Z F H μ F' H' μ') (hp : H p = none) (nF : ¬ F' p) (nμ : μ' p = none) : Step Z F H μ F' (upd H' p o) μ' := by
  obtain ⟨g, z⟩ := s.sim.raw.priv (o := o) nF nμ
  refine s0.step (s.grow.trans g) (fun a u h n z' => ?_) z
  obtain ⟨n1, h1, f1⟩ := s.fm a u h n z'
  exact ⟨n1, by rw [upd_ne (ne_of_none h hp)]; exact h1, f1⟩
theorem Step.shut {μ μ' : Mu} {p : Addr} {o : HO} (s0 : Sim Z F H μ) (s : Step Z F H μ F' H' μ') (hp : H p = none) (nμ : μ' p = none) (e : H' p = some o) : Step Z F H μ (fun a => F' a ∨ a = p) H' μ' := by
  have g1 : Grow F' H' (fun a => F' a ∨ a = p) H' := ⟨fun _ h => .inl h, fun _ _ _ h => h, fun _ _ _ _ h => h⟩
  refine s0.step (s.grow.trans g1) (fun a u h n z' => ?_) ⟨fun a f => ?_, fun a o' h => ?_⟩
  · obtain ⟨n1, h1, f1⟩ := s.fm a u h n z'
    exact ⟨n1, h1, fun z => z.elim f1 fun e => absurd e (ne_of_none h hp)⟩
  · rcases f with f | rfl
    · exact s.sim.dom a f
    · exact ⟨o, e⟩
  · obtain ⟨nf, m⟩ := s.sim.obj a o' h
    refine ⟨fun f => f.elim nf (fun e => by rw [e, nμ] at h; cases h), ?_⟩
    cases o' with
    | lst xs => obtain ⟨vs, e, r⟩ := m; exact ⟨vs, e, r.grow g1⟩
    | dct kvs => obtain ⟨vs, e, r⟩ := m; exact ⟨vs, e, r.grow g1⟩
    | dcn kvs => obtain ⟨vs, e, r⟩ := m; exact ⟨vs, e, r.grow g1⟩
    | dlk od ks kvs => obtain ⟨e, r⟩ := m; exact ⟨e, r.grow g1⟩
    | ins n fs => obtain ⟨C, dx, vs, c, e, r⟩ := m; exact ⟨C, dx, vs, c, e, r.grow g1⟩
theorem Rp.st {μ μ' : Mu} (r : Rp K F H d v) (s : Step Z F H μ F' H' μ') : Rp K F' H' d v := r.grow s.grow
theorem Rps.st {μ μ' : Mu} {ds : List D} {vs : List V} (r : Rps K F H ds vs) (s : Step Z F H μ F' H' μ') : Rps K F' H' ds vs := r.grow s.grow
theorem Rpk.st {μ μ' : Mu} {ds : List (Key × D)} {vs : List (Key × V)} (r : Rpk K F H ds vs) (s : Step Z F H μ F' H' μ') : Rpk K F' H' ds vs := r.grow s.grow
theorem Rpn.st {μ μ' : Mu} {ds : List (LK × D)} {vs : List (LK × Addr × V)} (r : Rpn K F H ds vs) (s : Step Z F H μ F' H' μ') : Rpn K F' H' ds vs := r.grow s.grow
theorem Rpf.st {μ μ' : Mu} {ds : List (Str × D)} {vs : List (Str × V)} (r : Rpf K F H ds vs) (s : Step Z F H μ F' H' μ') : Rpf K F' H' ds vs := r.grow s.grow
theorem Sl.st {μ μ' : Mu} {σ : St} {δ : St3} (r : Sl K F H σ δ) (s : Step Z F H μ F' H' μ') : Sl K F' H' σ δ := r.grow s.grow
theorem Sim.frzS {μ : Mu} {p : Addr} {o : HO} (s : Sim Z F H μ) (hp : H p = none) : Step Z F H μ (fun a => F a ∨ a = p) (upd H p o) μ := let ⟨g, z⟩ := s.raw.frz hp; s.step g (Fm.frz hp) z
theorem Sim.newS {μ : Mu} {p : Addr} {o : HO} (s : Sim Z F H μ) (hp : H p = none) : Step Z F H μ F (upd H p o) μ := let ⟨g, z⟩ := s.raw.new hp; s.step g (Fm.new hp) z
theorem Sim.trkS {μ : Mu} {p : Addr} {o : HO} {m : MO} (s : Sim Z F H μ) (hp : H p = none) (ok : ∀ {F' : Addr → Prop} {H' : Hp}, Grow F H F' H' → H' p = some o → MoOk K F' H' p m) :
    Step Z F H μ F (upd H p o) (mset μ p m) := let ⟨g, z⟩ := s.raw.trk hp ok; s.step g (Fm.trk hp) z
theorem Sim.putS {μ : Mu} {p : Addr} {o : HO} {m m0 : MO} (s : Sim Z F H μ) (h0 : μ p = some m0) (ok : ∀ {F' : Addr → Prop} {H' : Hp}, Grow F H F' H' → H' p = some o → MoOk K F' H' p m) :
    Step Z F H μ F (upd H p o) (mset μ p m) := let ⟨g, z⟩ := s.raw.put h0 ok; s.step g (Fm.put h0) z
end
end L3
namespace L3
open PySem L2
abbrev DK := D → Mu → Prop
abbrev TE3 := St3 → Mu → DK → Prop
abbrev TT3 := St3 → Mu → (Bool → Mu → Prop) → Prop
abbrev TA3 := St3 → Mu → (List D → Mu → Prop) → Prop
structure Ends3 where
  nx : St3 → Mu → Prop
  rt : DK
  bk : St3 → Mu → Prop := fun _ _ => False
  ct : St3 → Mu → Prop := fun _ _ => False
abbrev TS3 := Ends3 → St3 → Mu → Prop
def low {K : Kn} (Z : Zn K) (t : TE3) : TE := fun σ H Q => ∃ (F : Addr → Prop) (δ : St3) (μ : Mu) (R : DK), Sim Z F H μ ∧ Sl K F H σ δ ∧ t δ μ R ∧
  ∀ F' v H' d μ', Step Z F H μ F' H' μ' → Rp K F' H' d v → R d μ' → Q v H'
def lowT {K : Kn} (Z : Zn K) (t : TT3) : TT := fun σ H Q => ∃ (F : Addr → Prop) (δ : St3) (μ : Mu) (R : Bool → Mu → Prop), Sim Z F H μ ∧ Sl K F H σ δ ∧ t δ μ R ∧
  ∀ F' b H' μ', Step Z F H μ F' H' μ' → R b μ' → Q b H'
def lowA {K : Kn} (Z : Zn K) (t : TA3) : TA := fun σ H Q => ∃ (F : Addr → Prop) (δ : St3) (μ : Mu) (R : List D → Mu → Prop), Sim Z F H μ ∧ Sl K F H σ δ ∧ t δ μ R ∧
  ∀ F' vs H' ds μ', Step Z F H μ F' H' μ' → Rps K F' H' ds vs → R ds μ' → Q vs H'
structure EndsOk {K : Kn} (Z : Zn K) (F : Addr → Prop) (H : Hp) (μ : Mu) (D3 : Ends3) (D : Ends) : Prop where
  nx : ∀ F' σ' H' δ' μ', Step Z F H μ F' H' μ' → Sl K F' H' σ' δ' → D3.nx δ' μ' → D.nx σ' H'
  bk : ∀ F' σ' H' δ' μ', Step Z F H μ F' H' μ' → Sl K F' H' σ' δ' → D3.bk δ' μ' → D.bk σ' H'
  ct : ∀ F' σ' H' δ' μ', Step Z F H μ F' H' μ' → Sl K F' H' σ' δ' → D3.ct δ' μ' → D.ct σ' H'
  rt : ∀ F' v H' d μ', Step Z F H μ F' H' μ' → Rp K F' H' d v → D3.rt d μ' → D.rt v H'
theorem EndsOk.st {K : Kn} {Z : Zn K} {F F' : Addr → Prop} {H H' : Hp} {μ μ' : Mu} {D3 : Ends3} {D : Ends} (e : EndsOk Z F H μ D3 D) (g : Step Z F H μ F' H' μ') : EndsOk Z F' H' μ' D3 D :=
  ⟨fun a b c d m g' => e.nx a b c d m (g.trans g'), fun a b c d m g' => e.bk a b c d m (g.trans g'), fun a b c d m g' => e.ct a b c d m (g.trans g'), fun a b c d m g' => e.rt a b c d m (g.trans g')⟩
def lowS {K : Kn} (Z : Zn K) (t : TS3) : TS := fun D σ H => ∃ (F : Addr → Prop) (δ : St3) (μ : Mu) (D3 : Ends3), Sim Z F H μ ∧ Sl K F H σ δ ∧ t D3 δ μ ∧ EndsOk Z F H μ D3 D
def E3 (X : Cx) (Z : Zn X.kn) (e : Expr) (t : TE3) : Prop := PE X e (low Z t)
def T3 (X : Cx) (Z : Zn X.kn) (e : Expr) (t : TT3) : Prop := PT X e (lowT Z t)
def W3 (X : Cx) (Z : Zn X.kn) (e : Expr) (t : TT3) : Prop := PW X e (lowT Z t)
def A3 (X : Cx) (Z : Zn X.kn) (es : List Expr) (t : TA3) : Prop := PA X es (lowA Z t)
def S3 (X : Cx) (Z : Zn X.kn) (st : Stmt) (t : TS3) : Prop := PS X st (lowS Z t)
def Ss3 (X : Cx) (Z : Zn X.kn) (st : List Stmt) (t : TS3) : Prop := PSs X st (lowS Z t)
theorem _root_.L2.PE.imp {X : Cx} {e : Expr} {t t' : TE} (h : PE X e t) (i : ∀ σ H Q, t' σ H Q → t σ H Q) : PE X e t' := ⟨fun pins s σ H Q I q => h.run pins s σ H Q I (i _ _ _ q)⟩
theorem _root_.L2.PT.imp {X : Cx} {e : Expr} {t t' : TT} (h : PT X e t) (i : ∀ σ H Q, t' σ H Q → t σ H Q) : PT X e t' := ⟨fun pins s σ H Q I q => h.run pins s σ H Q I (i _ _ _ q)⟩
theorem _root_.L2.PW.imp {X : Cx} {e : Expr} {t t' : TT} (h : PW X e t) (i : ∀ σ H Q, t' σ H Q → t σ H Q) : PW X e t' := ⟨fun wh pins s σ H Q I q => h.run wh pins s σ H Q I (i _ _ _ q)⟩
theorem _root_.L2.PA.imp {X : Cx} {es : List Expr} {t t' : TA} (h : PA X es t) (i : ∀ σ H Q, t' σ H Q → t σ H Q) : PA X es t' := ⟨fun pos pins s σ H Q I q => h.run pos pins s σ H Q I (i _ _ _ q)⟩
theorem _root_.L2.PS.imp {X : Cx} {e : Stmt} {t t' : TS} (h : PS X e t) (i : ∀ D σ H, t' D σ H → t D σ H) : PS X e t' := ⟨fun pins s σ H D I q => h.run pins s σ H D I (i _ _ _ q)⟩
theorem _root_.L2.PSs.imp {X : Cx} {e : List Stmt} {t t' : TS} (h : PSs X e t) (i : ∀ D σ H, t' D σ H → t D σ H) : PSs X e t' := ⟨fun pins s σ H D I q => h.run pins s σ H D I (i _ _ _ q)⟩
section
variable {X : Cx} {Z : Zn X.kn} {e a b c : Expr} {es rest : List Expr} {ta tb tc : TE3} {pos : Pos}
def vVar (i : Nat) : TE3 := fun δ μ R => match δ[i]? with
  | some (some d) => R d μ
  | _ => False
theorem lowVar {K : Kn} {Z : Zn K} {i : Nat} {σ : St} {H : Hp} {Q : VK} (h : low Z (vVar i) σ H Q) : tVar i σ H Q := by
  obtain ⟨F, δ, μ, R, s, sl, h, k⟩ := h
  unfold vVar at h
  split at h
  · rename_i d e
    obtain ⟨v, e1, r⟩ := sl.at_ i d e
    exact ⟨v, e1, k F v H d μ (Step.refl s) r h⟩
  · exact h.elim
theorem e_var {x : Str} (i : Nat) (hN : X.N[i]? = some x := by rfl) (hv : Vis X.env.scope x := by first | exact Or.inl rfl | exact Or.inr (Or.inl rfl) | exact Or.inr (Or.inr rfl)) (hd : (x == ("__debug__" : Str)) = false := by decide) (hcd : (x == ("__classdict__" : Str)) = false := by decide) :
    E3 X Z (.Name x pos) (vVar i) := (pe_var hN hv hd hcd).imp fun _ _ _ h => lowVar h
def vC (d : D) : TE3 := fun _ μ R => R d μ
theorem lowC {K : Kn} {Z : Zn K} {d : D} {v : V} {σ : St} {H : Hp} {Q : VK} (r : ∀ F H, Rp K F H d v) (h : low Z (vC d) σ H Q) : tC v σ H Q := by
  obtain ⟨F, δ, μ, R, s, sl, h, k⟩ := h
  exact k F v H d μ (Step.refl s) (r F H) h
theorem e_int {i j} : E3 X Z (.Constant (.int i) j pos) (vC (.int i)) := pe_int.imp fun _ _ _ h => lowC (fun _ _ => .int i) h
theorem e_bl {b j} : E3 X Z (.Constant (.bool b) j pos) (vC (.bl b)) := pe_bl.imp fun _ _ _ h => lowC (fun _ _ => .bl b) h
theorem e_non {j} : E3 X Z (.Constant .none j pos) (vC .non) := pe_non.imp fun _ _ _ h => lowC (fun _ _ => .non) h
theorem e_str {x j} : E3 X Z (.Constant (.str x) j pos) (vC (.str x)) := pe_str.imp fun _ _ _ h => lowC (fun _ _ => .str x) h
theorem e_gint {x : Str} {i : Int} {t : Tok} (hm : X.mg x = some (.int i t)) (hg : Gl X x := by rfl) (hd : (x == ("__debug__" : Str)) = false := by decide) : E3 X Z (.Name x pos) (vC (.int i)) :=
  (pe_glob (v := .int i) hg hm ⟨t, rfl⟩ hd).imp fun _ _ _ h => lowC (v := .int i) (fun _ _ => .int i) h
theorem e_gstr {x z : Str} {t : Tok} (hm : X.mg x = some (.str z t)) (hg : Gl X x := by rfl) (hd : (x == ("__debug__" : Str)) = false := by decide) : E3 X Z (.Name x pos) (vC (.str z)) :=
  (pe_glob (v := .str z) hg hm ⟨t, rfl⟩ hd).imp fun _ _ _ h => lowC (v := .str z) (fun _ _ => .str z) h
theorem e_bty {x : Str} {n : String} (hm : X.mg x = none) (hv : bootBuiltins x = some (.type n)) (hg : Gl X x := by rfl) (hn : x ≠ "__name__" := by decide) (hd : (x == ("__debug__" : Str)) = false := by decide) : E3 X Z (.Name x pos) (vC (.ty n)) :=
  (pe_bltn (v := .ty n) hg hm hv rfl hn hd).imp fun _ _ _ h => lowC (v := .ty n) (fun _ _ => .ty n) h
def vNil : TA3 := fun _ μ R => R [] μ
def vCons (ta : TE3) (tr : TA3) : TA3 := fun δ μ R => ta δ μ fun d μ1 => tr δ μ1 fun ds μ2 => R (d :: ds) μ2
theorem a_nil : A3 X Z [] vNil := pa_nil.imp fun _ H Q h => by
  obtain ⟨F, δ, μ, R, s, sl, h, k⟩ := h
  exact k F [] H [] μ (Step.refl s) .nil h
theorem low_cons {K : Kn} {Z : Zn K} {tr : TA3} {σ : St} {H : Hp} {Q : List V → Hp → Prop} (h : lowA Z (vCons ta tr) σ H Q) : tCons (low Z ta) (lowA Z tr) σ H Q := by
  obtain ⟨F, δ, μ, R, s, sl, h, k⟩ := h
  exact ⟨F, δ, μ, _, s, sl, h, fun F' v H' d μ' g r q => ⟨F', δ, μ', _, g.sim, sl.st g, q, fun F'' vs H'' ds μ'' g' rs q' => k F'' (v :: vs) H'' (d :: ds) μ'' (g.trans g') (.cons (r.st g') rs) q'⟩⟩
theorem a_cons {tr : TA3} (ha : E3 X Z e ta) (hr : A3 X Z es tr) (hs : starEach (e :: es) X.env = (false, eval e X.env) :: starEach es X.env := by rfl) : A3 X Z (e :: es) (vCons ta tr) :=
  (pa_cons ha hr hs).imp fun _ _ _ h => low_cons h
abbrev G2 := D → D → Mu → DK → Prop
def OpL (X : Cx) (Z : Zn X.kn) (f : Value → Value → Sem Value) (G : G2) : Prop := ∃ r : R2, OpR X f r ∧ ∀ F H μ x y vx vy R Q, Sim Z F H μ → Rp X.kn F H x vx → Rp X.kn F H y vy → G x y μ R →
  (∀ F' v H' z μ', Step Z F H μ F' H' μ' → Rp X.kn F' H' z v → R z μ' → Q v H') → r vx vy H Q
def vOp (G : G2) (ta tb : TE3) : TE3 := fun δ μ R => ta δ μ fun x μ1 => tb δ μ1 fun y μ2 => G x y μ2 R
theorem low_op {K : Kn} {Z : Zn K} {r : R2} {G : G2} {σ : St} {H : Hp} {Q : VK} (hr : ∀ F H μ x y vx vy R Q, Sim Z F H μ → Rp K F H x vx → Rp K F H y vy → G x y μ R →
    (∀ F' v H' z μ', Step Z F H μ F' H' μ' → Rp K F' H' z v → R z μ' → Q v H') → r vx vy H Q) (h : low Z (vOp G ta tb) σ H Q) : tOp r (low Z ta) (low Z tb) σ H Q := by
  obtain ⟨F, δ, μ, R, s, sl, h, k⟩ := h
  exact ⟨F, δ, μ, _, s, sl, h, fun F1 v H1 d μ1 g r1 q1 => ⟨F1, δ, μ1, _, g.sim, sl.st g, q1, fun F2 u H2 d2 μ2 g2 r2 q2 =>
    hr F2 H2 μ2 d d2 v u R Q g2.sim (r1.st g2) r2 q2 fun F3 w H3 z μ3 g3 r3 q3 => k F3 w H3 z μ3 ((g.trans g2).trans g3) r3 q3⟩⟩
theorem e_op {op : Operator} {G : G2} (ho : OpL X Z (binaryOp op) G) (ha : E3 X Z a ta) (hb : E3 X Z b tb) : E3 X Z (.BinOp a op b pos) (vOp G ta tb) := by
  obtain ⟨r, hr, hl⟩ := ho
  exact (pe_op hr ha hb).imp fun _ _ _ h => low_op hl h
theorem e_cmp {op : CmpOp} {G : G2} (ho : OpL X Z (compareOp op) G) (ha : E3 X Z a ta) (hb : E3 X Z b tb) (hm : behindInMarks op b = false := by first | exact nomark _ | rfl) : E3 X Z (.Compare a [op] [b] pos) (vOp G ta tb) := by
  obtain ⟨r, hr, hl⟩ := ho
  exact (pe_cmpR hr ha hb hm).imp fun _ _ _ h => low_op hl h
def vB (t : TE3) : TT3 := fun δ μ R => t δ μ fun d μ1 => match d with
  | .bl b => R b μ1
  | _ => False
theorem low_B {K : Kn} {Z : Zn K} {σ : St} {H : Hp} {Q : Bool → Hp → Prop} (h : lowT Z (vB ta) σ H Q) : low Z ta σ H fun x H1 => ∃ c, x = .bl c ∧ Q c H1 := by
  obtain ⟨F, δ, μ, R, s, sl, h, k⟩ := h
  refine ⟨F, δ, μ, _, s, sl, h, fun F1 v H1 d μ1 g r1 q1 => ?_⟩
  cases d with
  | bl b => cases r1; exact ⟨b, rfl, k F1 b H1 μ1 g q1⟩
  | _ => exact (show False from q1).elim
theorem t_val (h : E3 X Z e ta) (he : ∀ whole, isTrue e X.env whole = (do let v ← whole; standAt e.pos; holding [v] (truthy v)) := by intro _; rfl) : T3 X Z e (vB ta) := (pt_val h he).imp fun _ _ _ h => low_B h
theorem t_cmp {op : CmpOp} {G : G2} (ho : OpL X Z (compareOp op) G) (ha : E3 X Z a ta) (hb : E3 X Z b tb) (hm : behindInMarks op b = false := by first | exact nomark _ | rfl) : T3 X Z (.Compare a [op] [b] pos) (vB (vOp G ta tb)) := by
  obtain ⟨r, hr, hl⟩ := ho
  refine (pt_cmpR hr ha hb hm).imp fun σ H Q h => ?_
  obtain ⟨F, δ, μ, R, s, sl, h, k⟩ := h
  refine low_op (Q := fun x H' => ∃ k, x = .bl k ∧ Q k H') hl ⟨F, δ, μ, _, s, sl, h, fun F1 v H1 d μ1 g r1 q1 => ?_⟩
  cases d with
  | bl b => cases r1; exact ⟨b, rfl, k F1 b H1 μ1 g q1⟩
  | _ => exact (show False from q1).elim
def vChain (G G' : G2) (ta tb tc : TE3) : TE3 := fun δ μ R => ta δ μ fun x μ1 => tb δ μ1 fun y μ2 => G x y μ2 fun z μ3 => match z with
  | .bl k => if k = true then tc δ μ3 fun w μ4 => G' y w μ4 R else R (.bl false) μ3
  | _ => False
theorem t_chain {op op' : CmpOp} {G G' : G2} (ho : OpL X Z (compareOp op) G) (ho' : OpL X Z (compareOp op') G') (ha : E3 X Z a ta) (hb : E3 X Z b tb) (hc : E3 X Z c tc) (hm : lastMarks [op, op'] [b, c] = false := by rfl) : T3 X Z (.Compare a [op, op'] [b, c] pos) (vB (vChain G G' ta tb tc)) := by
  obtain ⟨r, hr, hl⟩ := ho
  obtain ⟨r', hr', hl'⟩ := ho'
  refine (pt_chain hr hr' ha hb hc hm).imp fun σ H Q h => ?_
  obtain ⟨F, δ, μ, R, s, sl, h, k⟩ := h
  refine ⟨F, δ, μ, _, s, sl, h, fun F1 v H1 d μ1 g r1 q1 => ⟨F1, δ, μ1, _, g.sim, sl.st g, q1, fun F2 u H2 d2 μ2 g2 r2 q2 => ?_⟩⟩
  refine hl F2 H2 μ2 d d2 v u _ _ g2.sim (r1.st g2) r2 q2 fun F3 w H3 z μ3 g3 r3 q3 => ?_
  cases z with
  | bl b =>
    cases r3
    refine ⟨b, rfl, ?_⟩
    cases b with
    | true =>
      refine ⟨F3, δ, μ3, _, g3.sim, sl.st ((g.trans g2).trans g3), q3, fun F4 y H4 z μ4 g4 r4 q4 => hl' F4 H4 μ4 d2 z u y _ _ g4.sim (r2.st (g3.trans g4)) r4 q4 fun F5 w H5 z μ5 g5 r5 q5 => ?_⟩
      cases z with
      | bl b => cases r5; exact ⟨b, rfl, k F5 b H5 μ5 ((((g.trans g2).trans g3).trans g4).trans g5) q5⟩
      | _ => exact (show False from q5).elim
    | false => exact ⟨false, rfl, k F3 false H3 μ3 ((g.trans g2).trans g3) q3⟩
  | _ => exact (show False from q3).elim
variable {tA tB' : TT3}
def vAnd (t u : TT3) : TT3 := fun δ μ R => t δ μ fun c μ1 => if c = true then u δ μ1 R else R false μ1
def vOr (t u : TT3) : TT3 := fun δ μ R => t δ μ fun c μ1 => if c = true then R true μ1 else u δ μ1 R
def vNot (t : TT3) : TT3 := fun δ μ R => t δ μ fun c μ1 => R (!c) μ1
theorem w_and1 (ha : T3 X Z a tA) : W3 X Z (.BoolOp .And [a] pos) tA := pw_and1 ha
theorem w_or1 (ha : T3 X Z a tA) : W3 X Z (.BoolOp .Or [a] pos) tA := pw_or1 ha
theorem w_and (ha : T3 X Z a tA) (hb : W3 X Z (.BoolOp .And (b :: rest) pos) tB') : W3 X Z (.BoolOp .And (a :: b :: rest) pos) (vAnd tA tB') := (pw_and ha hb).imp fun σ H Q h => by
  obtain ⟨F, δ, μ, R, s, sl, h, k⟩ := h
  refine ⟨F, δ, μ, _, s, sl, h, fun F1 c H1 μ1 g q1 => ?_⟩
  cases c with
  | true => exact ⟨F1, δ, μ1, _, g.sim, sl.st g, q1, fun F2 c H2 μ2 g2 q2 => k F2 c H2 μ2 (g.trans g2) q2⟩
  | false => exact k F1 false H1 μ1 g q1
theorem w_or (ha : T3 X Z a tA) (hb : W3 X Z (.BoolOp .Or (b :: rest) pos) tB') : W3 X Z (.BoolOp .Or (a :: b :: rest) pos) (vOr tA tB') := (pw_or ha hb).imp fun σ H Q h => by
  obtain ⟨F, δ, μ, R, s, sl, h, k⟩ := h
  refine ⟨F, δ, μ, _, s, sl, h, fun F1 c H1 μ1 g q1 => ?_⟩
  cases c with
  | true => exact k F1 true H1 μ1 g q1
  | false => exact ⟨F1, δ, μ1, _, g.sim, sl.st g, q1, fun F2 c H2 μ2 g2 q2 => k F2 c H2 μ2 (g.trans g2) q2⟩
theorem t_w (h : W3 X Z e tA) : T3 X Z e tA := PW.pt h
theorem t_not (ha : T3 X Z a tA) : T3 X Z (.UnaryOp .Not a pos) (vNot tA) := (pt_not ha).imp fun σ H Q h => by
  obtain ⟨F, δ, μ, R, s, sl, h, k⟩ := h
  exact ⟨F, δ, μ, _, s, sl, h, fun F1 c H1 μ1 g q1 => k F1 (!c) H1 μ1 g q1⟩
def vAndV (ta tb : TE3) : TE3 := fun δ μ R => ta δ μ fun x μ1 => match x with
  | .bl c => if c = true then tb δ μ1 R else R (.bl false) μ1
  | _ => False
def vOrV (ta tb : TE3) : TE3 := fun δ μ R => ta δ μ fun x μ1 => match x with
  | .bl c => if c = true then R (.bl true) μ1 else tb δ μ1 R
  | _ => False
def vNotV (ta : TE3) : TE3 := fun δ μ R => ta δ μ fun x μ1 => match x with
  | .bl c => R (.bl (!c)) μ1
  | _ => False
theorem e_one {op} (h : E3 X Z a ta) : E3 X Z (.BoolOp op [a] pos) ta := pe_one h
theorem e_and (ha : E3 X Z a ta) (hb : E3 X Z (.BoolOp .And (b :: rest) pos) tb) : E3 X Z (.BoolOp .And (a :: b :: rest) pos) (vAndV ta tb) := (pe_and ha hb).imp fun σ H Q h => by
  obtain ⟨F, δ, μ, R, s, sl, h, k⟩ := h
  refine ⟨F, δ, μ, _, s, sl, h, fun F1 v H1 d μ1 g r1 q1 => ?_⟩
  cases d with
  | bl c =>
    cases r1
    refine ⟨c, rfl, ?_⟩
    cases c with
    | true => exact ⟨F1, δ, μ1, _, g.sim, sl.st g, q1, fun F2 v H2 d μ2 g2 r2 q2 => k F2 v H2 d μ2 (g.trans g2) r2 q2⟩
    | false => exact k F1 (.bl false) H1 (.bl false) μ1 g (.bl false) q1
  | _ => exact (show False from q1).elim
theorem e_not (ha : E3 X Z a ta) : E3 X Z (.UnaryOp .Not a pos) (vNotV ta) := (pe_not ha).imp fun σ H Q h => by
  obtain ⟨F, δ, μ, R, s, sl, h, k⟩ := h
  refine ⟨F, δ, μ, _, s, sl, h, fun F1 v H1 d μ1 g r1 q1 => ?_⟩
  cases d with
  | bl c => cases r1; exact ⟨c, rfl, k F1 (.bl (!c)) H1 (.bl (!c)) μ1 g (.bl (!c)) q1⟩
  | _ => exact (show False from q1).elim
def vIf (t : TT3) (ta tb : TE3) : TE3 := fun δ μ R => t δ μ fun c μ1 => if c = true then ta δ μ1 R else tb δ μ1 R
theorem e_if (hc : T3 X Z c tA) (ha : E3 X Z a ta) (hb : E3 X Z b tb) : E3 X Z (.IfExp c a b pos) (vIf tA ta tb) := (pe_ifExp hc ha hb).imp fun σ H Q h => by
  obtain ⟨F, δ, μ, R, s, sl, h, k⟩ := h
  refine ⟨F, δ, μ, _, s, sl, h, fun F1 c H1 μ1 g q1 => ?_⟩
  cases c with
  | true => exact ⟨F1, δ, μ1, _, g.sim, sl.st g, q1, fun F2 v H2 d μ2 g2 r2 q2 => k F2 v H2 d μ2 (g.trans g2) r2 q2⟩
  | false => exact ⟨F1, δ, μ1, _, g.sim, sl.st g, q1, fun F2 v H2 d μ2 g2 r2 q2 => k F2 v H2 d μ2 (g.trans g2) r2 q2⟩
def UnL (X : Cx) (Z : Zn X.kn) (f : Value → Sem Value) (G : D → Mu → DK → Prop) : Prop := ∃ r, UnR X f r ∧ ∀ F H μ x vx R Q, Sim Z F H μ → Rp X.kn F H x vx → G x μ R →
  (∀ F' v H' z μ', Step Z F H μ F' H' μ' → Rp X.kn F' H' z v → R z μ' → Q v H') → r vx H Q
def vUn (G : D → Mu → DK → Prop) (ta : TE3) : TE3 := fun δ μ R => ta δ μ fun x μ1 => G x μ1 R
theorem e_un {op : UnaryOp} {G : D → Mu → DK → Prop} (ho : UnL X Z (unaryOp op) G) (ha : E3 X Z a ta) : E3 X Z (.UnaryOp op a pos) (vUn G ta) := by
  obtain ⟨r, hr, hl⟩ := ho
  refine (pe_un hr ha).imp fun σ H Q h => ?_
  obtain ⟨F, δ, μ, R, s, sl, h, k⟩ := h
  exact ⟨F, δ, μ, _, s, sl, h, fun F1 v H1 d μ1 g r1 q1 => hl F1 H1 μ1 d v R Q g.sim r1 q1 fun F2 w H2 z μ2 g2 r2 q2 => k F2 w H2 z μ2 (g.trans g2) r2 q2⟩
abbrev GA := List D → Mu → DK → Prop
def CallL (X : Cx) (Z : Zn X.kn) (f : Value) (G : GA) : Prop := ∃ r, CallR X f r ∧ ∀ F H μ ds vs R Q, Sim Z F H μ → Rps X.kn F H ds vs → G ds μ R →
  (∀ F' v H' z μ', Step Z F H μ F' H' μ' → Rp X.kn F' H' z v → R z μ' → Q v H') → r vs H Q
def vCB (G : GA) (ta : TA3) : TE3 := fun δ μ R => ta δ μ fun ds μ1 => G ds μ1 R
variable {tr : TA3} {x : Str} {p : Pos} {id T : String}
theorem low_cb {K : Kn} {Z : Zn K} {r : List V → Hp → VK → Prop} {G : GA} {σ : St} {H : Hp} {Q : VK} (hl : ∀ F H μ ds vs R Q, Sim Z F H μ → Rps K F H ds vs → G ds μ R →
    (∀ F' v H' z μ', Step Z F H μ F' H' μ' → Rp K F' H' z v → R z μ' → Q v H') → r vs H Q) (h : low Z (vCB G tr) σ H Q) : tCB r (lowA Z tr) σ H Q := by
  obtain ⟨F, δ, μ, R, s, sl, h, k⟩ := h
  exact ⟨F, δ, μ, _, s, sl, h, fun F1 v H1 d μ1 g r1 q1 => hl F1 H1 μ1 d v R Q g.sim r1 q1 fun F2 w H2 z μ2 g2 r2 q2 => k F2 w H2 z μ2 (g.trans g2) r2 q2⟩
theorem e_callB {G : GA} (hc : CallL X Z (.builtin id) G) (hm : X.mg x = none) (hv : bootBuiltins x = some (.builtin id)) (ha : A3 X Z (e :: es) tr) (hg : Gl X x := by rfl) (hn : x ≠ "__name__" := by decide) (hdb : (x == ("__debug__" : Str)) = false := by decide)
    (he : starEach (e :: es) X.env = (false, eval e X.env) :: starEach es X.env := by rfl) (hpl : (backTo pos (starEach es X.env)).any (·.1) = false := by rfl) : E3 X Z (.Call (.Name x p) (e :: es) [] pos) (vCB G tr) := by
  obtain ⟨r, hr, hl⟩ := hc
  exact (pe_callB hr hg hm hv ha hn hdb he hpl).imp fun σ H Q h => low_cb hl h
theorem e_callTy {G : GA} (hc : CallL X Z (.type T) G) (hm : X.mg x = none) (hv : bootBuiltins x = some (.type T)) (ha : A3 X Z (e :: es) tr) (hg : Gl X x := by rfl) (hn : x ≠ "__name__" := by decide) (hdb : (x == ("__debug__" : Str)) = false := by decide)
    (he : starEach (e :: es) X.env = (false, eval e X.env) :: starEach es X.env := by rfl) (hpl : (backTo pos (starEach es X.env)).any (·.1) = false := by rfl) : E3 X Z (.Call (.Name x p) (e :: es) [] pos) (vCB G tr) := by
  obtain ⟨r, hr, hl⟩ := hc
  exact (pe_callTy hr hg hm hv ha hn hdb he hpl).imp fun σ H Q h => low_cb hl h
def vLst (ta : TA3) : TE3 := fun δ μ R => ta δ μ fun ds μ1 => ds.length ≤ sizeLine ∧ R (.lst ds) μ1
def vTup (ta : TA3) : TE3 := fun δ μ R => ta δ μ fun ds μ1 => ds.length ≤ sizeLine ∧ R (.tup ds) μ1
def vLstT (ta : TA3) : TE3 := fun δ μ R => ta δ μ fun ds μ1 => ds.length ≤ sizeLine ∧ ∀ q, μ1 q = none → R (.ref q) (mset μ1 q (.lst ds))
theorem e_lst (h : A3 X Z es tr) : E3 X Z (.List es pos) (vLst tr) := (pe_lst h).imp fun σ H Q h => by
  obtain ⟨F, δ, μ, R, s, sl, h, k⟩ := h
  refine ⟨F, δ, μ, _, s, sl, h, fun F1 vs H1 ds μ1 g r1 ⟨z, q1⟩ => ⟨by rw [← r1.length]; exact z, fun p hp => ?_⟩⟩
  have g2 := g.sim.frzS (o := .lst vs) hp
  exact k _ (.ref p) _ (.lst ds) μ1 (g.trans g2) (.lst (.inr rfl) upd_same (r1.st g2)) q1
theorem e_tup {x1} (h : A3 X Z es tr) : E3 X Z (.Tuple es x1 pos) (vTup tr) := (pe_tup h).imp fun σ H Q h => by
  obtain ⟨F, δ, μ, R, s, sl, h, k⟩ := h
  refine ⟨F, δ, μ, _, s, sl, h, fun F1 vs H1 ds μ1 g r1 ⟨z, q1⟩ => ⟨by rw [← r1.length]; exact z, fun p hp => ?_⟩⟩
  have g2 := g.sim.frzS (o := .tup vs) hp
  exact k _ (.ref p) _ (.tup ds) μ1 (g.trans g2) (.tup (.inr rfl) upd_same (r1.st g2)) q1
theorem e_lstT (h : A3 X Z es tr) : E3 X Z (.List es pos) (vLstT tr) := (pe_lst h).imp fun σ H Q h => by
  obtain ⟨F, δ, μ, R, s, sl, h, k⟩ := h
  refine ⟨F, δ, μ, _, s, sl, h, fun F1 vs H1 ds μ1 g r1 ⟨z, q1⟩ => ⟨by rw [← r1.length]; exact z, fun p hp => ?_⟩⟩
  have g2 := g.sim.trkS (o := .lst vs) (m := .lst ds) hp fun g' e => ⟨vs, e, r1.grow g'⟩
  exact k _ (.ref p) _ (.ref p) _ (g.trans g2) (.ref p) (q1 p (g.sim.free hp))
end
end L3
namespace L3
open PySem PySem.Spec L2
mutual
inductive Fr (μ μ' : Mu) : D → D → Prop
  | same (d : D) : Fr μ μ' d d
  | lst {a : Addr} {xs ys : List D} : μ a = some (.lst xs) → μ' a = none → Frs μ μ' xs ys → Fr μ μ' (.ref a) (.lst ys)
  | dct {a : Addr} {xs ys : List (Key × D)} : μ a = some (.dct xs) → μ' a = none → Frk μ μ' xs ys → Fr μ μ' (.ref a) (.dct ys)
  | obj {a : Addr} {C : Str} {xs ys : List (Str × D)} : μ a = some (.ins C xs) → μ' a = none → Frf μ μ' xs ys → Fr μ μ' (.ref a) (.obj C ys)
  | inL {xs ys : List D} : Frs μ μ' xs ys → Fr μ μ' (.lst xs) (.lst ys)
  | inT {xs ys : List D} : Frs μ μ' xs ys → Fr μ μ' (.tup xs) (.tup ys)
  | inD {xs ys : List (Key × D)} : Frk μ μ' xs ys → Fr μ μ' (.dct xs) (.dct ys)
  | inO {C : Str} {xs ys : List (Str × D)} : Frf μ μ' xs ys → Fr μ μ' (.obj C xs) (.obj C ys)
  | dcn {a : Addr} {xs ys : List (LK × D)} : μ a = some (.dcn xs) → μ' a = none → Frn μ μ' xs ys → Fr μ μ' (.ref a) (.dcn ys)
  | inN {xs ys : List (LK × D)} : Frn μ μ' xs ys → Fr μ μ' (.dcn xs) (.dcn ys)
inductive Frs (μ μ' : Mu) : List D → List D → Prop
  | nil : Frs μ μ' [] []
  | cons {d e : D} {ds es : List D} : Fr μ μ' d e → Frs μ μ' ds es → Frs μ μ' (d :: ds) (e :: es)
inductive Frk (μ μ' : Mu) : List (Key × D) → List (Key × D) → Prop
  | nil : Frk μ μ' [] []
  | cons {k : Key} {d e : D} {ds es : List (Key × D)} : Fr μ μ' d e → Frk μ μ' ds es → Frk μ μ' ((k, d) :: ds) ((k, e) :: es)
inductive Frn (μ μ' : Mu) : List (LK × D) → List (LK × D) → Prop
  | nil : Frn μ μ' [] []
  | cons {k : LK} {d e : D} {ds es : List (LK × D)} : Fr μ μ' d e → Frn μ μ' ds es → Frn μ μ' ((k, d) :: ds) ((k, e) :: es)
inductive Frf (μ μ' : Mu) : List (Str × D) → List (Str × D) → Prop
  | nil : Frf μ μ' [] []
  | cons {k : Str} {d e : D} {ds es : List (Str × D)} : Fr μ μ' d e → Frf μ μ' ds es → Frf μ μ' ((k, d) :: ds) ((k, e) :: es)
end
theorem Frs.same {μ μ' : Mu} : ∀ xs : List D, Frs μ μ' xs xs
  | [] => .nil
  | x :: r => .cons (.same x) (Frs.same r)
theorem Frk.same {μ μ' : Mu} : ∀ xs : List (Key × D), Frk μ μ' xs xs
  | [] => .nil
  | (k, x) :: r => .cons (.same x) (Frk.same r)
theorem Frn.same {μ μ' : Mu} : ∀ xs : List (LK × D), Frn μ μ' xs xs
  | [] => .nil
  | (k, x) :: r => .cons (.same x) (Frn.same r)
theorem Frf.same {μ μ' : Mu} : ∀ xs : List (Str × D), Frf μ μ' xs xs
  | [] => .nil
  | (k, x) :: r => .cons (.same x) (Frf.same r)
def Le (μ' μ : Mu) : Prop := ∀ a o, μ' a = some o → μ a = some o
theorem Le.refl (μ : Mu) : Le μ μ := fun _ _ h => h
theorem Le.trans {a b c : Mu} (h : Le a b) (k : Le b c) : Le a c := fun x o e => k x o (h x o e)
theorem Le.mset {μ' μ : Mu} {a : Addr} {o : MO} (h : Le μ' μ) (hn : μ' a = none) : Le μ' (mset μ a o) := fun b u e => by
  by_cases hb : b = a
  · subst hb; rw [hn] at e; cases e
  · rw [mset_ne hb]; exact h b u e
section
variable {K : Kn} {F : Addr → Prop} {H : Hp} {μ μ' : Mu}
def gone (F : Addr → Prop) (μ μ' : Mu) : Addr → Prop := fun a => F a ∨ ((∃ o, μ a = some o) ∧ μ' a = none)
theorem gone_grow : Grow F H (gone F μ μ') H := ⟨fun _ h => .inl h, fun _ _ _ h => h, fun _ _ _ _ h => h⟩
theorem Sim0.dropped (s : Sim0 K F H μ) (l : Le μ' μ) : Sim0 K (gone F μ μ') H μ' := by
  have mo : ∀ {a o}, MoOk K F H a o → MoOk K (gone F μ μ') H a o := fun {a o} m => by
    cases o with
    | lst xs => obtain ⟨vs, e, r⟩ := m; exact ⟨vs, e, r.grow gone_grow⟩
    | dct kvs => obtain ⟨vs, e, r⟩ := m; exact ⟨vs, e, r.grow gone_grow⟩
    | dcn kvs => obtain ⟨vs, e, r⟩ := m; exact ⟨vs, e, r.grow gone_grow⟩
    | dlk od ks kvs => obtain ⟨e, r⟩ := m; exact ⟨e, r.grow gone_grow⟩
    | ins n fs => obtain ⟨C, dx, vs, c, e, r⟩ := m; exact ⟨C, dx, vs, c, e, r.grow gone_grow⟩
  refine ⟨fun a f => ?_, fun a o e => ?_⟩
  · rcases f with f | ⟨⟨o, e⟩, _⟩
    · exact s.dom a f
    · have m := (s.obj a o e).2
      cases o with
      | lst xs => obtain ⟨vs, e, r⟩ := m; exact ⟨_, e⟩
      | dct kvs => obtain ⟨vs, e, r⟩ := m; exact ⟨_, e⟩
      | dcn kvs => obtain ⟨vs, e, r⟩ := m; exact ⟨_, e⟩
      | dlk od ks kvs => obtain ⟨e, r⟩ := m; exact ⟨_, e⟩
      | ins n fs => obtain ⟨C, dx, vs, c, e, r⟩ := m; exact ⟨_, e⟩
  · obtain ⟨nf, m⟩ := s.obj a o (l a o e)
    refine ⟨fun f => ?_, mo m⟩
    rcases f with f | ⟨_, n⟩
    · exact nf f
    · rw [e] at n; cases n
variable {Z : Zn K}
theorem Fm.drop (l : Le μ' μ) : Fm F μ H (gone F μ μ') μ' H := by
  have ee : ∀ a, μ a = none → μ' a = none := fun a n => by
    cases e : μ' a with
    | none => rfl
    | some o => rw [l a o e] at n; cases n
  refine fun a u h n z' => ⟨ee a n, h, fun z => ?_⟩
  rcases z with z | ⟨⟨o, z⟩, _⟩
  · exact z' z
  · rw [n] at z; cases z
theorem Sim.dropS (s : Sim Z F H μ) (l : Le μ' μ) : Step Z F H μ (gone F μ μ') H μ' := s.step gone_grow (Fm.drop l) (s.raw.dropped l)
mutual
theorem Rp.gone (s : Sim0 K F H μ) {d d' : D} : ∀ {v : V}, Fr μ μ' d d' → Rp K F H d v → Rp K (gone F μ μ') H d' v
  | _, .same _, r => r.grow gone_grow
  | _, .lst h n q, r => by
    cases r
    obtain ⟨vs, e, rs⟩ := (s.obj _ _ h).2
    exact .lst (.inr ⟨⟨_, h⟩, n⟩) e (Rps.gone s q rs)
  | _, .dct h n q, r => by
    cases r
    obtain ⟨vs, e, rs⟩ := (s.obj _ _ h).2
    exact .dct (.inr ⟨⟨_, h⟩, n⟩) (.inl e) (Rpk.gone s q rs)
  | _, .obj h n q, r => by
    cases r
    obtain ⟨C, dx, vs, c, e, rs⟩ := (s.obj _ _ h).2
    exact .obj c (.inr ⟨⟨_, h⟩, n⟩) e (Rpf.gone s q rs)
  | _, .inL q, r => by
    cases r with
    | lst f e rs => exact .lst (.inl f) e (Rps.gone s q rs)
  | _, .inT q, r => by
    cases r with
    | tup f e rs => exact .tup (.inl f) e (Rps.gone s q rs)
  | _, .inD q, r => by
    cases r with
    | dct f e rs => exact .dct (.inl f) e (Rpk.gone s q rs)
  | _, .inO q, r => by
    cases r with
    | obj c f e rs => exact .obj c (.inl f) e (Rpf.gone s q rs)
  | _, .dcn h n q, r => by
    cases r
    obtain ⟨vs, e, rs⟩ := (s.obj _ _ h).2
    exact .dcn (.inr ⟨⟨_, h⟩, n⟩) e (Rpn.gone s q rs)
  | _, .inN q, r => by
    cases r with
    | dcn f e rs => exact .dcn (.inl f) e (Rpn.gone s q rs)
theorem Rps.gone (s : Sim0 K F H μ) {ds es : List D} : ∀ {vs : List V}, Frs μ μ' ds es → Rps K F H ds vs → Rps K (gone F μ μ') H es vs
  | _, .nil, r => by cases r; exact .nil
  | _, .cons q t, r => by
    cases r with
    | cons h rs => exact .cons (Rp.gone s q h) (Rps.gone s t rs)
theorem Rpk.gone (s : Sim0 K F H μ) {ds es : List (Key × D)} : ∀ {vs : List (Key × V)}, Frk μ μ' ds es → Rpk K F H ds vs → Rpk K (gone F μ μ') H es vs
  | _, .nil, r => by cases r; exact .nil
  | _, .cons q t, r => by
    cases r with
    | cons h rs => exact .cons (Rp.gone s q h) (Rpk.gone s t rs)
theorem Rpn.gone (s : Sim0 K F H μ) {ds es : List (LK × D)} : ∀ {vs : List (LK × Addr × V)}, Frn μ μ' ds es → Rpn K F H ds vs → Rpn K (gone F μ μ') H es vs
  | _, .nil, r => by cases r; exact .nil
  | _, .cons q t, r => by
    cases r with
    | cons f e h rs => exact .cons (.inl f) e (Rp.gone s q h) (Rpn.gone s t rs)
theorem Rpf.gone (s : Sim0 K F H μ) {ds es : List (Str × D)} : ∀ {vs : List (Str × V)}, Frf μ μ' ds es → Rpf K F H ds vs → Rpf K (gone F μ μ') H es vs
  | _, .nil, r => by cases r; exact .nil
  | _, .cons q t, r => by
    cases r with
    | cons h rs => exact .cons (Rp.gone s q h) (Rpf.gone s t rs)
end
end
def fin (R : DK) (d : D) (μ : Mu) : Prop := ∃ d' μ', Le μ' μ ∧ Fr μ μ' d d' ∧ R d' μ'
theorem fin_same {R : DK} {d : D} {μ μ' : Mu} (l : Le μ' μ) (h : R d μ') : fin R d μ := ⟨d, μ', l, .same d, h⟩
theorem fin_now {R : DK} {d : D} {μ : Mu} (h : R d μ) : fin R d μ := fin_same (Le.refl μ) h
theorem fin_lst {R : DK} {a : Addr} {xs : List D} {μ μ' : Mu} (l : Le μ' μ) (e : μ a = some (.lst xs)) (n : μ' a = none) (h : R (.lst xs) μ') : fin R (.ref a) μ := ⟨_, μ', l, .lst e n (Frs.same xs), h⟩
theorem fin_dct {R : DK} {a : Addr} {xs : List (Key × D)} {μ μ' : Mu} (l : Le μ' μ) (e : μ a = some (.dct xs)) (n : μ' a = none) (h : R (.dct xs) μ') : fin R (.ref a) μ := ⟨_, μ', l, .dct e n (Frk.same xs), h⟩
abbrev Sp3 := List D → Mu → DK → Prop
def lift (K : Kn) (n : Nat) (sp : Sp3) : Sp := fun vs H Q _ => ∃ (F : Addr → Prop) (ds : List D) (μ : Mu) (R : DK), ds.length = n ∧ Sim (Zn.top K) F H μ ∧ Rps K F H ds vs ∧ sp ds μ R ∧
  ∀ F' v H' d μ', Step (Zn.top K) F H μ F' H' μ' → Rp K F' H' d v → R d μ' → Q v H'
def start3 (N : List Str) (ds : List D) : St3 := ds.map some ++ List.replicate (N.length - ds.length) none
theorem Sl.start {K : Kn} {F : Addr → Prop} {H : Hp} {N : List Str} {ds : List D} {vs : List V} (r : Rps K F H ds vs) : Sl K F H (L2.start N vs) (start3 N ds) := by
  have hl := r.length
  refine ⟨by simp [L2.start, start3, hl], fun i d e => ?_⟩
  unfold start3 at e
  by_cases h : i < ds.length
  · rw [List.getElem?_append_left (by simpa using h), List.getElem?_map] at e
    cases q : ds[i]? with
    | none => rw [q] at e; cases e
    | some x =>
      rw [q] at e
      cases e
      obtain ⟨v, e1, r1⟩ := r.get q
      refine ⟨v, ?_, r1⟩
      unfold L2.start
      rw [List.getElem?_append_left (by simp [← hl, h]), List.getElem?_map, e1]
      rfl
  · rw [List.getElem?_append_right (by simpa using Nat.le_of_not_lt h), List.getElem?_replicate] at e
    split at e <;> cases e
def endsOf (R : DK) : Ends3 := { nx := fun _ μ => fin R .non μ, rt := fun d μ => fin R d μ }
section
variable {P : Program} {w : World} {K : Kn} {mg : Str → Option Value} {base : Heap}
theorem lift_len {n : Nat} {sp : Sp3} {vs : List V} {H : Hp} {Q : VK} {E : XK} (h : lift K n sp vs H Q E) : vs.length = n := by
  obtain ⟨F, ds, μ, R, l, _, r, _⟩ := h
  rw [← r.length]
  exact l
theorem fin_ends {Z : Zn K} {F : Addr → Prop} {H : Hp} {μ : Mu} {R : DK} {Q : VK} (k : ∀ F' v H' d μ', Step Z F H μ F' H' μ' → Rp K F' H' d v → R d μ' → Q v H') : EndsOk Z F H μ (endsOf R) { nx := fun _ H' => Q .non H', rt := Q } := by
  refine ⟨fun F' σ' H' δ' μ' g _ h => ?_, fun _ _ _ _ _ _ _ h => h.elim, fun _ _ _ _ _ _ _ h => h.elim, fun F' v H' d μ' g r h => ?_⟩
  · obtain ⟨d', μ'', l, f, q⟩ := h
    exact k _ .non H' d' μ'' (g.trans (g.sim.dropS l)) (Rp.gone g.sim.raw f .non) q
  · obtain ⟨d', μ'', l, f, q⟩ := h
    exact k _ v H' d' μ'' (g.trans (g.sim.dropS l)) (Rp.gone g.sim.raw f r) q
end
def vCall (n : Nat) (sp : Sp3) (tr : TA3) : TE3 := fun δ μ R => tr δ μ fun ds μ1 => ds.length = n ∧ sp ds μ1 R
section
variable {X : Cx} {Z : Zn X.kn} {e : Expr} {es : List Expr} {tr : TA3} {te : TE3} {x : Str} {p pos : Pos} {st : Stmt} {rest : List Stmt} {t u : TS3}
def sNext : TS3 := fun D δ μ => D.nx δ μ
def sSeq (t u : TS3) : TS3 := fun D δ μ => t { D with nx := u D } δ μ
theorem ss_nil : Ss3 X Z [] sNext := pss_nil.imp fun D σ H h => by
  obtain ⟨F, δ, μ, D3, s, sl, h, k⟩ := h
  exact k.nx F σ H δ μ (Step.refl s) sl h
theorem ss_cons (h1 : S3 X Z st t) (h2 : Ss3 X Z rest u) : Ss3 X Z (st :: rest) (sSeq t u) := (pss_cons h1 h2).imp fun D σ H h => by
  obtain ⟨F, δ, μ, D3, s, sl, h, k⟩ := h
  exact ⟨F, δ, μ, _, s, sl, h, ⟨fun F' σ' H' δ' μ' g sl' q => ⟨F', δ', μ', D3, g.sim, sl', q, k.st g⟩, k.bk, k.ct, k.rt⟩⟩
theorem ss_one (h1 : S3 X Z st t) : Ss3 X Z [st] t := pss_one h1
def sCont : TS3 := fun D δ μ => D.ct δ μ
theorem s_cont : S3 X Z (.Continue pos) sCont := ps_continue.imp fun D σ H h => by
  obtain ⟨F, δ, μ, D3, s, sl, h, k⟩ := h
  exact k.ct F σ H δ μ (Step.refl s) sl h
def sNever : TS3 := fun _ _ _ => False
theorem s_never : S3 X Z st sNever := ps_never.imp fun D σ H h => by
  obtain ⟨F, δ, μ, D3, s, sl, h, k⟩ := h
  exact h
def sDrop (te : TE3) : TS3 := fun D δ μ => te δ μ fun _ μ1 => D.nx δ μ1
theorem s_expr (he : E3 X Z e te) (hs : swapsWith e none pos.line X.env = pure false := by rfl) : S3 X Z (.Expr e pos) (sDrop te) := (ps_expr he hs).imp fun D σ H h => by
  obtain ⟨F, δ, μ, D3, s, sl, h, k⟩ := h
  exact ⟨F, δ, μ, _, s, sl, h, fun F1 v H1 d μ1 g r1 q1 => k.nx F1 σ H1 δ μ1 g (sl.st g) q1⟩
def sRet (te : TE3) : TS3 := fun D δ μ => te δ μ D.rt
theorem s_ret (he : E3 X Z e te) : S3 X Z (.Return (some e) pos) (sRet te) := (ps_ret he).imp fun D σ H h => by
  obtain ⟨F, δ, μ, D3, s, sl, h, k⟩ := h
  exact ⟨F, δ, μ, _, s, sl, h, fun F1 v H1 d μ1 g r1 q1 => k.rt F1 v H1 d μ1 g r1 q1⟩
def sRetN : TS3 := fun D _ μ => D.rt .non μ
def sIf (c : TT3) (t u : TS3) : TS3 := fun D δ μ => c δ μ fun b μ1 => if b = true then t D δ μ1 else u D δ μ1
theorem s_if {c : Expr} {a b : List Stmt} {tc : TT3} (hc : T3 X Z c tc) (ha : Ss3 X Z a t) (hb : Ss3 X Z b u) : S3 X Z (.If c a b pos) (sIf tc t u) := (ps_if hc ha hb).imp fun D σ H h => by
  obtain ⟨F, δ, μ, D3, s, sl, h, k⟩ := h
  refine ⟨F, δ, μ, _, s, sl, h, fun F1 c H1 μ1 g q1 => ?_⟩
  cases c with
  | true => exact ⟨F1, δ, μ1, D3, g.sim, sl.st g, q1, k.st g⟩
  | false => exact ⟨F1, δ, μ1, D3, g.sim, sl.st g, q1, k.st g⟩
abbrev TG3 := D → St3 → Option St3
structure TgL (K : Kn) (g2 : TG) (g3 : TG3) (vs : List Nat) : Prop where
  run : ∀ (F : Addr → Prop) (H : Hp) (σ : L2.St) (δ δ' : St3) (d : D) (v : V) (Q : L2.St → Hp → Prop), Sl K F H σ δ → Rp K F H d v → g3 d δ = some δ' →
    (∀ σ', (∀ ws : List Nat, (∀ i ∈ vs, i ∈ ws) → wipe σ' ws = wipe σ ws) → Sl K F H σ' δ' → Q σ' H) → g2 v σ H Q
def G3 (X : Cx) (tg : Expr) (g3 : TG3) (vs : List Nat) : Prop := ∃ g2, PG X tg g2 ∧ TgL X.kn g2 g3 vs
def gN (i : Nat) : TG3 := fun d δ => some (δ.set i (some d))
theorem wipe_set_mem (σ : L2.St) (x : Option V) : ∀ (ws : List Nat) (i : Nat), i ∈ ws → wipe (σ.set i x) ws = wipe σ ws
  | [], _, h => by cases h
  | w :: ws, i, h => by
    show (wipe (σ.set i x) ws).set w none = (wipe σ ws).set w none
    by_cases hi : i ∈ ws
    · rw [wipe_set_mem σ x ws i hi]
    · have hw : i = w := by
        rcases List.mem_cons.mp h with e | e
        · exact e
        · exact absurd e hi
      subst hw
      have : ∀ (vs : List Nat) (τ : L2.St), i ∉ vs → wipe (τ.set i x) vs = (wipe τ vs).set i x := by
        intro vs
        induction vs with
        | nil => intro τ _; rfl
        | cons v vs ih =>
          intro τ hn
          show (wipe (τ.set i x) vs).set v none = ((wipe τ vs).set v none).set i x
          rw [ih τ (fun z => hn (List.mem_cons_of_mem _ z))]
          rw [List.set_comm _ _ (show i ≠ v from fun e => hn (e ▸ List.mem_cons_self))]
      rw [this ws σ hi, List.set_set]
theorem g_name {i : Nat} {x : Str} (hN : X.N.Nodup) (hi : X.N[i]? = some x := by rfl) (hx : Loc X.env.scope x := by first | exact Or.inl rfl | exact Or.inr rfl) (hf : X.fn x = true ∨ X.env.scope.names.lookup x = some .local := by first | exact .inl rfl | exact .inr rfl) : G3 X (.Name x pos) (gN i) [i] :=
  ⟨gName i, pg_name hN hi hx hf, ⟨fun F H σ δ δ' d v Q sl r e k => by
    cases e
    exact k _ (fun ws h => wipe_set_mem σ (some v) ws i (h i List.mem_cons_self)) (sl.set i r)⟩⟩
def gGo : List TG3 → List D → St3 → Option St3
  | [], [], δ => some δ
  | g :: gs, d :: ds, δ => (g d δ).bind fun δ' => gGo gs ds δ'
  | _, _, _ => none
def gT (gs : List TG3) : TG3 := fun d δ => match d with
  | .tup ds => gGo gs ds δ
  | .lst ds => gGo gs ds δ
  | _ => none
structure TgsL (K : Kn) (g2 : TGs) (gs : List TG3) (vs : List Nat) : Prop where
  run : ∀ (F : Addr → Prop) (H : Hp) (σ : L2.St) (δ δ' : St3) (ds : List D) (us : List V) (Q : L2.St → Hp → Prop), Sl K F H σ δ → Rps K F H ds us → gGo gs ds δ = some δ' →
    (∀ σ', (∀ ws : List Nat, (∀ i ∈ vs, i ∈ ws) → wipe σ' ws = wipe σ ws) → Sl K F H σ' δ' → Q σ' H) → g2 us σ H Q
def Gs3 (X : Cx) (ts : List Expr) (gs : List TG3) (vs : List Nat) : Prop := ∃ g2, PGs X ts g2 ∧ TgsL X.kn g2 gs vs
theorem gs_nil : Gs3 X [] [] [] := ⟨gNil, pgs_nil, ⟨fun F H σ δ δ' ds us Q sl r e k => by
  cases r with
  | nil => cases e; exact ⟨rfl, k σ (fun _ _ => rfl) sl⟩
  | cons h t => cases e⟩⟩
theorem gs_cons {tg : Expr} {ts : List Expr} {g : TG3} {gs : List TG3} {vs ws : List Nat} (h1 : G3 X tg g vs) (h2 : Gs3 X ts gs ws) (hs : (assignEach (tg :: ts) X.env).map (·.2) = assign tg X.env :: (assignEach ts X.env).map (·.2) := by rfl) : Gs3 X (tg :: ts) (g :: gs) (vs ++ ws) := by
  obtain ⟨a, ha, la⟩ := h1
  obtain ⟨b, hb, lb⟩ := h2
  refine ⟨gCons a b, pgs_cons ha hb hs, ⟨fun F H σ δ δ' ds us Q sl r e k => ?_⟩⟩
  cases r with
  | nil => cases e
  | @cons d v ds vs2 h t =>
    have e' : (g d δ).bind (fun δ'' => gGo gs ds δ'') = some δ' := e
    cases q : g d δ with
    | none => rw [q] at e'; cases e'
    | some δ1 =>
      rw [q] at e'
      refine ⟨v, vs2, rfl, ?_⟩
      refine la.run F H σ δ δ1 d v _ sl h q fun σ1 w1 sl1 => ?_
      exact lb.run F H σ1 δ1 δ' ds vs2 _ sl1 t e' fun σ2 w2 sl2 => k σ2 (fun us hu => (w2 us fun i hi => hu i (List.mem_append_right _ hi)).trans (w1 us fun i hi => hu i (List.mem_append_left _ hi))) sl2
theorem gGo_len : ∀ {gs : List TG3} {ds : List D} {δ δ' : St3}, gGo gs ds δ = some δ' → ds.length = gs.length
  | [], [], _, _, _ => rfl
  | [], _ :: _, _, _, e => by cases e
  | _ :: _, [], _, _, e => by cases e
  | g :: gs, d :: ds, δ, δ', e => by
    have e' : (g d δ).bind (fun δ'' => gGo gs ds δ'') = some δ' := e
    cases q : g d δ with
    | none => rw [q] at e'; cases e'
    | some δ1 => rw [q] at e'; rw [List.length_cons, List.length_cons, gGo_len e']
theorem _root_.L2.PG.or {X : Cx} {tg : Expr} {t u : TG} (h : PG X tg t) (h' : PG X tg u) : PG X tg (fun v σ H Q => t v σ H Q ∨ u v σ H Q) := ⟨fun pins s σ H v w Q I r q => q.elim (h.run pins s σ H v w Q I r) (h'.run pins s σ H v w Q I r)⟩
theorem tl_tup {K : Kn} {a : TGs} {gs : List TG3} {vs : List Nat} {m : Nat} (la : TgsL K a gs vs) (hm : gs.length = m) : TgL K (fun v σ H Q => gTup K.K m a v σ H Q ∨ gLst K.K m a v σ H Q) (gT gs) vs := ⟨fun F H σ δ δ' d v Q sl r e k => by
  cases r with
  | @tup ds us a f h rs => exact .inl ⟨_, us, rfl, SqT.of h, by rw [← rs.length, gGo_len e, hm], la.run F H σ δ δ' ds us Q sl rs e k⟩
  | @lst ds us a f h rs => exact .inr ⟨_, us, rfl, SqL.of h, by rw [← rs.length, gGo_len e, hm], la.run F H σ δ δ' ds us Q sl rs e k⟩
  | _ => cases e⟩
theorem g_tup {ts : List Expr} {n : Nat} {gs : List TG3} {vs : List Nat} {m : Nat} (hc : X.calm = true) (h : Gs3 X ts gs vs) (hm : gs.length = m := by rfl) (hn : (assignEach ts X.env).length = m := by rfl) (hst : (assignEach ts X.env).findIdx? (·.1) = none := by rfl) : G3 X (.Tuple ts n pos) (gT gs) vs := by
  obtain ⟨a, ha, la⟩ := h
  exact ⟨_, (pg_tup hc ha hn hst).or (pg_lst hc ha hn hst), tl_tup la hm⟩
def sAsg (te : TE3) (g : TG3) : TS3 := fun D δ μ => te δ μ fun d μ1 => match g d δ with
  | some δ' => D.nx δ' μ1
  | none => False
theorem s_asg {tg : Expr} {g : TG3} {vs : List Nat} (he : E3 X Z e te) (hg : G3 X tg g vs) (hs : swapsWithSole [tg] e pos.line X.env = pure false := by rfl) (hw : swappedStores [tg] e X.env = pure none := by rfl)
    (h1 : (assignEach [tg] X.env).map (·.2) = [assign tg X.env] := by rfl) : S3 X Z (.Assign [tg] e pos) (sAsg te g) := by
  obtain ⟨g2, hg2, lg⟩ := hg
  refine (ps_asg he hg2 hs hw h1).imp fun D σ H h => ?_
  obtain ⟨F, δ, μ, D3, s, sl, h, k⟩ := h
  refine ⟨F, δ, μ, _, s, sl, h, fun F1 v H1 d μ1 g1 r1 q1 => ?_⟩
  split at q1
  · rename_i δ' e'
    exact lg.run F1 H1 σ δ δ' d v _ (sl.st g1) r1 e' fun σ' _ sl' => k.nx F1 σ' H1 δ' μ1 g1 sl' q1
  · exact q1.elim
def sSet (i : Nat) (te : TE3) : TS3 := fun D δ μ => te δ μ fun d μ1 => D.nx (δ.set i (some d)) μ1
theorem s_set {i : Nat} {pos' : Pos} (hN : X.N.Nodup) (he : E3 X Z e te) (hi : X.N[i]? = some x := by rfl) (hx : Loc X.env.scope x := by first | exact Or.inl rfl | exact Or.inr rfl) (hs : swapsWith e (some (.Name x pos')) pos.line X.env = pure false := by rfl) (hf : X.fn x = true ∨ X.env.scope.names.lookup x = some .local := by first | exact .inl rfl | exact .inr rfl) :
    S3 X Z (.Assign [.Name x pos'] e pos) (sSet i te) := (ps_set hN hi hx he hs hf).imp fun D σ H h => by
  obtain ⟨F, δ, μ, D3, s, sl, h, k⟩ := h
  exact ⟨F, δ, μ, _, s, sl, h, fun F1 v H1 d μ1 g r1 q1 => k.nx F1 _ H1 _ μ1 g ((sl.st g).set i r1) q1⟩
def IpL (X : Cx) (Z : Zn X.kn) (op : Operator) (G : G2) : Prop := ∃ t : TIp, PIp X op t ∧ ∀ F H μ x y vx vy R Q, Sim Z F H μ → Rp X.kn F H x vx → Rp X.kn F H y vy → G x y μ R →
  (∀ F' v H' z μ', Step Z F H μ F' H' μ' → Rp X.kn F' H' z v → R z μ' → Q v H') → t vx vy H Q
def sAug (i : Nat) (te : TE3) (G : G2) : TS3 := fun D δ μ => match δ[i]? with
  | some (some x) => te δ μ fun y μ1 => G x y μ1 fun z μ2 => D.nx (δ.set i (some z)) μ2
  | _ => False
theorem s_aug {i : Nat} {pos' : Pos} {op : Operator} {G : G2} (hN : X.N.Nodup) (he : E3 X Z e te) (ho : IpL X Z op G) (hi : X.N[i]? = some x := by rfl) (hx : Loc X.env.scope x := by first | exact Or.inl rfl | exact Or.inr rfl) (hf : X.fn x = true ∨ X.env.scope.names.lookup x = some .local := by first | exact .inl rfl | exact .inr rfl) :
    S3 X Z (.AugAssign (.Name x pos') op e pos) (sAug i te G) := by
  obtain ⟨ti, hti, hl⟩ := ho
  refine (ps_aug hN hi hx he hti hf).imp fun D σ H h => ?_
  obtain ⟨F, δ, μ, D3, s, sl, h, k⟩ := h
  unfold sAug at h
  split at h
  · rename_i d e
    obtain ⟨v, e1, r⟩ := sl.at_ i d e
    refine ⟨v, e1, F, δ, μ, _, s, sl, h, fun F1 v1 H1 d1 μ1 g r1 q1 => ?_⟩
    refine hl F1 H1 μ1 d d1 v v1 _ _ g.sim (r.st g) r1 q1 fun F2 v2 H2 z μ2 g2 r2 q2 => ?_
    exact k.nx F2 _ H2 _ μ2 (g.trans g2) ((sl.st (g.trans g2)).set i r2) q2
  · exact h.elim
def whileW (c : TT3) (tb : TS3) (D : Ends3) : Nat → St3 → Mu → Prop
  | 0, _, _ => False
  | n + 1, δ, μ => c δ μ fun b μ1 => if b = true then tb { D with nx := whileW c tb D n, ct := whileW c tb D n, bk := D.nx } δ μ1 else D.nx δ μ1
def sWhile (c : TT3) (tb : TS3) : TS3 := fun D δ μ => ∃ n, whileW c tb D n δ μ
theorem s_while {c : Expr} {body : List Stmt} {tc : TT3} {tb : TS3} (hp : PassesOwn (model X.prog X.w) X.A X.env X.xe) (hc : T3 X Z c tc) (hb : Ss3 X Z body tb) : S3 X Z (.While c body [] pos) (sWhile tc tb) := (ps_while hp hc hb).imp fun D σ H h => by
  obtain ⟨F, δ, μ, D3, s, sl, ⟨n, h⟩, k⟩ := h
  refine ⟨fun m σ1 H1 => ∃ F1 δ1 μ1, Step Z F H μ F1 H1 μ1 ∧ Sl X.kn F1 H1 σ1 δ1 ∧ whileW tc tb D3 m δ1 μ1, ⟨n, F, δ, μ, Step.refl s, sl, h⟩, ?_⟩
  rintro m σ1 H1 ⟨F1, δ1, μ1, g1, sl1, h1⟩
  cases m with
  | zero => exact h1.elim
  | succ m =>
    refine ⟨F1, δ1, μ1, _, g1.sim, sl1, h1, fun F2 b H2 μ2 g2 q2 => ?_⟩
    cases b with
    | true =>
      refine ⟨fun σ' H' => ∃ F1 δ1 μ1, Step Z F H μ F1 H' μ1 ∧ Sl X.kn F1 H' σ' δ1 ∧ whileW tc tb D3 m δ1 μ1, fun σ' H' q => ⟨m, Nat.lt_succ_self m, q⟩, ?_⟩
      refine ⟨F2, δ1, μ2, _, g2.sim, sl1.st g2, q2, ⟨fun F3 σ3 H3 δ3 μ3 g3 sl3 q3 => ⟨F3, δ3, μ3, (g1.trans g2).trans g3, sl3, q3⟩, fun F3 σ3 H3 δ3 μ3 g3 sl3 q3 => k.nx F3 σ3 H3 δ3 μ3 ((g1.trans g2).trans g3) sl3 q3, fun F3 σ3 H3 δ3 μ3 g3 sl3 q3 => ⟨F3, δ3, μ3, (g1.trans g2).trans g3, sl3, q3⟩, (k.st (g1.trans g2)).rt⟩⟩
    | false => exact k.nx F2 σ1 H2 δ1 μ2 (g1.trans g2) (sl1.st g2) q2
structure ItOk {K : Kn} (Z : Zn K) (F : Addr → Prop) (H : Hp) (μ : Mu) (ds : List D) (Pm : Mu → Prop) (J : It) : Prop where
  go : ∀ F1 H1 μ1 i, Step Z F H μ F1 H1 μ1 → Pm μ1 → i < ds.length → J.go i H1
  stop : ∀ F1 H1 μ1, Step Z F H μ F1 H1 μ1 → Pm μ1 → J.stop ds.length H1
  yld : ∀ F1 H1 μ1 i x H2, Step Z F H μ F1 H1 μ1 → Pm μ1 → J.yld i H1 x H2 → i < ds.length → ∃ F2 d, Step Z F1 H1 μ1 F2 H2 μ1 ∧ ds[i]? = some d ∧ Rp K F2 H2 d x
abbrev TI3 := St3 → Mu → (List D → (Mu → Prop) → Mu → Prop) → Prop
def lowI {K : Kn} (Z : Zn K) (wi : TI3) : TI := fun σ H R => ∃ (F : Addr → Prop) (δ : St3) (μ : Mu) (R3 : List D → (Mu → Prop) → Mu → Prop), Sim Z F H μ ∧ Sl K F H σ δ ∧ wi δ μ R3 ∧
  ∀ F' H' ds Pm μ' J, Step Z F H μ F' H' μ' → ItOk Z F' H' μ' ds Pm J → R3 ds Pm μ' → R J H'
def I3 (X : Cx) (Z : Zn X.kn) (tg iter : Expr) (wi : TI3) : Prop := PI X tg iter (lowI Z wi)
theorem _root_.L2.PI.imp {X : Cx} {tg e : Expr} {t t' : TI} (h : PI X tg e t) (i : ∀ σ H R, t' σ H R → t σ H R) : PI X tg e t' := ⟨fun pins s σ H R I q => h.run pins s σ H R I (i _ _ _ q)⟩
def forW (Pm : Mu → Prop) (g : TG3) (tb : TS3) (Z : Ends3) : List D → St3 → Mu → Prop
  | [], δ, μ => Pm μ ∧ Z.nx δ μ
  | d :: ds, δ, μ => Pm μ ∧ match g d δ with
    | some δ' => tb { Z with nx := forW Pm g tb Z ds, ct := forW Pm g tb Z ds, bk := Z.nx } δ' μ
    | none => False
def sFor (wi : TI3) (g : TG3) (tb : TS3) : TS3 := fun D δ μ => wi δ μ fun ds Pm μ1 => forW Pm g tb D ds δ μ1
theorem s_for {tg iter : Expr} {body : List Stmt} {wi : TI3} {g : TG3} {vs : List Nat} {tb : TS3} (hp : PassesOwn (model X.prog X.w) X.A X.env X.xe) (hc : X.calm = true) (hi : I3 X Z tg iter wi) (hg : G3 X tg g vs) (hb : Ss3 X Z body tb)
    (hs : ∀ x, foldedSetIterable iter X.env x = pure x := by intro _; rfl) : S3 X Z (.For tg iter body [] pos) (sFor wi g tb) := by
  obtain ⟨g2, hg2, lg⟩ := hg
  refine (ps_for hp hc hi hg2 hb hs).imp fun D σ H h => ?_
  obtain ⟨F, δ, μ, D3, s, sl, h, k⟩ := h
  refine ⟨F, δ, μ, _, s, sl, h, fun F0 H0 ds Pm μ0 J g0 it q0 => ?_⟩
  refine ⟨fun i m σ1 H1 => ∃ F1 δ1 μ1, Step Z F0 H0 μ0 F1 H1 μ1 ∧ Sl X.kn F1 H1 σ1 δ1 ∧ m + i = ds.length ∧ forW Pm g tb D3 (ds.drop i) δ1 μ1, ⟨ds.length, F0, δ, μ0, Step.refl g0.sim, sl.st g0, rfl, q0⟩, ?_⟩
  rintro i m σ1 H1 ⟨F1, δ1, μ1, g1, sl1, em, h1⟩
  by_cases hi : i < ds.length
  · rw [List.drop_eq_getElem_cons hi] at h1
    obtain ⟨hP, h1⟩ := h1
    refine .inr ⟨it.go F1 H1 μ1 i g1 hP hi, fun σ' H' => ∃ F1 δ1 μ1, Step Z F0 H0 μ0 F1 H' μ1 ∧ Sl X.kn F1 H' σ' δ1 ∧ forW Pm g tb D3 (ds.drop (i + 1)) δ1 μ1, fun σ' H' ⟨F2, δ2, μ2, a, c, d⟩ => ⟨m - 1, by omega, F2, δ2, μ2, a, c, by omega, d⟩, fun x H2 hy => ?_⟩
    obtain ⟨F2, d, g2, ed, r2⟩ := it.yld F1 H1 μ1 i x H2 g1 hP hy hi
    rw [List.getElem?_eq_getElem hi] at ed
    cases ed
    split at h1
    · rename_i δ' eg
      refine lg.run F2 H2 σ1 δ1 δ' _ x _ (sl1.st g2) r2 eg fun σ' _ sl' => ?_
      refine ⟨F2, δ', μ1, _, g2.sim, sl', h1, ⟨fun F3 σ3 H3 δ3 μ3 g3 sl3 q3 => ⟨F3, δ3, μ3, (g1.trans g2).trans g3, sl3, q3⟩, fun F3 σ3 H3 δ3 μ3 g3 sl3 q3 => k.nx F3 σ3 H3 δ3 μ3 (((g0.trans g1).trans g2).trans g3) sl3 q3, fun F3 σ3 H3 δ3 μ3 g3 sl3 q3 => ⟨F3, δ3, μ3, (g1.trans g2).trans g3, sl3, q3⟩, (k.st ((g0.trans g1).trans g2)).rt⟩⟩
    · exact h1.elim
  · have e : i = ds.length := by omega
    subst e
    rw [List.drop_length] at h1
    exact .inl ⟨it.stop F1 H1 μ1 g1 h1.1, k.nx F1 σ1 H1 δ1 μ1 (g0.trans g1) sl1 h1.2⟩
def wipe3 (δ : St3) : List Nat → St3
  | [] => δ
  | v :: vs => (wipe3 δ vs).set v none
theorem Sl.wipe {K : Kn} {F : Addr → Prop} {H : Hp} {σ : L2.St} {δ : St3} (s : Sl K F H σ δ) : ∀ vs : List Nat, Sl K F H (wipe σ vs) (wipe3 δ vs)
  | [] => s
  | v :: vs => by
    have ih := Sl.wipe s vs
    refine ⟨by show ((L2.wipe σ vs).set v none).length = ((wipe3 δ vs).set v none).length; simpa using ih.len, fun i d e => ?_⟩
    have e' : ((wipe3 δ vs).set v none)[i]? = some (some d) := e
    show ∃ u, ((L2.wipe σ vs).set v none)[i]? = some (some u) ∧ _
    by_cases hv : v = i
    · subst hv
      by_cases hl : v < (wipe3 δ vs).length
      · rw [List.getElem?_set_self hl] at e'; cases e'
      · rw [List.getElem?_eq_none_iff.mpr (by simpa using hl)] at e'; cases e'
    · rw [List.getElem?_set_ne hv] at e'
      rw [List.getElem?_set_ne hv]
      exact ih.at_ i d e'
theorem wipe_set_none (σ : L2.St) : ∀ (ws : List Nat) (i : Nat), L2.wipe (σ.set i none) ws = (L2.wipe σ ws).set i none
  | [], _ => rfl
  | w :: ws, i => by
    show (L2.wipe (σ.set i none) ws).set w none = ((L2.wipe σ ws).set w none).set i none
    rw [wipe_set_none σ ws i]
    by_cases h : i = w
    · subst h; rfl
    · rw [List.set_comm _ _ h]
theorem wipe_wipe (σ : L2.St) : ∀ ws : List Nat, L2.wipe (L2.wipe σ ws) ws = L2.wipe σ ws
  | [] => rfl
  | w :: ws => by
    show (L2.wipe ((L2.wipe σ ws).set w none) ws).set w none = (L2.wipe σ ws).set w none
    rw [wipe_set_none, wipe_wipe σ ws, List.set_set]
def lcW (Pm : Mu → Prop) (g : TG3) (tt : TT3) (te : TE3) (δ : St3) (R : List D → Mu → Prop) : List D → List D → Mu → Prop
  | [], acc, μ => Pm μ ∧ R acc μ
  | d :: ds, acc, μ => Pm μ ∧ acc.length < sizeLine ∧ match g d δ with
    | some δ' => tt δ' μ fun b μ1 => if b = true then te δ' μ1 fun y μ2 => lcW Pm g tt te δ R ds (acc ++ [y]) μ2 else lcW Pm g tt te δ R ds acc μ1
    | none => False
def vLc (wi : TI3) (g : TG3) (tt : TT3) (te : TE3) (vs : List Nat) : TE3 := fun δ μ R => wi δ μ fun ds Pm μ1 => lcW Pm g tt te (wipe3 δ vs) (fun out μ2 => R (.lst out) μ2) ds [] μ1
def vYes : TT3 := fun _ μ R => R true μ
def Ts3 (X : Cx) (Z : Zn X.kn) (es : List Expr) (t : TT3) : Prop := PTs X es (lowT Z t)
theorem _root_.L2.PTs.imp {X : Cx} {e : List Expr} {t t' : TT} (h : PTs X e t) (i : ∀ σ H Q, t' σ H Q → t σ H Q) : PTs X e t' := ⟨fun pins s σ H Q I q => h.run pins s σ H Q I (i _ _ _ q)⟩
theorem ts_nil : Ts3 X Z [] vYes := pts_nil.imp fun σ H Q h => by
  obtain ⟨F, δ, μ, R, s, sl, h, k⟩ := h
  exact k F true H μ (Step.refl s) h
theorem ts_one {c : Expr} {t : TT3} (h : T3 X Z c t) : Ts3 X Z [c] t := pts_one h
theorem low_lc {K : Kn} {Z : Zn K} {wi : TI3} {g : TG3} {g2 : TG} {tt : TT3} {te : TE3} {vs ws : List Nat} {σ : L2.St} {H : Hp} {Q : VK} (lg : TgL K g2 g vs) (hv : ∀ i ∈ vs, i ∈ ws) (h : low Z (vLc wi g tt te ws) σ H Q) : tLc (lowI Z wi) g2 (lowT Z tt) (low Z te) ws σ H Q := by
  obtain ⟨F, δ, μ, R, s, sl, h, k⟩ := h
  refine ⟨F, δ, μ, _, s, sl, h, fun F0 H0 ds Pm μ0 J g0 it q0 Dl hD => ?_⟩
  have gD := g0.sim.newS (o := .lst []) hD
  refine ⟨fun i m H1 => ∃ F1 μ1 acc out, Step Z F0 H0 μ0 F1 H1 μ1 ∧ ¬ F1 Dl ∧ μ1 Dl = none ∧ H1 Dl = some (.lst acc) ∧ Rps K F1 H1 out acc ∧ m + i = ds.length ∧ lcW Pm g tt te (wipe3 δ ws) (fun out μ2 => R (.lst out) μ2) (ds.drop i) out μ1,
    ⟨ds.length, F0, μ0, [], [], gD, ?_, g0.sim.free hD, upd_same, .nil, rfl, q0⟩, ?_⟩
  · intro f
    obtain ⟨u, hu⟩ := g0.sim.dom Dl f
    rw [hD] at hu
    cases hu
  rintro i m H1 ⟨F1, μ1, acc, out, g1, nF, nμ, eD, rs, em, h1⟩
  by_cases hi : i < ds.length
  · rw [List.drop_eq_getElem_cons hi] at h1
    obtain ⟨hP, hlen, h1⟩ := h1
    refine .inr ⟨it.go F1 H1 μ1 i g1 hP hi, fun H' => ∃ F1 μ1 acc out, Step Z F0 H0 μ0 F1 H' μ1 ∧ ¬ F1 Dl ∧ μ1 Dl = none ∧ H' Dl = some (.lst acc) ∧ Rps K F1 H' out acc ∧ lcW Pm g tt te (wipe3 δ ws) (fun out μ2 => R (.lst out) μ2) (ds.drop (i + 1)) out μ1,
      fun H' ⟨F2, μ2, acc2, out2, a, b, c, d, e, f⟩ => ⟨m - 1, by omega, F2, μ2, acc2, out2, a, b, c, d, e, by omega, f⟩, fun x H2 hy => ?_⟩
    obtain ⟨F2, d, g2', ed, r2⟩ := it.yld F1 H1 μ1 i x H2 g1 hP hy hi
    rw [List.getElem?_eq_getElem hi] at ed
    obtain rfl := Option.some.inj ed
    have sw : Sl K F2 H2 (L2.wipe σ ws) (wipe3 δ ws) := (sl.st ((g0.trans g1).trans g2')).wipe ws
    split at h1
    · rename_i δ' eg
      refine lg.run F2 H2 (L2.wipe σ ws) (wipe3 δ ws) δ' _ x _ sw r2 eg fun σ' hw sl' => ?_
      have hww : L2.wipe (L2.wipe σ ws) ws = L2.wipe σ ws := wipe_wipe σ ws
      refine ⟨(hw ws hv).trans hww, ?_⟩
      obtain ⟨n2, e2, f2⟩ := g2'.fm Dl _ eD nμ nF
      refine ⟨F2, δ', μ1, _, g2'.sim, sl', h1, fun F3 b H3 μ3 g3 q3 => ?_⟩
      obtain ⟨n3, e3, f3⟩ := g3.fm Dl _ e2 n2 f2
      cases b with
      | true =>
        refine ⟨F3, δ', μ3, _, g3.sim, sl'.st g3, q3, fun F4 y H4 dy μ4 g4 r4 q4 => ?_⟩
        obtain ⟨n4, e4, f4⟩ := g4.fm Dl _ e3 n3 f3
        have nF4 : ¬ F4 Dl := f4
        have gs := ((g1.trans g2').trans g3).trans g4
        have gp := (gs.sim.raw.priv (o := .lst (acc ++ [y])) nF4 n4).1
        refine ⟨acc, e4, by rw [← rs.length]; exact hlen, F4, μ4, acc ++ [y], out ++ [dy], gs.priv g0.sim hD nF4 n4, nF4, n4, upd_same, ((rs.st ((g2'.trans g3).trans g4)).append (.cons r4 .nil)).grow gp, q4⟩
      | false => exact ⟨F3, μ3, acc, out, (g1.trans g2').trans g3, f3, n3, e3, rs.st (g2'.trans g3), q3⟩
    · exact h1.elim
  · have e : i = ds.length := by omega
    subst e
    rw [List.drop_length] at h1
    refine .inl ⟨it.stop F1 H1 μ1 g1 h1.1, ?_⟩
    have gs := g1.shut (o := .lst acc) g0.sim hD nμ eD
    have gg : Grow F1 H1 (fun a => F1 a ∨ a = Dl) H1 := ⟨fun _ h => .inl h, fun _ _ _ h => h, fun _ _ _ _ h => h⟩
    exact k _ (.ref Dl) H1 (.lst out) μ1 (g0.trans gs) (.lst (.inr rfl) eD (rs.grow gg)) h1.2
theorem e_lc {elt tg iter : Expr} {ifs : List Expr} {scope : Scope} {own : List (Str × Nat)} {wi : TI3} {g : TG3} {tt : TT3} {te : TE3} {vs : List Nat} (hc : X.calm = true) (hN : X.N.Nodup) (hi : I3 X Z tg iter wi) (ok : BlkOk X.N X.env.scope scope own) {g2 : TG}
    (lg : TgL X.kn g2 g vs) (hv : ∀ i ∈ vs, i ∈ own.map (·.2))
    (hg : ∀ (s : Shared) (H : Hp) (C : Addr) (cl : List (Str × Addr)) (fp : List Addr), PG (X.blk s H scope (compEnvC scope cl C X.env) fp) tg g2)
    (ht : ∀ (s : Shared) (H : Hp) (C : Addr) (cl : List (Str × Addr)) (fp : List Addr), Ts3 (X.blk s H scope (compEnvC scope cl C X.env) fp) Z ifs tt)
    (he : ∀ (s : Shared) (H : Hp) (C : Addr) (cl : List (Str × Addr)) (fp : List Addr), E3 (X.blk s H scope (compEnvC scope cl C X.env) fp) Z elt te)
    (hs : ∀ x, foldedSetIterable iter X.env x = pure x := by intro _; rfl) :
    E3 X Z (.ListComp elt [⟨tg, iter, ifs, 0⟩] scope pos) (vLc wi g tt te (own.map (·.2))) :=
  (pe_lc (wi := lowI Z wi) (g := g2) (tt := lowT Z tt) (te := low Z te) hc hN hi ok hg ht he hs).imp fun σ H Q h => low_lc lg hv h
end
end L3
namespace L3
open PySem PySem.Spec L2
section
variable {X : Cx} {Z : Zn X.kn}
def g2I (C : Int → Int → Prop) (g : Int → Int → D) : G2 := fun x y μ R => match x, y with
  | .int i, .int j => C i j ∧ R (g i j) μ
  | _, _ => False
def g2I0 (g : Int → Int → D) : G2 := fun x y μ R => match x, y with
  | .int i, .int j => R (g i j) μ
  | _, _ => False
theorem opl_I {f : Value → Value → Sem Value} {C : Int → Int → Prop} {g : Int → Int → V} {g3 : Int → Int → D} (h : OpR X f (rI C g)) (hg : ∀ i j F H, Rp X.kn F H (g3 i j) (g i j)) : OpL X Z f (g2I C g3) := by
  refine ⟨_, h, fun F H μ x y vx vy R Q s rx ry q k => ?_⟩
  cases rx <;> first | exact (show False from q).elim | skip
  rename_i i
  cases ry <;> first | exact (show False from q).elim | skip
  rename_i j
  exact ⟨i, j, rfl, rfl, q.1, k F _ H _ μ (Step.refl s) (hg i j F H) q.2⟩
theorem opl_I0 {f : Value → Value → Sem Value} {g : Int → Int → V} {g3 : Int → Int → D} (h : OpR X f (rI0 g)) (hg : ∀ i j F H, Rp X.kn F H (g3 i j) (g i j)) : OpL X Z f (g2I0 g3) := by
  refine ⟨_, h, fun F H μ x y vx vy R Q s rx ry q k => ?_⟩
  cases rx <;> first | exact (show False from q).elim | skip
  rename_i i
  cases ry <;> first | exact (show False from q).elim | skip
  rename_i j
  exact ⟨i, j, rfl, rfl, k F _ H _ μ (Step.refl s) (hg i j F H) q⟩
def OpL.or {f : Value → Value → Sem Value} {G G' : G2} (h : OpL X Z f G) (h' : OpL X Z f G') : OpL X Z f (fun x y μ R => G x y μ R ∨ G' x y μ R) := by
  obtain ⟨r, hr, l⟩ := h
  obtain ⟨r', hr', l'⟩ := h'
  refine ⟨fun x y H Q => r x y H Q ∨ r' x y H Q, ?_, fun F H μ x y vx vy R Q s rx ry q k => ?_⟩
  · intro pins s σ H x y v u Q I rx ry q
    rcases q with q | q
    · exact hr pins s σ H x y v u Q I rx ry q
    · exact hr' pins s σ H x y v u Q I rx ry q
  · rcases q with q | q
    · exact .inl (l F H μ x y vx vy R Q s rx ry q k)
    · exact .inr (l' F H μ x y vx vy R Q s rx ry q k)
theorem OpL.imp {f : Value → Value → Sem Value} {G G' : G2} (h : OpL X Z f G) (i : ∀ x y μ R, G' x y μ R → G x y μ R) : OpL X Z f G' := by
  obtain ⟨r, hr, l⟩ := h
  exact ⟨r, hr, fun F H μ x y vx vy R Q s rx ry q k => l F H μ x y vx vy R Q s rx ry (i x y μ R q) k⟩
abbrev gSub : G2 := g2I0 fun i j => .int (i - j)
abbrev gMul : G2 := g2I CMulW fun i j => .int (i * j)
abbrev gMod : G2 := g2I (fun _ j => 0 < j) fun i j => .int (i % j)
abbrev gDiv : G2 := g2I CDivW fun i j => .int (i / j)
abbrev gPow : G2 := g2I CPow fun i j => .int (i ^ j.toNat)
theorem o_sub : OpL X Z (binaryOp .Sub) gSub := opl_I0 op_sub fun _ _ _ _ => .int _
theorem o_mul : OpL X Z (binaryOp .Mult) gMul := opl_I op_mulW fun _ _ _ _ => .int _
theorem o_mod : OpL X Z (binaryOp .Mod) gMod := opl_I op_mod fun _ _ _ _ => .int _
theorem o_div : OpL X Z (binaryOp .FloorDiv) gDiv := opl_I op_fdivW fun _ _ _ _ => .int _
theorem o_pow : OpL X Z (binaryOp .Pow) gPow := opl_I op_pow fun _ _ _ _ => .int _
abbrev gLt : G2 := g2I0 fun i j => .bl (decide (i < j))
abbrev gLe : G2 := g2I0 fun i j => .bl (decide (i ≤ j))
abbrev gGt : G2 := g2I0 fun i j => .bl (decide (j < i))
abbrev gGe : G2 := g2I0 fun i j => .bl (decide (j ≤ i))
theorem o_lt : OpL X Z (compareOp .Lt) gLt := opl_I0 op_lt fun _ _ _ _ => .bl _
theorem o_le : OpL X Z (compareOp .LtE) gLe := opl_I0 op_le fun _ _ _ _ => .bl _
theorem o_gt : OpL X Z (compareOp .Gt) gGt := opl_I0 op_gt fun _ _ _ _ => .bl _
theorem o_ge : OpL X Z (compareOp .GtE) gGe := opl_I0 op_ge fun _ _ _ _ => .bl _
def gNeg : D → Mu → DK → Prop := fun x μ R => match x with
  | .int i => R (.int (-i)) μ
  | _ => False
theorem u_neg : UnL X Z (unaryOp .USub) gNeg := ⟨_, un_neg, fun F H μ x vx R Q s rx q k => by
  cases rx <;> first | exact (show False from q).elim | skip
  rename_i i
  exact ⟨i, rfl, k F _ H _ μ (Step.refl s) (.int _) q⟩⟩
def lstOf (μ : Mu) : D → Option (List D)
  | .lst xs => some xs
  | .ref a => match μ a with
    | some (.lst xs) => some xs
    | _ => none
  | _ => none
def rdL (μ : Mu) : D → Option (List D)
  | .lst xs => some xs
  | .scr xs => some xs
  | .ref a => match μ a with
    | some (.lst xs) => some xs
    | _ => none
  | _ => none
def seqOf (μ : Mu) : D → Option (List D)
  | .etp _ _ => some []
  | .lst xs => some xs
  | .scr xs => some xs
  | .tup xs => some xs
  | .ref a => match μ a with
    | some (.lst xs) => some xs
    | _ => none
  | _ => none
theorem lst_of {K : Kn} {Z : Zn K} {F : Addr → Prop} {H : Hp} {μ : Mu} {x : D} {v : V} {xs : List D} (s : Sim Z F H μ) (r : Rp K F H x v) (h : lstOf μ x = some xs) : ∃ p vs, v = .ref p ∧ H p = some (.lst vs) ∧ Rps K F H xs vs := by
  cases r with
  | lst f e rs => cases h; exact ⟨_, _, rfl, e, rs⟩
  | ref a =>
    have h' : (match μ a with
      | some (.lst xs) => some xs
      | _ => none) = some xs := h
    split at h'
    · rename_i ys e2
      cases h'
      obtain ⟨_, vs, e3, rs⟩ := s.obj _ _ e2
      exact ⟨_, vs, rfl, e3, rs⟩
    · cases h'
  | _ => cases h
theorem rdl_of {K : Kn} {Z : Zn K} {F : Addr → Prop} {H : Hp} {μ : Mu} {x : D} {v : V} {xs : List D} (s : Sim Z F H μ) (r : Rp K F H x v) (h : rdL μ x = some xs) : ∃ p vs, v = .ref p ∧ SqL K H p vs ∧ Rps K F H xs vs := by
  cases r with
  | lst f e rs => cases h; exact ⟨_, _, rfl, SqL.of e, rs⟩
  | scr f rs => cases h; exact ⟨_, _, rfl, f.sq, rs⟩
  | ref a =>
    obtain ⟨p, vs, e1, e2, rs⟩ := lst_of (x := .ref a) s (.ref a) (xs := xs) (by
      unfold rdL at h
      unfold lstOf
      exact h)
    exact ⟨p, vs, e1, SqL.of e2, rs⟩
  | _ => cases h
theorem seq_of {K : Kn} {Z : Zn K} {F : Addr → Prop} {H : Hp} {μ : Mu} {x : D} {v : V} {xs : List D} (s : Sim Z F H μ) (r : Rp K F H x v) (h : seqOf μ x = some xs) : ∃ p vs, v = .ref p ∧ (SqL K H p vs ∨ SqT K H p vs) ∧ Rps K F H xs vs := by
  cases r with
  | lst f e rs => cases h; exact ⟨_, _, rfl, .inl (SqL.of e), rs⟩
  | scr f rs => cases h; exact ⟨_, _, rfl, .inl f.sq, rs⟩
  | tup f e rs => cases h; exact ⟨_, _, rfl, .inr (SqT.of e), rs⟩
  | etp p i t => cases h; exact ⟨_, _, rfl, .inr (.inr t), .nil⟩
  | ref a =>
    obtain ⟨p, vs, e1, e2, rs⟩ := lst_of (x := .ref a) s (.ref a) (xs := xs) (by
      unfold seqOf at h
      unfold lstOf
      exact h)
    exact ⟨p, vs, e1, .inl (SqL.of e2), rs⟩
  | _ => cases h
def gAdd : G2 := fun x y μ R => match x, y with
  | .int i, .int j => R (.int (i + j)) μ
  | .str a, .str b => a.length + b.length ≤ sizeLine ∧ R (.str (a ++ b)) μ
  | .tup xs, .tup ys => xs.length + ys.length ≤ sizeLine ∧ R (.tup (xs ++ ys)) μ
  | x, y => ∃ xs ys, lstOf μ x = some xs ∧ lstOf μ y = some ys ∧ xs.length + ys.length ≤ sizeLine ∧ R (.lst (xs ++ ys)) μ
theorem o_addI : OpL X Z (binaryOp .Add) (g2I0 fun i j => .int (i + j)) := opl_I0 op_add fun _ _ _ _ => .int _
def gAddS : G2 := fun x y μ R => match x, y with
  | .str a, .str b => a.length + b.length ≤ sizeLine ∧ R (.str (a ++ b)) μ
  | _, _ => False
theorem o_addS : OpL X Z (binaryOp .Add) gAddS := ⟨_, op_add_str, fun F H μ x y vx vy R Q s rx ry q k => by
  cases rx <;> first | exact (show False from q).elim | skip
  cases ry <;> first | exact (show False from q).elim | skip
  exact ⟨_, _, rfl, rfl, q.1, k F _ H _ μ (Step.refl s) (.str _) q.2⟩⟩
def gAddL : G2 := fun x y μ R => ∃ xs ys, lstOf μ x = some xs ∧ lstOf μ y = some ys ∧ xs.length + ys.length ≤ sizeLine ∧ R (.lst (xs ++ ys)) μ
theorem o_addL : OpL X Z (binaryOp .Add) gAddL := ⟨_, op_cat, fun F H μ x y vx vy R Q s rx ry q k => by
  obtain ⟨xs, ys, ex, ey, hz, q⟩ := q
  obtain ⟨p, vs, rfl, e1, r1⟩ := lst_of s rx ex
  obtain ⟨p2, us, rfl, e2, r2⟩ := lst_of s ry ey
  refine ⟨p, p2, vs, us, rfl, rfl, e1, e2, by rw [← r1.length, ← r2.length]; exact hz, fun l hl => ?_⟩
  have g := s.frzS (o := .lst (vs ++ us)) hl
  exact k _ _ _ _ μ g (.lst (.inr rfl) upd_same ((r1.append r2).st g)) q⟩
def gAddT : G2 := fun x y μ R => match x, y with
  | .tup xs, .tup ys => xs.length + ys.length ≤ sizeLine ∧ R (.tup (xs ++ ys)) μ
  | _, _ => False
theorem o_addT : OpL X Z (binaryOp .Add) gAddT := ⟨_, op_catA, fun F H μ x y vx vy R Q s rx ry q k => by
  cases rx <;> first | exact (show False from q).elim | skip
  rename_i xs vs a f1 e1 r1
  cases ry <;> first | exact (show False from q).elim | skip
  rename_i ys us b f2 e2 r2
  refine ⟨a, b, vs, us, rfl, rfl, SqT.of e1, SqT.of e2, by rw [← r1.length, ← r2.length]; exact q.1, fun z => ?_, fun _ z => ?_, fun _ _ p hp => ?_⟩
  · subst z
    cases r1
    exact k F _ H _ μ (Step.refl s) (.tup f2 e2 (by simpa using r2)) q.2
  · subst z
    cases r2
    exact k F _ H _ μ (Step.refl s) (.tup f1 e1 (by simpa using r1)) q.2
  · have g := s.frzS (o := .tup (vs ++ us)) hp
    exact k _ _ _ _ μ g (.tup (.inr rfl) upd_same ((r1.append r2).st g)) q.2⟩
theorem o_add : OpL X Z (binaryOp .Add) gAdd := (((o_addI.or o_addS).or o_addT).or o_addL).imp fun x y μ R h => by
  unfold gAdd at h
  split at h
  · exact .inl (.inl (.inl h))
  · exact .inl (.inl (.inr h))
  · exact .inl (.inr h)
  · exact .inr h
def eqS : D → D → Option Bool
  | .non, .non => some true
  | .non, .int _ => some false | .int _, .non => some false | .non, .bl _ => some false | .bl _, .non => some false | .non, .str _ => some false | .str _, .non => some false
  | .int i, .int j => some (decide (i = j))
  | .bl i, .bl j => some (decide (i = j))
  | .str i, .str j => some (decide (i = j))
  | .int _, .str _ => some false | .str _, .int _ => some false | .bl _, .str _ => some false | .str _, .bl _ => some false
  | _, _ => none
theorem eqS_ok {K : Kn} {F : Addr → Prop} {H : Hp} {x y : D} {vx vy : V} {b : Bool} (rx : Rp K F H x vx) (ry : Rp K F H y vy) (h : eqS x y = some b) : scal vx vy = true ∧ decide (vx = vy) = b := by
  cases rx <;> cases ry <;> first | cases h | skip
  all_goals (refine ⟨rfl, ?_⟩; simp)
def gEqS : G2 := fun x y μ R => match eqS x y with
  | some b => R (.bl b) μ
  | none => False
def gNeS : G2 := fun x y μ R => match eqS x y with
  | some b => R (.bl (!b)) μ
  | none => False
theorem o_eqS : OpL X Z (compareOp .Eq) gEqS := ⟨_, op_eq, fun F H μ x y vx vy R Q s rx ry q k => by
  unfold gEqS at q
  split at q
  · rename_i b e
    obtain ⟨h1, h2⟩ := eqS_ok rx ry e
    exact ⟨h1, by rw [h2]; exact k F _ H _ μ (Step.refl s) (.bl b) q⟩
  · exact q.elim⟩
theorem o_neS : OpL X Z (compareOp .NotEq) gNeS := ⟨_, op_ne, fun F H μ x y vx vy R Q s rx ry q k => by
  unfold gNeS at q
  split at q
  · rename_i b e
    obtain ⟨h1, h2⟩ := eqS_ok rx ry e
    exact ⟨h1, by rw [h2]; exact k F _ H _ μ (Step.refl s) (.bl (!b)) q⟩
  · exact q.elim⟩
def isNonD : D → Bool
  | .non => true
  | _ => false
theorem isNon_ok {K : Kn} {F : Addr → Prop} {H : Hp} {x : D} {v : V} (r : Rp K F H x v) : decide (v = .non) = isNonD x := by
  cases r <;> rfl
def gIsN : G2 := fun x y μ R => match y with
  | .non => R (.bl (isNonD x)) μ
  | _ => False
def gNotN : G2 := fun x y μ R => match y with
  | .non => R (.bl (!isNonD x)) μ
  | _ => False
theorem o_isN : OpL X Z (compareOp .Is) gIsN := ⟨_, op_isN, fun F H μ x y vx vy R Q s rx ry q k => by
  cases ry <;> first | exact (show False from q).elim | skip
  exact ⟨rfl, by rw [isNon_ok rx]; exact k F _ H _ μ (Step.refl s) (.bl _) q⟩⟩
theorem o_notN : OpL X Z (compareOp .IsNot) gNotN := ⟨_, op_notN, fun F H μ x y vx vy R Q s rx ry q k => by
  cases ry <;> first | exact (show False from q).elim | skip
  exact ⟨rfl, by rw [isNon_ok rx]; exact k F _ H _ μ (Step.refl s) (.bl _) q⟩⟩
def gInS : G2 := fun x y μ R => match x, y with
  | .str a, .str z => ∃ c, a = ⟨#[c]⟩ ∧ R (.bl (decide (c ∈ z.cps.toList))) μ
  | _, _ => False
def gNotInS : G2 := fun x y μ R => match x, y with
  | .str a, .str z => ∃ c, a = ⟨#[c]⟩ ∧ R (.bl (!decide (c ∈ z.cps.toList))) μ
  | _, _ => False
theorem o_inS : OpL X Z (compareOp .In) gInS := ⟨_, op_in_sign, fun F H μ x y vx vy R Q s rx ry q k => by
  cases rx <;> first | exact (show False from q).elim | skip
  cases ry <;> first | exact (show False from q).elim | skip
  obtain ⟨c, rfl, q⟩ := q
  exact ⟨c, _, rfl, rfl, k F _ H _ μ (Step.refl s) (.bl _) q⟩⟩
theorem o_notInS : OpL X Z (compareOp .NotIn) gNotInS := ⟨_, op_notIn_sign, fun F H μ x y vx vy R Q s rx ry q k => by
  cases rx <;> first | exact (show False from q).elim | skip
  cases ry <;> first | exact (show False from q).elim | skip
  obtain ⟨c, rfl, q⟩ := q
  exact ⟨c, _, rfl, rfl, k F _ H _ μ (Step.refl s) (.bl _) q⟩⟩
def flatD : D → Bool
  | .non => true | .bl _ => true | .int _ => true | .str _ => true
  | _ => false
def eqD : D → D → Bool
  | .non, .non => true
  | .bl a, .bl b => a == b
  | .bl a, .int b => (if a then 1 else 0) == b
  | .int a, .bl b => a == (if b then 1 else 0)
  | .int a, .int b => a == b
  | .str a, .str b => a == b
  | _, _ => false
def inD (x : D) (xs : List D) : Bool := xs.any fun y => eqD y x
theorem flat_ok {K : Kn} {F : Addr → Prop} {H : Hp} {x : D} {v : V} (r : Rp K F H x v) (h : flatD x = true) : flatV v = true := by
  cases r <;> first | rfl | cases h
theorem flats_ok {K : Kn} {F : Addr → Prop} {H : Hp} : ∀ {xs : List D} {vs : List V}, Rps K F H xs vs → xs.all flatD = true → vs.all flatV = true
  | _, _, .nil, _ => rfl
  | _, _, .cons r t, h => by
    rw [List.all_cons, Bool.and_eq_true] at h ⊢
    exact ⟨flat_ok r h.1, flats_ok t h.2⟩
theorem eqV_ok {K : Kn} {F : Addr → Prop} {H : Hp} {x y : D} {v u : V} (r : Rp K F H x v) (q : Rp K F H y u) (h : flatD x = true) (h' : flatD y = true) : eqV v u = eqD x y := by
  cases r <;> cases q <;> first | rfl | cases h | cases h'
theorem inV_ok {K : Kn} {F : Addr → Prop} {H : Hp} {x : D} {v : V} (r : Rp K F H x v) (h : flatD x = true) : ∀ {xs : List D} {vs : List V}, Rps K F H xs vs → xs.all flatD = true → inV v vs = inD x xs
  | _, _, .nil, _ => rfl
  | _, _, .cons q t, h' => by
    rw [List.all_cons, Bool.and_eq_true] at h'
    have ih := inV_ok r h t h'.2
    unfold inV inD at ih ⊢
    rw [List.any_cons, List.any_cons, eqV_ok q r h'.1 h, ih]
def gInL (neg : Bool) : G2 := fun x y μ R => match seqOf μ y with
  | some xs => flatD x = true ∧ xs.all flatD = true ∧ R (.bl (if neg then !inD x xs else inD x xs)) μ
  | none => False
theorem inL_ok {K : Kn} {Z : Zn K} {neg : Bool} {F : Addr → Prop} {H : Hp} {μ : Mu} {x y : D} {vx vy : V} {R : DK} {Q : VK} (s : Sim Z F H μ) (rx : Rp K F H x vx) (ry : Rp K F H y vy) (q : gInL neg x y μ R)
    (k : ∀ F' v H' z μ', Step Z F H μ F' H' μ' → Rp K F' H' z v → R z μ' → Q v H') : rIn K neg vx vy H Q := by
  unfold gInL at q
  split at q
  · rename_i xs e
    obtain ⟨p, vs, rfl, sq, rs⟩ := seq_of s ry e
    obtain ⟨h1, h2, q⟩ := q
    refine ⟨p, vs, rfl, sq, flat_ok rx h1, flats_ok rs h2, ?_⟩
    rw [inV_ok rx h1 rs h2]
    exact k F _ H _ μ (Step.refl s) (.bl _) q
  · exact q.elim
theorem o_inL : OpL X Z (compareOp .In) (gInL false) := ⟨_, op_in_seq, fun F H μ x y vx vy R Q s rx ry q k => inL_ok s rx ry q k⟩
theorem o_notInL : OpL X Z (compareOp .NotIn) (gInL true) := ⟨_, op_notIn_seq, fun F H μ x y vx vy R Q s rx ry q k => inL_ok s rx ry q k⟩
variable {e a b o i v : Expr} {es : List Expr} {ta tb te to ti tv : TE3} {tr : TA3} {pos : Pos} {x : Str}
def gIx : G2 := fun x y μ R => match x, y with
  | .str z, .int i => ∃ c, z.length ≤ sizeLine ∧ atI z.cps.toList i = some c ∧ R (.str ⟨#[c]⟩) μ
  | x, .int i => ∃ xs d, seqOf μ x = some xs ∧ atI xs i = some d ∧ R d μ
  | _, _ => False
theorem atI_rel {K : Kn} {F : Addr → Prop} {H : Hp} {xs : List D} {vs : List V} {i : Int} {d : D} (r : Rps K F H xs vs) (h : atI xs i = some d) : ∃ v, atI vs i = some v ∧ Rp K F H d v := by
  unfold atI at h ⊢
  rw [← r.length]
  cases e : ixN xs.length i with
  | none => rw [e] at h; cases h
  | some j => rw [e] at h; exact r.get h
theorem ix_ok {K : Kn} {Z : Zn K} : ∀ F H μ x y vx vy R Q, Sim Z F H μ → Rp K F H x vx → Rp K F H y vy → gIx x y μ R →
    (∀ F' v H' z μ', Step Z F H μ F' H' μ' → Rp K F' H' z v → R z μ' → Q v H') → rIx K vx vy H Q := by
  intro F H μ x y vx vy R Q s rx ry q k
  unfold gIx at q
  split at q
  · cases rx
    cases ry
    obtain ⟨c, h1, h2, q⟩ := q
    exact .inr (.inr ⟨_, _, c, rfl, rfl, h1, h2, k F _ H _ μ (Step.refl s) (.str _) q⟩)
  · cases ry
    obtain ⟨xs, d, e, h, q⟩ := q
    obtain ⟨p, vs, rfl, sq, rs⟩ := seq_of s rx e
    obtain ⟨v, e2, r2⟩ := atI_rel rs h
    rcases sq with sq | sq
    · exact .inl ⟨p, vs, _, v, rfl, rfl, sq, e2, k F _ H _ μ (Step.refl s) r2 q⟩
    · exact .inr (.inl ⟨p, vs, _, v, rfl, rfl, sq, e2, k F _ H _ μ (Step.refl s) r2 q⟩)
  · exact q.elim
abbrev TO3 := St3 → Mu → (Option Int → Mu → Prop) → Prop
def lowO {K : Kn} (Z : Zn K) (t : TO3) : TO := fun σ H Q => ∃ (F : Addr → Prop) (δ : St3) (μ : Mu) (R : Option Int → Mu → Prop), Sim Z F H μ ∧ Sl K F H σ δ ∧ t δ μ R ∧
  ∀ F' b H' μ', Step Z F H μ F' H' μ' → R b μ' → Q b H'
def O3 (X : Cx) (Z : Zn X.kn) (e : Option Expr) (t : TO3) : Prop := PO X e (lowO Z t)
theorem _root_.L2.PO.imp {X : Cx} {e : Option Expr} {t t' : TO} (h : PO X e t) (i : ∀ σ H Q, t' σ H Q → t σ H Q) : PO X e t' := ⟨fun pins s σ H Q I q => h.run pins s σ H Q I (i _ _ _ q)⟩
def vNoP : TO3 := fun _ μ R => R none μ
def vPart (t : TE3) : TO3 := fun δ μ R => t δ μ fun x μ1 => match x with
  | .int i => R (some i) μ1
  | _ => False
theorem p_none : O3 X Z none vNoP := po_none.imp fun σ H Q h => by
  obtain ⟨F, δ, μ, R, s, sl, h, k⟩ := h
  exact k F none H μ (Step.refl s) h
theorem p_some (he : E3 X Z e te) : O3 X Z (some e) (vPart te) := (po_some he).imp fun σ H Q h => by
  obtain ⟨F, δ, μ, R, s, sl, h, k⟩ := h
  refine ⟨F, δ, μ, _, s, sl, h, fun F1 v H1 d μ1 g r1 q1 => ?_⟩
  cases r1 <;> first | exact (show False from q1).elim | skip
  exact ⟨_, rfl, k F1 _ H1 μ1 g q1⟩
def cutD (xs : List D) (lo hi : Option Int) : List D := (xs.drop (HT.sIx xs.length 0 lo)).take (HT.sIx xs.length xs.length hi - HT.sIx xs.length 0 lo)
theorem cut_rel {K : Kn} {F : Addr → Prop} {H : Hp} {xs : List D} {vs : List V} (r : Rps K F H xs vs) (lo hi : Option Int) : Rps K F H (cutD xs lo hi) (cutV vs lo hi) := by
  unfold cutD cutV
  rw [r.length]
  exact (r.drop _).take _
def gSl : D → Option Int → Option Int → Mu → DK → Prop := fun x lo hi μ R => match x with
  | .str z => z.length ≤ sizeLine ∧ R (.str (cutS z lo hi)) μ
  | .tup xs => if HT.sIx xs.length 0 lo = 0 ∧ HT.sIx xs.length xs.length hi = xs.length then False else R (.tup (cutD xs lo hi)) μ
  | x => ∃ xs, rdL μ x = some xs ∧ R (.lst (cutD xs lo hi)) μ
def vSl (te : TE3) (tl th : TO3) : TE3 := fun δ μ R => te δ μ fun x μ1 => tl δ μ1 fun l μ2 => th δ μ2 fun h μ3 => gSl x l h μ3 R
theorem e_slice {lo hi : Option Expr} {p2 : Pos} {tl th : TO3} (he : E3 X Z e te) (hl : O3 X Z lo tl) (hh : O3 X Z hi th) : E3 X Z (.Subscript e (.Slice lo hi none p2) pos) (vSl te tl th) := (pe_slice ((sl_list.or sl_tup).or sl_str) he hl hh).imp fun σ H Q h => by
  obtain ⟨F, δ, μ, R, s, sl, h, k⟩ := h
  refine ⟨F, δ, μ, _, s, sl, h, fun F1 v H1 d μ1 g r1 q1 => ⟨F1, δ, μ1, _, g.sim, sl.st g, q1, fun F2 l H2 μ2 g2 q2 => ⟨F2, δ, μ2, _, g2.sim, sl.st (g.trans g2), q2, fun F3 u H3 μ3 g3 q3 => ?_⟩⟩⟩
  have r3 := r1.st (g2.trans g3)
  have kk : ∀ F' v H' d μ', Step Z F3 H3 μ3 F' H' μ' → Rp X.kn F' H' d v → R d μ' → Q v H' := fun F' v H' d μ' g' => k F' v H' d μ' (((g.trans g2).trans g3).trans g')
  unfold gSl at q3
  split at q3
  · cases r3
    exact .inr ⟨_, rfl, q3.1, kk F3 _ H3 _ μ3 (Step.refl g3.sim) (.str _) q3.2⟩
  · cases r3 with
    | @tup xs vs a f e rs =>
      split at q3
      · exact q3.elim
      · rename_i hn
        refine .inl (.inr ⟨_, _, rfl, SqT.of e, by rw [← rs.length]; exact hn, fun p hp => ?_⟩)
        have g' := g3.sim.frzS (o := .tup (cutV vs l u)) hp
        exact kk _ _ _ _ μ3 g' (.tup (.inr rfl) upd_same ((cut_rel rs l u).st g')) q3
  · rename_i hns hnt
    obtain ⟨xs, e, q3⟩ := q3
    obtain ⟨p, vs, ev, sq, rs⟩ := rdl_of g3.sim r3 e
    subst ev
    refine .inl (.inl ⟨p, vs, rfl, sq, fun p' hp => ?_⟩)
    have g' := g3.sim.frzS (o := .lst (cutV vs l u)) hp
    exact kk _ _ _ _ μ3 g' (.lst (.inr rfl) upd_same ((cut_rel rs l u).st g')) q3
end
end L3
namespace L3
open PySem PySem.Spec L2
section
variable {X : Cx} {Z : Zn X.kn} {e a b c o i v : Expr} {es : List Expr} {ta tb tc te to ti tv : TE3} {tr : TA3} {pos p apos cpos : Pos} {x : Str}
def gLen : GA := fun ds μ R => match ds with
  | [.str z] => z.length ≤ sizeLine ∧ R (.int z.length) μ
  | [x] => ∃ xs, seqOf μ x = some xs ∧ R (.int xs.length) μ
  | _ => False
theorem c_len : CallL X Z (.builtin "len") gLen := ⟨_, call_len, fun F H μ ds vs R Q s rs q k => by
  cases rs with
  | nil => exact (show False from q).elim
  | @cons d v ds vs r t =>
    cases t with
    | cons _ _ => cases d <;> exact (show False from q).elim
    | nil =>
      refine ⟨v, ?_⟩
      cases r with
      | str z => exact ⟨_, rfl, ⟨q.1, rfl⟩, k F _ H _ μ (Step.refl s) (.int _) q.2⟩
      | lst f e rr =>
        obtain ⟨xs, e1, q⟩ := q
        cases e1
        exact ⟨_, rfl, .inl ⟨_, SqL.of e, rfl⟩, k F _ H _ μ (Step.refl s) (by rw [rr.length]; exact .int _) q⟩
      | scr f rr =>
        obtain ⟨xs, e1, q⟩ := q
        cases e1
        exact ⟨_, rfl, .inl ⟨_, f.sq, rfl⟩, k F _ H _ μ (Step.refl s) (by rw [rr.length]; exact .int _) q⟩
      | tup f e rr =>
        obtain ⟨xs, e1, q⟩ := q
        cases e1
        exact ⟨_, rfl, .inr ⟨_, SqT.of e, rfl⟩, k F _ H _ μ (Step.refl s) (by rw [rr.length]; exact .int _) q⟩
      | etp p i t =>
        obtain ⟨xs, e1, q⟩ := q
        cases e1
        exact ⟨_, rfl, .inr ⟨[], .inr t, rfl⟩, k F _ H _ μ (Step.refl s) (.int _) q⟩
      | ref a =>
        obtain ⟨xs, e1, q⟩ := q
        obtain ⟨p, vs, e2, sq, rr⟩ := seq_of (x := .ref a) s (.ref a) e1
        cases e2
        refine ⟨xs.length, rfl, ?_, k F _ H _ μ (Step.refl s) (.int _) q⟩
        rcases sq with sq | sq
        · exact .inl ⟨vs, sq, rr.length⟩
        · exact .inr ⟨vs, sq, rr.length⟩
      | _ => obtain ⟨xs, e1, q⟩ := q; cases e1⟩
def tyD (μ : Mu) : D → Option String
  | .non => some "NoneType" | .bl _ => some "bool" | .int _ => some "int" | .str _ => some "str"
  | .tup _ => some "tuple" | .lst _ => some "list" | .dct _ => some "dict" | .etp _ _ => some "tuple"
  | .ref a => match μ a with
    | some (.lst _) => some "list"
    | some (.dct _) => some "dict"
    | _ => none
  | _ => none
theorem tyD_ok {K : Kn} {Z : Zn K} {F : Addr → Prop} {H : Hp} {μ : Mu} {x : D} {v : V} {n : String} (s : Sim Z F H μ) (r : Rp K F H x v) (h : tyD μ x = some n) : TyX K H v (.type n) := by
  cases r with
  | non => cases h; exact .base .non
  | bl b => cases h; exact .base (.bl b)
  | int i => cases h; exact .base (.int i)
  | str z => cases h; exact .base (.str z)
  | tup f e rs => cases h; exact .base (.tup e)
  | etp p i t => cases h; obtain ⟨o, its, m, lk, c, _⟩ := t; exact .kTuple lk c
  | lst f e rs => cases h; exact .base (.lst e)
  | dct f e rs =>
    cases h
    rcases e with e | ⟨o, e⟩
    · exact .base (.dK e)
    · exact .fDict e
  | ref a =>
    have h' : (match μ a with
      | some (.lst _) => some "list"
      | some (.dct _) => some "dict"
      | _ => none) = some n := h
    split at h'
    · rename_i xs e2
      cases h'
      obtain ⟨_, vs, e3, rs⟩ := s.obj _ _ e2
      exact .base (.lst e3)
    · rename_i xs e2
      cases h'
      obtain ⟨_, vs, e3, rs⟩ := s.obj _ _ e2
      exact .base (.dK e3)
    · cases h'
  | _ => cases h
def gIsi : GA := fun ds μ R => match ds with
  | [x, .ty m] => ∃ n b, tyD μ x = some n ∧ kitB n m = some b ∧ R (.bl b) μ
  | _ => False
theorem c_isi : CallL X Z (.builtin "isinstance") gIsi := ⟨_, call_isi, fun F H μ ds vs R Q s rs q k => by
  unfold gIsi at q
  split at q
  · rename_i x m
    obtain ⟨n, b, e1, e2, q⟩ := q
    cases rs with
    | cons r1 t =>
      cases t with
      | cons r2 t =>
        cases t
        cases r2
        exact ⟨_, _, .type n, .type m, b, rfl, .ty m, tyD_ok s r1 e1, kit_ty e2, k F _ H _ μ (Step.refl s) (.bl b) q⟩
  · exact q.elim⟩
def gMax2 : GA := fun ds μ R => match ds with
  | [.int i, .int j] => R (.int (max i j)) μ
  | _ => False
def gMin2 : GA := fun ds μ R => match ds with
  | [.int i, .int j] => R (.int (min i j)) μ
  | _ => False
theorem c_max2 (hc : X.calm = true) : CallL X Z (.builtin "max") gMax2 := ⟨_, call_max2 hc, fun F H μ ds vs R Q s rs q k => by
  unfold gMax2 at q
  split at q
  · rename_i i j
    cases rs with
    | cons r1 t => cases t with
      | cons r2 t =>
        cases t; cases r1; cases r2
        refine ⟨i, j, rfl, ?_⟩
        have e : (if j > i then j else i) = max i j := by split <;> omega
        rw [e]
        exact k F _ H _ μ (Step.refl s) (.int _) q
  · exact q.elim⟩
theorem c_min2 (hc : X.calm = true) : CallL X Z (.builtin "min") gMin2 := ⟨_, call_min2 hc, fun F H μ ds vs R Q s rs q k => by
  unfold gMin2 at q
  split at q
  · rename_i i j
    cases rs with
    | cons r1 t => cases t with
      | cons r2 t =>
        cases t; cases r1; cases r2
        refine ⟨i, j, rfl, ?_⟩
        have e : (if j < i then j else i) = min i j := by split <;> omega
        rw [e]
        exact k F _ H _ μ (Step.refl s) (.int _) q
  · exact q.elim⟩
theorem rps_map {α : Type} {K : Kn} {F : Addr → Prop} {H : Hp} {f : α → D} {g : α → V} (hf : ∀ a v, Rp K F H (f a) v → v = g a) : ∀ {xs : List α} {vs : List V}, Rps K F H (xs.map f) vs → vs = xs.map g
  | [], _, .nil => rfl
  | a :: r, _, .cons h t => by rw [List.map_cons, hf a _ h, rps_map hf t]
def gAll : GA := fun ds μ R => ∃ (x : D) (bs : List Bool), ds = [x] ∧ rdL μ x = some (bs.map D.bl) ∧ R (.bl (bs.all id)) μ
def gSum : GA := fun ds μ R => ∃ (x : D) (bs : List Int), ds = [x] ∧ rdL μ x = some (bs.map D.int) ∧ R (.int (bs.sum)) μ
theorem one_of {K : Kn} {F : Addr → Prop} {H : Hp} {x : D} {vs : List V} (h : Rps K F H [x] vs) : ∃ v, vs = [v] ∧ Rp K F H x v := by
  cases h with
  | cons r t => cases t; exact ⟨_, rfl, r⟩
theorem c_all (hc : X.calm = true) : CallL X Z (.builtin "all") gAll := ⟨_, cr_all hc, fun F H μ ds vs R Q s rs q k => by
  obtain ⟨x, bs, rfl, e, q⟩ := q
  obtain ⟨v, rfl, r⟩ := one_of rs
  obtain ⟨p, us, rfl, sq, rr⟩ := rdl_of s r e
  obtain rfl := rps_map (g := V.bl) (fun a v h => by cases h; rfl) rr
  exact ⟨p, bs, rfl, sq, k F _ H _ μ (Step.refl s) (.bl _) q⟩⟩
theorem c_sum (hc : X.calm = true) : CallL X Z (.builtin "sum") gSum := ⟨_, cr_sum hc, fun F H μ ds vs R Q s rs q k => by
  obtain ⟨x, bs, rfl, e, q⟩ := q
  obtain ⟨v, rfl, r⟩ := one_of rs
  obtain ⟨p, us, rfl, sq, rr⟩ := rdl_of s r e
  obtain rfl := rps_map (g := V.int) (fun a v h => by cases h; rfl) rr
  exact ⟨p, bs, rfl, sq, k F _ H _ μ (Step.refl s) (.int _) q⟩⟩
def gList : GA := fun ds μ R => ∃ x xs, ds = [x] ∧ seqOf μ x = some xs ∧ R (.lst xs) μ
def gListT : GA := fun ds μ R => ∃ x xs, ds = [x] ∧ seqOf μ x = some xs ∧ ∀ q, μ q = none → R (.ref q) (mset μ q (.lst xs))
theorem c_list : CallL X Z (.type "list") gList := ⟨_, call_list_of, fun F H μ ds vs R Q s rs q k => by
  obtain ⟨x, xs, rfl, e, q⟩ := q
  obtain ⟨v, rfl, r⟩ := one_of rs
  obtain ⟨p, us, rfl, sq, rr⟩ := seq_of s r e
  refine ⟨p, us, rfl, sq, fun l hl => ?_⟩
  have g := s.frzS (o := .lst us) hl
  exact k _ _ _ _ μ g (.lst (.inr rfl) upd_same (rr.st g)) q⟩
theorem c_listT : CallL X Z (.type "list") gListT := ⟨_, call_list_of, fun F H μ ds vs R Q s rs q k => by
  obtain ⟨x, xs, rfl, e, q⟩ := q
  obtain ⟨v, rfl, r⟩ := one_of rs
  obtain ⟨p, us, rfl, sq, rr⟩ := seq_of s r e
  refine ⟨p, us, rfl, sq, fun l hl => ?_⟩
  have g := s.trkS (o := .lst us) (m := .lst xs) hl fun g' e => ⟨us, e, rr.grow g'⟩
  exact k _ _ _ _ _ g (.ref l) (q l (s.free hl))⟩
abbrev GM := D → List D → Mu → DK → Prop
def MtL (X : Cx) (Z : Zn X.kn) (id : String) (T : String) (G : GM) : Prop := ∃ r, MtR X id r ∧ ∀ F H μ x ds vx vs R Q, Sim Z F H μ → Rp X.kn F H x vx → Rps X.kn F H ds vs → G x ds μ R →
  (∀ F' v H' z μ', Step Z F H μ F' H' μ' → Rp X.kn F' H' z v → R z μ' → Q v H') → r vx vs H Q
def tyM (T : String) (μ : Mu) (x : D) : Prop := match x with
  | .str _ => T = "str"
  | .lst _ => T = "list"
  | .scr _ => T = "list"
  | .ref a => (T = "list" ∧ ∃ xs, μ a = some (.lst xs)) ∨ (T = "dict" ∧ ∃ kvs, μ a = some (.dct kvs))
  | _ => False
theorem tyM_ok {K : Kn} {Z : Zn K} {F : Addr → Prop} {H : Hp} {μ : Mu} {x : D} {v : V} {T : String} (s : Sim Z F H μ) (r : Rp K F H x v) (h : tyM T μ x) : tyV K T v H := by
  cases r with
  | str z => exact h
  | lst f e rs => exact .inl ⟨h, _, SqL.of e⟩
  | scr f rs => exact .inl ⟨h, _, f.sq⟩
  | ref a =>
    rcases h with ⟨e, xs, h⟩ | ⟨e, xs, h⟩
    · obtain ⟨_, vs, e3, rs⟩ := s.obj _ _ h
      exact .inl ⟨e, _, SqL.of e3⟩
    · obtain ⟨_, vs, e3, rs⟩ := s.obj _ _ h
      exact .inr (.inr (.inl ⟨e, .inl ⟨_, e3⟩⟩))
  | _ => exact (show False from h).elim
def vBM0 (T : String) (G : GM) (to : TE3) : TE3 := fun δ μ R => to δ μ fun x μ1 => tyM T μ1 x ∧ G x [] μ1 R
def vBM (T : String) (G : GM) (to : TE3) (tr : TA3) : TE3 := fun δ μ R => to δ μ fun x μ1 => tyM T μ1 x ∧ tr δ μ1 fun ds μ2 => G x ds μ2 R
theorem e_bm0 {name : Str} {T id : String} {G : GM} (pa : PlainAttrs T) (slot : Slot T name id) (hty : typeOf (.builtin id) = pure (.type "method_descriptor")) (hm : MtL X Z id T G) (ho : E3 X Z o to)
    (hbase : attributeBase o name X.env (eval o X.env) = eval o X.env := by rfl) (hline : (apos.endLine == cpos.line) = true := by rfl) : E3 X Z (.Call (.Attribute o name apos) [] [] cpos) (vBM0 T G to) := by
  obtain ⟨r, hr, l⟩ := hm
  refine (pe_bm0 pa slot hty hr ho hbase hline).imp fun σ H Q h => ?_
  obtain ⟨F, δ, μ, R, s, sl, h, k⟩ := h
  exact ⟨F, δ, μ, _, s, sl, h, fun F1 v H1 d μ1 g r1 q1 => ⟨tyM_ok g.sim r1 q1.1, l F1 H1 μ1 d [] v [] R Q g.sim r1 .nil q1.2 fun F2 v H2 d μ2 g2 r2 q2 => k F2 v H2 d μ2 (g.trans g2) r2 q2⟩⟩
theorem e_bm {name : Str} {T id : String} {G : GM} (pa : PlainAttrs T) (slot : Slot T name id) (hty : typeOf (.builtin id) = pure (.type "method_descriptor")) (hm : MtL X Z id T G) (ho : E3 X Z o to) (ha : A3 X Z (e :: es) tr)
    (hbase : attributeBase o name X.env (eval o X.env) = eval o X.env := by rfl)
    (hfew : ((backTo cpos (starEach (e :: es) X.env)).all (fun x => !x.1) && (backToKw cpos (keywordEach [] X.env)).all (fun x => x.1.isSome)
      && decide ((e :: es).length + ([] : List Keyword).length + (if ([] : List Keyword).isEmpty then 0 else 1) < 30)) = true := by rfl)
    (hline : (apos.endLine == cpos.line) = true := by rfl) (hs : starEach (e :: es) X.env = (false, eval e X.env) :: starEach es X.env := by rfl) (hplain : (backTo cpos (starEach es X.env)).any (·.1) = false := by rfl) :
    E3 X Z (.Call (.Attribute o name apos) (e :: es) [] cpos) (vBM T G to tr) := by
  obtain ⟨r, hr, l⟩ := hm
  refine (pe_bm pa slot hty hr ho ha hbase hfew hline hs hplain).imp fun σ H Q h => ?_
  obtain ⟨F, δ, μ, R, s, sl, h, k⟩ := h
  exact ⟨F, δ, μ, _, s, sl, h, fun F1 v H1 d μ1 g r1 q1 => ⟨tyM_ok g.sim r1 q1.1, F1, δ, μ1, _, g.sim, sl.st g, q1.2, fun F2 vs H2 ds μ2 g2 r2 q2 => l F2 H2 μ2 d ds v vs R Q g2.sim (r1.st g2) r2 q2 fun F3 v H3 d μ3 g3 r3 q3 => k F3 v H3 d μ3 ((g.trans g2).trans g3) r3 q3⟩⟩
def gApp : GM := fun x ds μ R => ∃ a xs d, x = .ref a ∧ ds = [d] ∧ μ a = some (.lst xs) ∧ xs.length < sizeLine ∧ R .non (mset μ a (.lst (xs ++ [d])))
theorem m_append : MtL X Z "list.append" "list" gApp := ⟨_, mt_append, fun F H μ x ds vx vs R Q s rx rs q k => by
  obtain ⟨a, xs, d, rfl, rfl, e, hz, q⟩ := q
  obtain ⟨v, rfl, r⟩ := one_of rs
  cases rx
  obtain ⟨_, us, e3, rr⟩ := s.obj _ _ e
  refine ⟨a, us, v, rfl, rfl, e3, by rw [← rr.length]; exact hz, ?_⟩
  have g := s.putS (o := .lst (us ++ [v])) (m := .lst (xs ++ [d])) e fun g' e' => ⟨_, e', (rr.grow g').append (.cons (r.grow g') .nil)⟩
  exact k _ _ _ _ _ g .non q⟩
def gPop : GM := fun x ds μ R => ∃ a xs d, x = .ref a ∧ ds = [] ∧ μ a = some (.lst xs) ∧ xs[xs.length - 1]? = some d ∧ R d (mset μ a (.lst xs.dropLast))
theorem m_pop : MtL X Z "list.pop" "list" gPop := ⟨_, mt_pop, fun F H μ x ds vx vs R Q s rx rs q k => by
  obtain ⟨a, xs, d, rfl, rfl, e, hz, q⟩ := q
  cases rs
  cases rx
  obtain ⟨_, us, e3, rr⟩ := s.obj _ _ e
  obtain ⟨v, ev, r⟩ := rr.get hz
  refine ⟨a, us, v, rfl, rfl, e3, by rw [← rr.length]; exact ev, ?_⟩
  have g := s.putS (o := .lst us.dropLast) (m := .lst xs.dropLast) e fun g' e' => ⟨_, e', (rr.grow g').dropLast⟩
  exact k _ _ _ _ _ g (r.st g) q⟩
def gExt : GM := fun x ds μ R => ∃ a xs y ys, x = .ref a ∧ ds = [y] ∧ μ a = some (.lst xs) ∧ lstOf μ y = some ys ∧ xs.length + ys.length ≤ sizeLine ∧ R .non (mset μ a (.lst (xs ++ ys)))
theorem m_extend : MtL X Z "list.extend" "list" gExt := ⟨_, mt_extend, fun F H μ x ds vx vs R Q s rx rs q k => by
  obtain ⟨a, xs, y, ys, rfl, rfl, e, ey, hz, q⟩ := q
  obtain ⟨v, rfl, r⟩ := one_of rs
  cases rx
  obtain ⟨_, us, e3, rr⟩ := s.obj _ _ e
  obtain ⟨p, ws, rfl, e4, r4⟩ := lst_of s r ey
  refine ⟨a, p, us, ws, rfl, rfl, e3, e4, by rw [← rr.length, ← r4.length]; exact hz, ?_⟩
  have g := s.putS (o := .lst (us ++ ws)) (m := .lst (xs ++ ys)) e fun g' e' => ⟨_, e', (rr.grow g').append (r4.grow g')⟩
  exact k _ _ _ _ _ g .non q⟩
def StL (X : Cx) (Z : Zn X.kn) (G : D → D → D → Mu → (Mu → Prop) → Prop) : Prop := ∃ t, PSet X t ∧ ∀ F H μ o i v vo vi vv R Q, Sim Z F H μ → Rp X.kn F H o vo → Rp X.kn F H i vi → Rp X.kn F H v vv → G o i v μ R →
  (∀ F' H' μ', Step Z F H μ F' H' μ' → R μ' → Q H') → t vo vi vv H Q
def sSub (G : D → D → D → Mu → (Mu → Prop) → Prop) (te to ti : TE3) : TS3 := fun D δ μ => te δ μ fun v μ1 => to δ μ1 fun o μ2 => ti δ μ2 fun i μ3 => G o i v μ3 fun μ4 => D.nx δ μ4
theorem s_sub {G : D → D → D → Mu → (Mu → Prop) → Prop} {pos' : Pos} (hS : StL X Z G) (he : E3 X Z e te) (ho : E3 X Z o to) (hi : E3 X Z i ti)
    (ha : ∀ v, assign (.Subscript o i pos') X.env v = (do
      let ov ← holding [v] (eval o X.env)
      let iv ← holding [v, ov] (eval i X.env)
      standAt pos'
      holding [v, ov, iv] (setItem ov iv v)
      release [v, ov, iv] []) := by intro _; rfl)
    (hs : swapsWithSole [.Subscript o i pos'] e pos.line X.env = pure false := by rfl) (hw : swappedStores [.Subscript o i pos'] e X.env = pure none := by rfl)
    (h1 : (assignEach [.Subscript o i pos'] X.env).map (·.2) = [assign (.Subscript o i pos') X.env] := by rfl) : S3 X Z (.Assign [.Subscript o i pos'] e pos) (sSub G te to ti) := by
  obtain ⟨t, ht, l⟩ := hS
  refine (ps_asg he (pg_sub ho hi ht ha) hs hw h1).imp fun D σ H h => ?_
  obtain ⟨F, δ, μ, D3, s, sl, h, k⟩ := h
  refine ⟨F, δ, μ, _, s, sl, h, fun F1 v H1 d μ1 g r1 q1 => ?_⟩
  refine ⟨F1, δ, μ1, _, g.sim, sl.st g, q1, fun F2 ov H2 od μ2 g2 r2 q2 => ?_⟩
  refine ⟨F2, δ, μ2, _, g2.sim, sl.st (g.trans g2), q2, fun F3 iv H3 id μ3 g3 r3 q3 => ?_⟩
  exact l F3 H3 μ3 od id d ov iv v _ _ g3.sim (r2.st g3) r3 (r1.st (g2.trans g3)) q3 fun F4 H4 μ4 g4 q4 => k.nx F4 σ H4 δ μ4 (((g.trans g2).trans g3).trans g4) (sl.st (((g.trans g2).trans g3).trans g4)) q4
theorem itl_ok {K : Kn} {Z : Zn K} {F : Addr → Prop} {H : Hp} {μ : Mu} {ds : List D} {Pm : Mu → Prop} {a : Addr} (h : ∀ F1 H1 μ1, Step Z F H μ F1 H1 μ1 → Pm μ1 → ∃ vs, SqL K H1 a vs ∧ Rps K F1 H1 ds vs) : ItOk Z F H μ ds Pm (Itl K a) := by
  refine ⟨fun F1 H1 μ1 i g hp hi => ?_, fun F1 H1 μ1 g hp => ?_, fun F1 H1 μ1 i x H2 g hp hy hi => ?_⟩
  · obtain ⟨vs, sq, rs⟩ := h F1 H1 μ1 g hp
    obtain ⟨v, ev, _⟩ := rs.get (List.getElem?_eq_getElem hi)
    exact ⟨vs, v, sq, ev⟩
  · obtain ⟨vs, sq, rs⟩ := h F1 H1 μ1 g hp
    exact ⟨vs, sq, by rw [rs.length]; exact Nat.le_refl _⟩
  · obtain ⟨vs, sq, rs⟩ := h F1 H1 μ1 g hp
    obtain ⟨rfl, hy⟩ := hy
    obtain ⟨d, ed, rd⟩ := rs.back (hy vs sq)
    exact ⟨F1, d, Step.refl g.sim, ed, rd⟩
theorem itt_ok {K : Kn} {Z : Zn K} {F : Addr → Prop} {H : Hp} {μ : Mu} {ds : List D} {Pm : Mu → Prop} {a : Addr} (h : ∀ F1 H1 μ1, Step Z F H μ F1 H1 μ1 → Pm μ1 → ∃ vs, SqT K H1 a vs ∧ Rps K F1 H1 ds vs) : ItOk Z F H μ ds Pm (Itt K a) := by
  refine ⟨fun F1 H1 μ1 i g hp hi => ?_, fun F1 H1 μ1 g hp => ?_, fun F1 H1 μ1 i x H2 g hp hy hi => ?_⟩
  · obtain ⟨vs, sq, rs⟩ := h F1 H1 μ1 g hp
    obtain ⟨v, ev, _⟩ := rs.get (List.getElem?_eq_getElem hi)
    exact ⟨vs, v, sq, ev⟩
  · obtain ⟨vs, sq, rs⟩ := h F1 H1 μ1 g hp
    exact ⟨vs, sq, by rw [rs.length]; exact Nat.le_refl _⟩
  · obtain ⟨vs, sq, rs⟩ := h F1 H1 μ1 g hp
    obtain ⟨rfl, hy⟩ := hy
    obtain ⟨d, ed, rd⟩ := rs.back (hy vs sq)
    exact ⟨F1, d, Step.refl g.sim, ed, rd⟩
theorem lst_at {K : Kn} {Z : Zn K} {F F1 : Addr → Prop} {H H1 : Hp} {μ μ1 : Mu} {a : Addr} {ds : List D} (r : Rp K F H (.lst ds) (.ref a)) (g : Step Z F H μ F1 H1 μ1) : ∃ vs, SqL K H1 a vs ∧ Rps K F1 H1 ds vs := by
  have r' := r.st g
  cases r' with
  | lst f e rs => exact ⟨_, SqL.of e, rs⟩
theorem scr_at {K : Kn} {Z : Zn K} {F F1 : Addr → Prop} {H H1 : Hp} {μ μ1 : Mu} {a : Addr} {ds : List D} (r : Rp K F H (.scr ds) (.ref a)) (g : Step Z F H μ F1 H1 μ1) : ∃ vs, SqL K H1 a vs ∧ Rps K F1 H1 ds vs := by
  have r' := r.st g
  cases r' with
  | scr f rs => exact ⟨_, f.sq, rs⟩
theorem tup_at {K : Kn} {Z : Zn K} {F F1 : Addr → Prop} {H H1 : Hp} {μ μ1 : Mu} {a : Addr} {ds : List D} (r : Rp K F H (.tup ds) (.ref a)) (g : Step Z F H μ F1 H1 μ1) : ∃ vs, SqT K H1 a vs ∧ Rps K F1 H1 ds vs := by
  have r' := r.st g
  cases r' with
  | tup f e rs => exact ⟨_, SqT.of e, rs⟩
def rgD (lo : Int) (n : Nat) : List D := (List.range n).map fun i => .int (lo + (i : Nat))
theorem itr_ok {K : Kn} {Z : Zn K} {F : Addr → Prop} {H : Hp} {μ : Mu} {lo : Int} {n : Nat} : ItOk Z F H μ (rgD lo n) (fun _ => True) (Itr lo n) := by
  have hl : (rgD lo n).length = n := by simp [rgD]
  refine ⟨fun F1 H1 μ1 i g hp hi => by rw [hl] at hi; exact hi, fun F1 H1 μ1 g hp => by rw [hl]; exact Nat.le_refl _, fun F1 H1 μ1 i x H2 g hp hy hi => ?_⟩
  obtain ⟨rfl, rfl⟩ := hy
  rw [hl] at hi
  exact ⟨F1, .int (lo + i), Step.refl g.sim, by simp [rgD, hi], .int _⟩
def iRg1 (ta : TA3) : TI3 := fun δ μ R => ta δ μ fun ds μ1 => match ds with
  | [.int j] => -(2 ^ 62) ≤ j ∧ j < 2 ^ 62 ∧ R (rgD 0 j.toNat) (fun _ => True) μ1
  | _ => False
theorem i_range1 {tg : Expr} (hm : X.mg "range" = none) (ha : A3 X Z [a] tr) (hg : Gl X "range" := by rfl) (hs : starEach [a] X.env = [(false, eval a X.env)] := by rfl) : I3 X Z tg (.Call (.Name "range" p) [a] [] pos) (iRg1 tr) := (pi_range1 hg hm ha hs).imp fun σ H R3 h => by
  obtain ⟨F, δ, μ, R, s, sl, h, k⟩ := h
  refine ⟨F, δ, μ, _, s, sl, h, fun F1 vs H1 ds μ1 g r1 q1 => ?_⟩
  split at q1
  · rename_i j
    obtain ⟨v, rfl, r⟩ := one_of r1
    cases r
    exact ⟨j, rfl, q1.1, q1.2.1, k F1 H1 _ _ μ1 _ g itr_ok q1.2.2⟩
  · exact q1.elim
def iRg2 (ta : TA3) : TI3 := fun δ μ R => ta δ μ fun ds μ1 => match ds with
  | [.int i, .int j] => (-(2 ^ 62) ≤ i ∧ i < 2 ^ 62 ∧ -(2 ^ 62) ≤ j ∧ j < 2 ^ 62) ∧ R (rgD i (j - i).toNat) (fun _ => True) μ1
  | _ => False
def signsD (z : Str) : List D := z.cps.toList.map fun c => .str ⟨#[c]⟩
theorem its_ok {K : Kn} {Z : Zn K} {F : Addr → Prop} {H : Hp} {μ : Mu} {z : Str} : ItOk Z F H μ (signsD z) (fun _ => True) (Its z) := by
  have hl : (signsD z).length = z.cps.size := by simp [signsD]
  refine ⟨fun F1 H1 μ1 i g hp hi => by rw [hl] at hi; exact hi, fun F1 H1 μ1 g hp => by rw [hl]; exact Nat.le_refl _, fun F1 H1 μ1 i x H2 g hp hy hi => ?_⟩
  obtain ⟨rfl, c, ec, rfl⟩ := hy
  refine ⟨F1, .str ⟨#[c]⟩, Step.refl g.sim, ?_, .str _⟩
  unfold signsD
  rw [List.getElem?_map, Array.getElem?_toList, ec]
  rfl
theorem tg_name {K : Kn} (i : Nat) : TgL K (gName i) (gN i) [i] := ⟨fun F H σ δ δ' d v Q sl r e k => by
    cases e
    exact k _ (fun ws h => wipe_set_mem σ (some v) ws i (h i List.mem_cons_self)) (sl.set i r)⟩
theorem s_setLc {j : Nat} {y : Str} {py spos : Pos} {elt tg iter : Expr} {ifs : List Expr} {scope : Scope} {own : List (Str × Nat)} {wi : TI3} {g : TG3} {tt : TT3} {vs : List Nat} (hc : X.calm = true) (hN : X.N.Nodup) (hi : I3 X Z tg iter wi) (ok : BlkOk X.N X.env.scope scope own) {g2 : TG}
    (lg : TgL X.kn g2 g vs) (hv : ∀ i ∈ vs, i ∈ own.map (·.2))
    (hg : ∀ (s : Shared) (H : Hp) (C : Addr) (cl : List (Str × Addr)) (fp : List Addr), PG (X.blk s H scope (compEnvC scope cl C X.env) fp) tg g2)
    (ht : ∀ (s : Shared) (H : Hp) (C : Addr) (cl : List (Str × Addr)) (fp : List Addr), Ts3 (X.blk s H scope (compEnvC scope cl C X.env) fp) Z ifs tt)
    (he : ∀ (s : Shared) (H : Hp) (C : Addr) (cl : List (Str × Addr)) (fp : List Addr), E3 (X.blk s H scope (compEnvC scope cl C X.env) fp) Z elt te)
    (hsw : swapsWith (.ListComp elt [⟨tg, iter, ifs, 0⟩] scope pos) (some (.Name y py)) spos.line X.env = pure true)
    (hy : X.N[j]? = some y := by rfl) (hyl : X.env.scope.names.lookup y = some .local := by rfl)
    (hs : ∀ x, foldedSetIterable iter X.env x = pure x := by intro _; rfl) :
    S3 X Z (.Assign [.Name y py] (.ListComp elt [⟨tg, iter, ifs, 0⟩] scope pos) spos) (sSet j (vLc wi g tt te (own.map (·.2)))) :=
  (ps_setLc (wi := lowI Z wi) (g := g2) (tt := lowT Z tt) (te := low Z te) hc hN hy hyl hsw hi ok hg ht he hs).imp fun D σ H h => by
    obtain ⟨F, δ, μ, D3, s, sl, h, k⟩ := h
    exact low_lc lg hv ⟨F, δ, μ, _, s, sl, h, fun F1 v H1 d μ1 g r1 q1 => k.nx F1 _ H1 _ μ1 g ((sl.st g).set j r1) q1⟩
def vDict0 : TE3 := fun _ μ R => R (.dct []) μ
def vDict0T : TE3 := fun _ μ R => ∀ q, μ q = none → R (.ref q) (mset μ q (.dct []))
theorem e_dict0T : E3 X Z (.Dict [] [] pos) vDict0T := pe_dnewK.imp fun σ H Q h => by
  obtain ⟨F, δ, μ, R, s, sl, h, k⟩ := h
  intro p hp
  have g := s.trkS (o := .dK []) (m := .dct []) hp fun g' e => ⟨[], e, .nil⟩
  exact k _ _ _ _ _ g (.ref p) (h p (s.free hp))
end
end L3
namespace L3
open PySem PySem.Spec L2
def valD (kvs : List (Key × D)) (k : Key) : Option D := (kvs.find? fun kv => decide (kv.1 = k)).map (·.2)
def putD (kvs : List (Key × D)) (k : Key) (v : D) : List (Key × D) :=
  if (kvs.any fun kv => decide (kv.1 = k)) = true then kvs.map (fun kv => if kv.1 = k then (kv.1, v) else kv) else kvs ++ [(k, v)]
def mergeD (kvs more : List (Key × D)) : List (Key × D) := more.foldl (fun acc kv => putD acc kv.1 kv.2) kvs
def keyOf : D → Option Key
  | .int i => some (.inl i)
  | .str x => some (.inr x)
  | _ => none
section
variable {K : Kn} {F : Addr → Prop} {H : Hp}
theorem keyOf_ok {x : D} {v : V} {k : Key} (r : Rp K F H x v) (h : keyOf x = some k) : v = kV k := by
  cases r <;> cases h <;> rfl
theorem Rpk.length : ∀ {ds : List (Key × D)} {vs : List (Key × V)}, Rpk K F H ds vs → ds.length = vs.length
  | _, _, .nil => rfl
  | _, _, .cons _ t => by rw [List.length_cons, List.length_cons, Rpk.length t]
theorem Rpk.val {k : Key} : ∀ {ds : List (Key × D)} {vs : List (Key × V)}, Rpk K F H ds vs → (∀ d, valD ds k = some d → ∃ v, valV vs k = some v ∧ Rp K F H d v) ∧ (valD ds k = none → valV vs k = none)
  | _, _, .nil => ⟨fun d h => (by cases h), fun _ => rfl⟩
  | _, _, .cons (k := k') (d := d') (v := v') (ds := ds') (vs := vs') r t => by
    have ih := Rpk.val (k := k) t
    by_cases e : k' = k
    · have e1 : valD ((k', d') :: ds') k = some d' := by simp [valD, List.find?_cons, e]
      have e2 : valV ((k', v') :: vs') k = some v' := valV_pos (p := (k', v')) e
      rw [e1, e2]
      exact ⟨fun d h => (by cases h; exact ⟨v', rfl, r⟩), fun h => (by cases h)⟩
    · have e1 : valD ((k', d') :: ds') k = valD ds' k := by simp [valD, List.find?_cons, e]
      have e2 : valV ((k', v') :: vs') k = valV vs' k := valV_neg (p := (k', v')) e
      rw [e1, e2]
      exact ih
theorem Rpk.keys : ∀ {ds : List (Key × D)} {vs : List (Key × V)}, Rpk K F H ds vs → ds.map (·.1) = vs.map (·.1)
  | _, _, .nil => rfl
  | _, _, .cons r t => by rw [List.map_cons, List.map_cons, Rpk.keys t]
theorem Rpk.append : ∀ {ds es : List (Key × D)} {vs us : List (Key × V)}, Rpk K F H ds vs → Rpk K F H es us → Rpk K F H (ds ++ es) (vs ++ us)
  | _, _, _, _, .nil, s => s
  | _, _, _, _, .cons h r, s => .cons h (Rpk.append r s)
theorem Rpk.upd {k : Key} {d : D} {v : V} (h : Rp K F H d v) : ∀ {ds : List (Key × D)} {vs : List (Key × V)}, Rpk K F H ds vs → Rpk K F H (ds.map fun kv => if kv.1 = k then (kv.1, d) else kv) (vs.map fun kv => if kv.1 = k then (kv.1, v) else kv)
  | _, _, .nil => .nil
  | _, _, .cons (k := k') r t => by
    rw [List.map_cons, List.map_cons]
    by_cases e : k' = k
    · simp only [e, if_true]
      exact .cons h (Rpk.upd h t)
    · simp only [e, if_false]
      exact .cons r (Rpk.upd h t)
theorem Rpk.has {k : Key} : ∀ {ds : List (Key × D)} {vs : List (Key × V)}, Rpk K F H ds vs → (ds.any fun kv => decide (kv.1 = k)) = (vs.any fun kv => decide (kv.1 = k))
  | _, _, .nil => rfl
  | _, _, .cons r t => by rw [List.any_cons, List.any_cons, Rpk.has t]
theorem Rpk.put {k : Key} {d : D} {v : V} {ds : List (Key × D)} {vs : List (Key × V)} (r : Rpk K F H ds vs) (h : Rp K F H d v) : Rpk K F H (putD ds k d) (putK vs k v) := by
  unfold putD putK
  rw [r.has]
  split
  · exact r.upd h
  · exact r.append (.cons h .nil)
theorem Rpk.merge : ∀ {es : List (Key × D)} {us : List (Key × V)} {ds : List (Key × D)} {vs : List (Key × V)}, Rpk K F H es us → Rpk K F H ds vs → Rpk K F H (mergeD ds es) (mergeK vs us)
  | _, _, _, _, .nil, r => r
  | _, _, _, _, .cons (k := k) h t, r => by
    have z := Rpk.merge t (r.put (k := k) h)
    exact z
end
def dctOf (μ : Mu) : D → Option (List (Key × D))
  | .dct kvs => some kvs
  | .ref a => match μ a with
    | some (.dct kvs) => some kvs
    | _ => none
  | _ => none
theorem dct_of {K : Kn} {Z : Zn K} {F : Addr → Prop} {H : Hp} {μ : Mu} {x : D} {v : V} {xs : List (Key × D)} (s : Sim Z F H μ) (r : Rp K F H x v) (h : dctOf μ x = some xs) : ∃ p vs, v = .ref p ∧ Rd H p (.dK vs) ∧ Rpk K F H xs vs := by
  cases r with
  | dct f e rs => cases h; exact ⟨_, _, rfl, e, rs⟩
  | ref a =>
    have h' : (match μ a with
      | some (.dct xs) => some xs
      | _ => none) = some xs := h
    split at h'
    · rename_i ys e2
      cases h'
      obtain ⟨_, vs, e3, rs⟩ := s.obj _ _ e2
      exact ⟨_, vs, rfl, .inl e3, rs⟩
    · cases h'
  | _ => cases h
section
variable {X : Cx} {Z : Zn X.kn} {e a b c o i v kx : Expr} {es : List Expr} {ta tb tc te to ti tv tk : TE3} {tr : TA3} {pos p apos cpos : Pos} {x : Str}
def vPairs : List (TE3 × TE3) → St3 → Mu → (List (D × D) → Mu → Prop) → Prop
  | [], _, μ, R => R [] μ
  | (tk, tv) :: r, δ, μ, R => tk δ μ fun x μ1 => tv δ μ1 fun y μ2 => vPairs r δ μ2 fun ps μ3 => R ((x, y) :: ps) μ3
def keysOf : List (D × D) → Option (List (Key × D))
  | [] => some []
  | (k, d) :: r => match keyOf k, keysOf r with
    | some k', some r' => some ((k', d) :: r')
    | _, _ => none
def vDisp (trs : List (TE3 × TE3)) : TE3 := fun δ μ R => vPairs trs δ μ fun ps μ1 => ∃ kvs, keysOf ps = some kvs ∧ kvs.length ≤ 15 ∧ R (.dct (mergeD [] kvs)) μ1
def lowPs {K : Kn} (Z : Zn K) : List (TE3 × TE3) → List (TE × TE)
  | [] => []
  | (a, b) :: r => (low Z a, low Z b) :: lowPs Z r
def Ps3 (X : Cx) (Z : Zn X.kn) (pos : Pos) (keys : List (Option Expr)) (values : List Expr) (trs : List (TE3 × TE3)) : Prop := PPs X pos keys values (lowPs Z trs)
theorem ps3_nil : Ps3 X Z pos [] [] [] := pps_nil
theorem ps3_cons {ks : List (Option Expr)} {vs : List Expr} {trs : List (TE3 × TE3)} (hk : E3 X Z kx tk) (hv : E3 X Z v tv) (hr : Ps3 X Z pos ks vs trs) : Ps3 X Z pos (some kx :: ks) (v :: vs) ((tk, tv) :: trs) := pps_cons hk hv hr
inductive Rpp (K : Kn) (F : Addr → Prop) (H : Hp) : List (D × D) → List (V × V) → Prop
  | nil : Rpp K F H [] []
  | cons {d e : D} {v u : V} {ds : List (D × D)} {vs : List (V × V)} : Rp K F H d v → Rp K F H e u → Rpp K F H ds vs → Rpp K F H ((d, e) :: ds) ((v, u) :: vs)
theorem Rpp.keys {K : Kn} {F : Addr → Prop} {H : Hp} : ∀ {ds : List (D × D)} {vs : List (V × V)} {kvs : List (Key × D)}, Rpp K F H ds vs → keysOf ds = some kvs → ∃ ks, vs = ks.map (fun kv => (kV kv.1, kv.2)) ∧ Rpk K F H kvs ks
  | _, _, _, .nil, h => by cases h; exact ⟨[], rfl, .nil⟩
  | _, _, kvs, .cons (d := d) (ds := ds) r q t, h => by
    unfold keysOf at h
    split at h
    · rename_i k' r' e1 e2
      cases h
      obtain ⟨ks, rfl, rk⟩ := Rpp.keys t e2
      obtain rfl := keyOf_ok r e1
      exact ⟨(k', _) :: ks, rfl, .cons q rk⟩
    · cases h
theorem low_pairs {K : Kn} {Z : Zn K} {σ : L2.St} : ∀ {trs : List (TE3 × TE3)} {F : Addr → Prop} {H : Hp} {δ : St3} {μ : Mu} {R : List (D × D) → Mu → Prop} {Q : List (V × V) → Hp → Prop}, Sim Z F H μ → Sl K F H σ δ → vPairs trs δ μ R →
    (∀ F' vs H' ds μ', Step Z F H μ F' H' μ' → Rpp K F' H' ds vs → R ds μ' → Q vs H') → tPairs (lowPs Z trs) σ H Q
  | [], F, H, δ, μ, R, Q, s, sl, h, k => k F [] H [] μ (Step.refl s) .nil h
  | (a, b) :: r, F, H, δ, μ, R, Q, s, sl, h, k => by
    refine ⟨F, δ, μ, _, s, sl, h, fun F1 v H1 d μ1 g1 r1 q1 => ⟨F1, δ, μ1, _, g1.sim, sl.st g1, q1, fun F2 u H2 d2 μ2 g2 r2 q2 => ?_⟩⟩
    refine low_pairs g2.sim (sl.st (g1.trans g2)) q2 fun F3 vs H3 ds μ3 g3 r3 q3 => ?_
    exact k F3 _ H3 _ μ3 ((g1.trans g2).trans g3) (.cons (r1.st (g2.trans g3)) (r2.st g3) r3) q3
end
end L3
namespace L3
open PySem PySem.Spec L2
theorem lc_mapOf {α : Type} {te : TE3} {δ : St3} {R : List D → Mu → Prop} {i : Nat} {μ : Mu} (e f : α → D) : ∀ (xs : List α) (acc : List D), (∀ x ∈ xs, ∀ R' : DK, R' (f x) μ → te (δ.set i (some (e x))) μ R') → acc.length + xs.length ≤ sizeLine → R (acc ++ xs.map f) μ →
    lcW (fun _ => True) (gN i) vYes te δ R (xs.map e) acc μ
  | [], acc, _, _, k => ⟨trivial, by simpa using k⟩
  | d :: ds, acc, h, hl, k => by
    rw [List.length_cons] at hl
    refine ⟨trivial, by omega, ?_⟩
    change (if true = true then te (δ.set i (some (e d))) μ (fun y μ2 => lcW (fun _ => True) (gN i) vYes te δ R (ds.map e) (acc ++ [y]) μ2) else lcW (fun _ => True) (gN i) vYes te δ R (ds.map e) acc μ)
    rw [if_pos rfl]
    refine h d List.mem_cons_self _ (lc_mapOf e f ds (acc ++ [f d]) (fun d' hd => h d' (List.mem_cons_of_mem _ hd)) (by simp; omega) ?_)
    simpa using k
theorem for_ind {Pm : Mu → Prop} {g : TG3} {tb : TS3} {Z : Ends3} (W : List D → St3 → Mu → Prop) (h0 : ∀ δ μ, W [] δ μ → Pm μ ∧ Z.nx δ μ)
    (hs : ∀ d ds δ μ, W (d :: ds) δ μ → Pm μ ∧ ∃ δ', g d δ = some δ' ∧ ∀ N : St3 → Mu → Prop, (∀ δ' μ', W ds δ' μ' → N δ' μ') → tb { Z with nx := N, ct := N, bk := Z.nx } δ' μ) : ∀ ds δ μ, W ds δ μ → forW Pm g tb Z ds δ μ
  | [], δ, μ, w => h0 δ μ w
  | d :: ds, δ, μ, w => by
    obtain ⟨hP, δ', e, h⟩ := hs d ds δ μ w
    refine ⟨hP, ?_⟩
    rw [e]
    exact h _ fun δ2 μ2 w2 => for_ind W h0 hs ds δ2 μ2 w2
theorem for_rg {tb : TS3} {Z : Ends3} {i : Nat} {lo : Int} {n : Nat} (W : Nat → St3 → Mu → Prop) {δ : St3} {μ : Mu} (w0 : W 0 δ μ) (h0 : ∀ δ μ, W n δ μ → Z.nx δ μ)
    (hs : ∀ k δ μ, k < n → W k δ μ → ∀ N : St3 → Mu → Prop, (∀ δ' μ', W (k + 1) δ' μ' → N δ' μ') → tb { Z with nx := N, ct := N, bk := Z.nx } (δ.set i (some (.int (lo + (k : Nat))))) μ) : forW (fun _ => True) (gN i) tb Z (rgD lo n) δ μ := by
  refine for_ind (W := fun ds δ μ => ∃ k, k ≤ n ∧ ds = (rgD lo n).drop k ∧ W k δ μ) ?_ ?_ _ _ _ ⟨0, Nat.zero_le _, rfl, w0⟩
  · rintro δ μ ⟨k, hk, e, w⟩
    have hl : (rgD lo n).length = n := by simp [rgD]
    have : k = n := by
      have := congrArg List.length e
      rw [List.length_drop, hl] at this
      simp at this
      omega
    subst this
    exact ⟨trivial, h0 δ μ w⟩
  · rintro d ds δ μ ⟨k, hk, e, w⟩
    have hl : (rgD lo n).length = n := by simp [rgD]
    have hlt : k < n := by
      have := congrArg List.length e
      rw [List.length_drop, hl] at this
      simp at this
      omega
    rw [List.drop_eq_getElem_cons (by rw [hl]; exact hlt)] at e
    obtain ⟨e1, e2⟩ := List.cons.inj e
    have ed : d = .int (lo + (k : Nat)) := by rw [e1]; simp [rgD]
    subst ed
    exact ⟨trivial, _, rfl, fun N hN => hs k δ μ hlt w N fun δ' μ' w' => hN δ' μ' ⟨k + 1, hlt, e2, w'⟩⟩
theorem lc_ind {g : TG3} {tt : TT3} {te : TE3} {δ : St3} {R : List D → Mu → Prop} {Pm : Mu → Prop} (W : List D → List D → Mu → Prop) (h0 : ∀ acc μ, W [] acc μ → Pm μ ∧ R acc μ)
    (hs : ∀ d ds acc μ, W (d :: ds) acc μ → Pm μ ∧ acc.length < sizeLine ∧ ∃ δ', g d δ = some δ' ∧ ∀ N : List D → Mu → Prop, (∀ acc' μ', W ds acc' μ' → N acc' μ') → tt δ' μ fun b μ1 => if b = true then te δ' μ1 fun y μ2 => N (acc ++ [y]) μ2 else N acc μ1) : ∀ ds acc μ, W ds acc μ → lcW Pm g tt te δ R ds acc μ
  | [], acc, μ, w => h0 acc μ w
  | d :: ds, acc, μ, w => by
    obtain ⟨hP, hl, δ', e, h⟩ := hs d ds acc μ w
    refine ⟨hP, hl, ?_⟩
    rw [e]
    exact h _ fun acc' μ' w' => lc_ind W h0 hs ds acc' μ' w'
theorem lc_rg {te : TE3} {δ : St3} {R : List D → Mu → Prop} {i : Nat} {lo : Int} {n : Nat} (hn : n < sizeLine) (W : Nat → List D → Mu → Prop) {μ : Mu} (w0 : W 0 [] μ) (hW : ∀ k acc μ, W k acc μ → acc.length = k) (h0 : ∀ acc μ, W n acc μ → R acc μ)
    (hs : ∀ k acc μ, k < n → W k acc μ → ∀ N : DK, (∀ y μ', W (k + 1) (acc ++ [y]) μ' → N y μ') → te (δ.set i (some (.int (lo + (k : Nat))))) μ N) : lcW (fun _ => True) (gN i) vYes te δ R (rgD lo n) [] μ := by
  have hl : (rgD lo n).length = n := by simp [rgD]
  refine lc_ind (W := fun ds acc μ => ∃ k, k ≤ n ∧ ds = (rgD lo n).drop k ∧ W k acc μ) ?_ ?_ _ _ _ ⟨0, Nat.zero_le _, rfl, w0⟩
  · rintro acc μ ⟨k, hk, e, w⟩
    have : k = n := by
      have := congrArg List.length e
      rw [List.length_drop, hl] at this
      simp at this
      omega
    subst this
    exact ⟨trivial, h0 acc μ w⟩
  · rintro d ds acc μ ⟨k, hk, e, w⟩
    have hlt : k < n := by
      have := congrArg List.length e
      rw [List.length_drop, hl] at this
      simp at this
      omega
    rw [List.drop_eq_getElem_cons (by rw [hl]; exact hlt)] at e
    obtain ⟨e1, e2⟩ := List.cons.inj e
    have ed : d = .int (lo + (k : Nat)) := by rw [e1]; simp [rgD]
    subst ed
    refine ⟨trivial, by rw [hW k acc μ w]; omega, _, rfl, fun N hN => ?_⟩
    change (if true = true then te (δ.set i (some (.int (lo + (k : Nat))))) μ (fun y μ2 => N (acc ++ [y]) μ2) else N acc μ)
    rw [if_pos rfl]
    exact hs k acc μ hlt w _ fun y μ' w' => hN _ _ ⟨k + 1, hlt, e2, w'⟩
theorem endsOf_rt {R : DK} : (endsOf R).rt = fun d μ => fin R d μ := rfl
theorem endsOf_nx {R : DK} : (endsOf R).nx = fun _ μ => fin R .non μ := rfl
theorem gAdd_ii {i j : Int} {μ : Mu} {R : DK} : gAdd (.int i) (.int j) μ R = R (.int (i + j)) μ := rfl
theorem gAdd_ss {i j : Str} {μ : Mu} {R : DK} : gAdd (.str i) (.str j) μ R = (i.length + j.length ≤ sizeLine ∧ R (.str (i ++ j)) μ) := rfl
theorem gAdd_ll {i j : List D} {μ : Mu} {R : DK} (hz : i.length + j.length ≤ sizeLine) (h : R (.lst (i ++ j)) μ) : gAdd (.lst i) (.lst j) μ R := ⟨i, j, rfl, rfl, hz, h⟩
theorem gNeg_i {i : Int} {μ : Mu} {R : DK} : gNeg (.int i) μ R = R (.int (-i)) μ := rfl
theorem gMax2_ii {i j : Int} {μ : Mu} {R : DK} : gMax2 [.int i, .int j] μ R = R (.int (max i j)) μ := rfl
theorem gMin2_ii {i j : Int} {μ : Mu} {R : DK} : gMin2 [.int i, .int j] μ R = R (.int (min i j)) μ := rfl
theorem gLen_s {z : Str} {μ : Mu} {R : DK} : gLen [.str z] μ R = (z.length ≤ sizeLine ∧ R (.int z.length) μ) := rfl
theorem gLen_of {x : D} {xs : List D} {μ : Mu} {R : DK} (e : seqOf μ x = some xs) (h : R (.int xs.length) μ) : gLen [x] μ R := by
  cases x with
  | str z => cases e
  | _ => exact ⟨xs, e, h⟩
theorem gEqS_ii {i j : Int} {μ : Mu} {R : DK} : gEqS (.int i) (.int j) μ R = R (.bl (decide (i = j))) μ := rfl
theorem gEqS_ss {i j : Str} {μ : Mu} {R : DK} : gEqS (.str i) (.str j) μ R = R (.bl (decide (i = j))) μ := rfl
theorem gEqS_bb {i j : Bool} {μ : Mu} {R : DK} : gEqS (.bl i) (.bl j) μ R = R (.bl (decide (i = j))) μ := rfl
theorem gNeS_ii {i j : Int} {μ : Mu} {R : DK} : gNeS (.int i) (.int j) μ R = R (.bl (!decide (i = j))) μ := rfl
theorem gNeS_ss {i j : Str} {μ : Mu} {R : DK} : gNeS (.str i) (.str j) μ R = R (.bl (!decide (i = j))) μ := rfl
theorem gIsN_n {x : D} {μ : Mu} {R : DK} : gIsN x .non μ R = R (.bl (isNonD x)) μ := rfl
theorem gNotN_n {x : D} {μ : Mu} {R : DK} : gNotN x .non μ R = R (.bl (!isNonD x)) μ := rfl
theorem gSl_s {z : Str} {lo hi : Option Int} {μ : Mu} {R : DK} : gSl (.str z) lo hi μ R = (z.length ≤ sizeLine ∧ R (.str (cutS z lo hi)) μ) := rfl
theorem rps_ints {K : Kn} {F : Addr → Prop} {H : Hp} : ∀ ns : List Int, Rps K F H (ns.map D.int) (ns.map V.int)
  | [] => .nil
  | n :: r => .cons (.int n) (rps_ints r)
theorem enter_scr {K : Kn} {H : Hp} {a : Addr} {ns : List Int} {sp : Sp3} (hS : SqL K H a (ns.map V.int)) (h : sp [.scr (ns.map D.int)] (fun _ => none) (fun d _ => d = .bl true)) : lift K 1 sp [.ref a] H (fun v _ => v = .bl true) fun _ _ _ => False := by
  refine ⟨fun x => x = a ∧ Rd H a (.lst (ns.map V.int)), [.scr (ns.map D.int)], fun _ => none, fun d _ => d = .bl true, rfl, ⟨⟨fun x f => ?_, fun x o e => (by cases e)⟩, trivial⟩, .cons (.scr ?_ (rps_ints ns)) .nil, h, fun F' v H' d μ' _ r e => ?_⟩
  · obtain ⟨rfl, f | ⟨o, f⟩⟩ := f
    · exact ⟨_, f⟩
    · exact ⟨_, f⟩
  · rcases hS with r | r
    · exact .inl ⟨⟨rfl, r⟩, r⟩
    · exact .inr r
  · subst e
    cases r
    rfl
theorem kb_NoneType_int : kitB "NoneType" "int" = some false := by decide +kernel
theorem kb_NoneType_str : kitB "NoneType" "str" = some false := by decide +kernel
theorem kb_bool_int : kitB "bool" "int" = some true := by decide +kernel
theorem kb_bool_bool : kitB "bool" "bool" = some true := by decide +kernel
theorem kb_bool_str : kitB "bool" "str" = some false := by decide +kernel
theorem kb_int_int : kitB "int" "int" = some true := by decide +kernel
theorem kb_int_bool : kitB "int" "bool" = some false := by decide +kernel
theorem kb_int_str : kitB "int" "str" = some false := by decide +kernel
theorem kb_str_int : kitB "str" "int" = some false := by decide +kernel
theorem kb_str_str : kitB "str" "str" = some true := by decide +kernel
theorem kb_tuple_int : kitB "tuple" "int" = some false := by decide +kernel
theorem kb_tuple_str : kitB "tuple" "str" = some false := by decide +kernel
theorem kb_tuple_list : kitB "tuple" "list" = some false := by decide +kernel
theorem kb_tuple_tuple : kitB "tuple" "tuple" = some true := by decide +kernel
theorem kb_list_int : kitB "list" "int" = some false := by decide +kernel
theorem kb_list_str : kitB "list" "str" = some false := by decide +kernel
theorem kb_list_list : kitB "list" "list" = some true := by decide +kernel
theorem kb_dict_int : kitB "dict" "int" = some false := by decide +kernel
theorem kb_dict_str : kitB "dict" "str" = some false := by decide +kernel
theorem kb_dict_dict : kitB "dict" "dict" = some true := by decide +kernel
end L3
namespace L3
open PySem PySem.Spec PyProof.Rows L2
structure RoomG (k : Nat) (A : Around) : Prop where
  rm : Room k A
  gd : A.guards = some []
theorem RoomG.mono {j k : Nat} {A : Around} (r : RoomG k A) (h : j ≤ k) : RoomG j A := ⟨r.rm.mono h, r.gd⟩
structure FnG (P : Program) (w : World) (K : PySem.W.Frag) (mg : Str → Option Value) (base : Heap) (X0 : CXT) (k : Nat) (f : Addr) (fd : FuncData) (ps : List Str) (sp : Sp) : Prop where
  wide : ∀ xs H Q E, sp xs H Q E → xs.length = ps.length
  go : ∀ (A : Around) (fs : List Env) (s : Shared) (H : Hp) (args : Args) (us : List Value) (xs : List V) (Q : VK) (E : XK), RoomG k A → Env0 P w K mg base A fs s H → BindsTo s fd args (ps.zip us) →
    Vals xs us → sp xs H Q E → codeAny (model P w) A (.call (.ref f) args) (CR X0 fs P w H s Q E) s
theorem FnG.mono {P : Program} {w : World} {K : PySem.W.Frag} {mg : Str → Option Value} {base : Heap} {X0 : CXT} {j k : Nat} {f : Addr} {fd : FuncData} {ps : List Str} {sp : Sp} (F : FnG P w K mg base X0 j f fd ps sp) (h : j ≤ k) : FnG P w K mg base X0 k f fd ps sp :=
  ⟨F.wide, fun A fs s H args us xs Q E r => F.go A fs s H args us xs Q E (r.mono h)⟩
theorem fng_of {X0 : CXT} {P : Program} {w : World} {K : PySem.W.Frag} {mg : Str → Option Value} {base : Heap} {k : Nat} {f : Addr} {nm qual : Str} {pr : Arguments} {bd : List Stmt} {sc : Scope} {d1 d2 d3 d4 cdv ct oc : Value} {an od : Option Addr}
    {osl : Array (Option Value)} {N ps : List Str} {sp : Sp} (lk : K.lookup f = some ⟨oc, od, .func (PySem.W.fnOf nm qual pr bd sc d1 d2 d3 d4 an cdv ct), osl⟩) (cd : PySem.W.codeIn K cdv qual = true) (S : FnScope N ps sc)
    (wide : ∀ xs H Q E, sp xs H Q E → xs.length = ps.length)
    (hb : ∀ (A : Around) (fs : List Env) (s : Shared) (H : Hp) (xs : List V) (Q : VK) (E : XK), RoomG k (A.deeper (envOfC qual sc s.heap.objs.size f cdv)) → sp xs H Q E →
      ∃ t, PSs (cxOf X0 P w K mg base N qual sc f cdv A fs s H E) bd t ∧ t { nx := fun _ H1 => Q .non H1, rt := Q } (start N xs) H) :
    FnG P w K mg base X0 (k + 1) f (PySem.W.fnOf nm qual pr bd sc d1 d2 d3 d4 an cdv ct) ps sp := by
  refine ⟨wide, fun A fs s H args us xs Q E room e0 hbind rv hsp => ?_⟩
  have kept : ∀ b o, base.get? b = some o → s.heap.get? b = some o := fun b o e => (e0.bs b o e).1
  have KX : K.In s.heap := e0.mod.kin.keeps kept
  have noLim : s.heap.NoLimit := e0.mod.nolimit.keeps kept
  refine codeAny_call_function room.rm.depth (KX _ _ lk) rfl S.co S.gen rfl (PySem.W.codeRec_of KX cd) (hbind _ _ _ _ ?_)
  refine wpAny_newFunctionEnv_cells S.kind (fun y hy => ?_) fun env he s1 x => ?_
  · rcases S.par y.1 (List.of_mem_zip (show (y.1, y.2) ∈ _ from hy)).1 with q | q
    · exact .inl q
    · exact .inr ⟨q, PySem.W.cellsFrom_some _ _ _ (.inl q)⟩
  subst he
  refine ⟨noLim.keeps x.toInCall.keep, codeAny_func ?_⟩
  obtain ⟨t, ht, hq⟩ := hb A fs s H xs Q E ⟨room.rm.deeper _, room.gd⟩ hsp
  have I0 := inv_start (CX := X0) (E := E) S room.rm.hd e0 (wide _ _ _ _ hsp) rv x
  refine wpAny_mono (ht.run [] s1 (start N xs) H _ I0 hq) (fun fl s2 hs => ?_) fun _ _ hs => hs
  cases fl with
  | ret u => obtain ⟨v, σ2, H2, J, r2, q⟩ := hs; exact ⟨v, H2, J.os, J.bare, J.base, J.hok, r2, q⟩
  | next => obtain ⟨σ2, H2, J, q⟩ := hs; exact ⟨.non, H2, J.os, J.bare, J.base, J.hok, rfl, q⟩
  | brk => obtain ⟨_, _, _, q⟩ := hs; exact False.elim q
  | cont => obtain ⟨_, _, _, q⟩ := hs; exact False.elim q
section
variable {X : Cx} {Z : Zn X.kn} {X0 : CXT} {k : Nat} {f C : Addr} {fd : FuncData} {ps : List Str} {sp : Sp} {E : XK}
theorem run_g {pins : List (Addr × Obj)} {σ : L2.St} {H : Hp} {s : Shared} {Q : VK} {us as : List Value} {kw : List (Str × Value)} {xs : List V} (F : FnG X.prog X.w X.K X.mg X.base X0 k f fd ps sp) (hr : RoomG k X.A) (hx : Passes X0 X E)
    (I : Inv X pins σ H s) (hb : BindsTo s fd ⟨as, kw⟩ (ps.zip us)) (rv : Vals xs us) (h : sp xs H Q E) : wpAny (model X.prog X.w) X.A (call (.ref f) as kw) (EP X pins σ Q) X.xe s := by
  refine wpAny_call (codeAny_mono (F.go X.A X.stack s H _ us xs Q E hr I.env0 hb rv h) fun res s2 hq => ?_)
  match res, hq with
  | .error er, hq => exact hx pins σ H s er s2 I hq
  | .ok (.ret u), hq => exact I.after hq
theorem run_gmake {pins : List (Addr × Obj)} {σ : L2.St} {H : Hp} {s : Shared} {Q : VK} {as : List Value} {kw : List (Str × Value)} (M : Mk X.K C f) (F : FnG X.prog X.w X.K X.mg X.base X0 k f fd ps sp) (hr : RoomG (k + 1) X.A) (hx : Passes X0 X E)
    (I : Inv X pins σ H s)
    (h : ∀ x dx, H x = none → H dx = none → dx ≠ x → ∃ us xs, (∀ s1 : Shared, X.K.In s1.heap → BindsTo s1 fd ⟨.ref x :: as, kw⟩ (ps.zip us)) ∧ Vals xs us ∧ sp xs (upd (upd H dx (.own x)) x (.ins C dx [])) (fun v H2 => v = .non ∧ Q (.ref x) H2) E) :
    wpAny (model X.prog X.w) X.A (call (.ref C) as kw) (EP X pins σ Q) X.xe s := by
  obtain ⟨us, xs, hb, rv, hq⟩ := h (s.heap.objs.size + 1) s.heap.objs.size (I.hok.fresh (Nat.le_succ _)) (I.hok.fresh (Nat.le_refl _)) (Nat.ne_of_lt (Nat.lt_succ_self _))
  have J := Inv.made (C := C) I
  have gd : (X.A.under (.builtin "type.__call__" ⟨.ref C :: as, kw⟩)).guards = some [] := by
    have : (X.A.under (.builtin "type.__call__" ⟨.ref C :: as, kw⟩)).guards = X.A.guards := by
      first | rfl | simp [Around.under, Code.guards, Code.isGuard, guardIds, pushGuards]
    rw [this]; exact hr.gd
  refine wpAny_call (make_map (f := f) I.kIn M.makes M.init (beq_iff_eq.mp M.fn) (codeAny_mono (F.go _ X.stack _ _ _ us xs _ E ⟨hr.rm.make C as kw, gd⟩ (J.env0.make C as kw) (hb _ J.kIn) rv hq) fun res s2 hq2 => ?_))
  match res, hq2 with
  | .error er, hq2 => exact hx pins σ _ _ er s2 J hq2
  | .ok (.ret u), hq2 =>
    obtain ⟨v, H2, J2, r2, e2, q2⟩ := J.after hq2
    subst e2
    exact ⟨r2, .ref (s.heap.objs.size + 1), H2, J2, rfl, q2⟩
end
end L3
namespace L3
open PySem PySem.Spec PyProof.Rows L2
structure BaseX (base : Heap) : Prop where
  nd : ∃ mc, base.Ns cStatics mc ∧ mc "sys.int_max_str_digits" = none
def scrH (K : PySem.W.Frag) (a : Addr) (us : List Value) (ns : List Int) : Hp := fun b => if b = a ∧ K.lookup a = none then some (.frz { cls := .type "list", data := .seq us.toArray } (.lst (ns.map V.int))) else none
theorem scrH_some {K : PySem.W.Frag} {a b : Addr} {us : List Value} {ns : List Int} {u : HO} (h : scrH K a us ns b = some u) : b = a ∧ K.lookup a = none ∧ u = .frz { cls := .type "list", data := .seq us.toArray } (.lst (ns.map V.int)) := by
  unfold scrH at h
  split at h
  · rename_i c
    cases h
    exact ⟨c.1, c.2, rfl⟩
  · cases h
theorem scrH_none {K : PySem.W.Frag} {a b : Addr} {us : List Value} {ns : List Int} (h : ¬ (b = a ∧ K.lookup a = none)) : scrH K a us ns b = none := if_neg h
section
variable {P : Program} {w : World} {K : PySem.W.Frag} {mg : Str → Option Value} {base : Heap}
structure Def3 (K : PySem.W.Frag) (x qual : Str) (st : Stmt) (dfl : List V) (kwd : List (Str × V)) (f : Addr) (fd : FuncData) : Prop where
  ex : ∃ (oc : Value) (od : Option Addr) (dV kV doc pm : Value) (an : Option Addr) (cdv ct : Value) (osl : Array (Option Value)),
    fd = PySem.W.fnOf x qual (defArgs st) (defBody st) (defScope st) dV kV doc pm an cdv ct ∧ K.lookup f = some ⟨oc, od, .func fd, osl⟩ ∧ PySem.W.codeIn K cdv qual = true ∧ DflV K dV dfl ∧ KwdV K kV kwd
  kp : PySem.W.keepIn K (.ref f) = true
theorem Def3.ok3 {x qual : Str} {st : Stmt} {dfl : List V} {kwd : List (Str × V)} {f : Addr} {fd : FuncData} {N ps : List Str} {k : Nat} {sp : Sp3} (F : Def3 K x qual st dfl kwd f fd) (S : FnScope N ps (defScope st))
    (hb : ∀ (cdv : Value) (A : Around) (fs : List Env) (s : Shared) (H : Hp) (E : XK), RoomG k (A.deeper (envOfC qual (defScope st) s.heap.objs.size f cdv)) →
      ∃ t, Ss3 (cxOf CX0 P w K mg base N qual (defScope st) f cdv A fs s H E).nox (Zn.top _) (defBody st) t ∧ ∀ ds μ R, ds.length = ps.length → sp ds μ R → t (endsOf R) (start3 N ds) μ) : FnG P w K mg base CX0 (k + 1) f fd ps (lift ⟨K, P, w⟩ ps.length sp) := by
  obtain ⟨oc, od, dV, kV, doc, pm, an, cdv, ct, osl, rfl, lk, cd, _⟩ := F.ex
  refine fng_of lk cd S (fun _ _ _ _ h => lift_len h) fun A fs s H xs Q E hr h => ?_
  obtain ⟨F', ds, μ, R, l, sm, r, hsp, kk⟩ := h
  obtain ⟨t, h1, h2⟩ := hb cdv A fs s H E hr
  exact ⟨_, PSs.nox h1, F', _, μ, _, sm, Sl.start r, h2 ds μ R l hsp, fin_ends kk⟩
inductive Src where
  | pos (i : Nat) | kw (i : Nat) | dfl (i : Nat)
def pick {α : Type} (z : α) (us ws ds : List α) : Src → α
  | .pos i => us.getD i z
  | .kw i => ws.getD i z
  | .dfl i => ds.getD i z
def picks {α : Type} (z : α) (os : List Src) (us ws ds : List α) : List α := os.map (pick z us ws ds)
structure Bd3 (K : PySem.W.Frag) (fd : FuncData) (ps : List Str) (n : Nat) (ks : List Str) (os : List Src) (dfl : List V) : Prop where
  len : os.length = ps.length
  to : ∃ ds : List Value, Vals dfl ds ∧ ∀ (s : Shared) (us ws : List Value), K.In s.heap → us.length = n → ws.length = ks.length → BindsTo s fd ⟨us, ks.zip ws⟩ (ps.zip (picks .none os us ws ds))
variable {x qual : Str} {st : Stmt} {f : Addr} {fd : FuncData} {ps : List Str} {dfl : List V} {kwd : List (Str × V)}
theorem Def3.bind0 (F : Def3 K x qual st [] kwd f fd) (n : Nat) (ks : List Str) (os : List Src) (hl : os.length = ps.length)
    (h : ∀ (kV doc pm : Value) (an : Option Addr) (cdv ct : Value) (us ws : List Value), us.length = n → ws.length = ks.length → bindArgs (PySem.W.fnOf x qual (defArgs st) (defBody st) (defScope st) .none kV doc pm an cdv ct) ⟨us, ks.zip ws⟩ = pure (ps.zip (picks .none os us ws []))) :
    Bd3 K fd ps n ks os [] := by
  obtain ⟨oc, od, dV, kV, doc, pm, an, cdv, ct, osl, rfl, lk, cd, hD, hK⟩ := F.ex
  rcases hD with ⟨_, rfl⟩ | ⟨e, _⟩
  · exact ⟨hl, [], .nil, fun s us ws X l1 l2 => .of_eq (h kV doc pm an cdv ct us ws l1 l2)⟩
  · exact absurd rfl e
theorem Def3.bindD (F : Def3 K x qual st dfl kwd f fd) (hd : dfl ≠ []) (n : Nat) (ks : List Str) (os : List Src) (hl : os.length = ps.length)
    (h : ∀ (T : Addr) (kV doc pm : Value) (an : Option Addr) (cdv ct : Value) (us ws ds : List Value), us.length = n → ws.length = ks.length → ds.length = dfl.length →
      ∃ k, bindArgs (PySem.W.fnOf x qual (defArgs st) (defBody st) (defScope st) (.ref T) kV doc pm an cdv ct) ⟨us, ks.zip ws⟩ = seqItems? (.ref T) >>= k ∧ k (some ds.toArray) = pure (ps.zip (picks .none os us ws ds))) :
    Bd3 K fd ps n ks os dfl := by
  obtain ⟨oc, od, dV, kV, doc, pm, an, cdv, ct, osl, rfl, lk, cd, hD, hK⟩ := F.ex
  rcases hD with ⟨e, _⟩ | ⟨_, T, o, its, m, rfl, lT, oT, rT⟩
  · exact absurd e hd
  · refine ⟨hl, its, rT, fun s us ws X l1 l2 => ?_⟩
    obtain ⟨kk, e1, e2⟩ := h T kV doc pm an cdv ct us ws its l1 l2 rT.length.symm
    refine BindsTo.of_looks fun M => ?_
    rw [e1]
    exact looks_items X lT oT (.of_pure e2)
end
section
variable {K : Kn} {F : Addr → Prop} {H : Hp}
theorem vals_getD {vs : List V} {us : List Value} (r : Vals vs us) (i : Nat) : RelV (vs.getD i .non) (us.getD i .none) := by
  rw [List.getD_eq_getElem?_getD, List.getD_eq_getElem?_getD]
  cases e : vs[i]? with
  | some v =>
    obtain ⟨u, e1, r1⟩ := r.get e
    rw [e1]
    exact r1
  | none =>
    have : us[i]? = none := by
      rw [List.getElem?_eq_none_iff] at e ⊢
      rw [← r.length]
      exact e
    rw [this]
    rfl
theorem vals_picks {vs zs dv : List V} {us ws ds : List Value} (r1 : Vals vs us) (r2 : Vals zs ws) (r3 : Vals dv ds) : ∀ os : List Src, Vals (picks .non os vs zs dv) (picks .none os us ws ds)
  | [] => .nil
  | o :: os => by
    refine .cons ?_ (vals_picks r1 r2 r3 os)
    cases o with
    | pos i => exact vals_getD r1 i
    | kw i => exact vals_getD r2 i
    | dfl i => exact vals_getD r3 i
theorem rps_getD {ds : List D} {vs : List V} (r : Rps K F H ds vs) (i : Nat) : Rp K F H (ds.getD i .non) (vs.getD i .non) := by
  rw [List.getD_eq_getElem?_getD, List.getD_eq_getElem?_getD]
  cases e : ds[i]? with
  | some d =>
    obtain ⟨v, e1, r1⟩ := r.get e
    rw [e1]
    exact r1
  | none =>
    have : vs[i]? = none := by
      rw [List.getElem?_eq_none_iff] at e ⊢
      rw [← r.length]
      exact e
    rw [this]
    exact .non
theorem rps_picks {ds zs fs : List D} {vs us ws : List V} (r1 : Rps K F H ds vs) (r2 : Rps K F H zs us) (r3 : Rps K F H fs ws) : ∀ os : List Src, Rps K F H (picks .non os ds zs fs) (picks .non os vs us ws)
  | [] => .nil
  | o :: os => by
    refine .cons ?_ (rps_picks r1 r2 r3 os)
    cases o with
    | pos i => exact rps_getD r1 i
    | kw i => exact rps_getD r2 i
    | dfl i => exact rps_getD r3 i
end
def flV (K : PySem.W.Frag) : D → V
  | .etp p i => .ref (He.dflAt p i K)
  | .bl b => .bl b
  | .int i => .int i
  | .str x => .str x
  | _ => .non
def dflD (K : PySem.W.Frag) (d : D) : Bool := flatD d || match d with
  | .etp p i => etpB K (He.dflAt p i K)
  | _ => false
theorem flV_ok {K : Kn} {F : Addr → Prop} {H : Hp} : ∀ {ds : List D}, ds.all (dflD K.K) = true → Rps K F H ds (ds.map (flV K.K))
  | [], _ => .nil
  | d :: ds, h => by
    rw [List.all_cons, Bool.and_eq_true] at h
    refine .cons ?_ (flV_ok h.2)
    cases d <;> first | exact .non | exact .bl _ | exact .int _ | exact .str _ | exact .etp _ _ (etpB_ok h.1) | cases h.1
end L3
namespace L3
open PySem PySem.Spec PyProof.Rows L2
def ShowOk (p : PyData) : Prop := p.showable = true ∧ p.hasDict = false ∧ p.depth ≤ 100 ∧ p.shown.length ≤ sizeLine
theorem call_repr {X : Cx} {k : Nat} (hr : RoomG k X.A) : CallR X (.builtin "repr") (fun xs H Q => ∃ v p, xs = [v] ∧ Dp X.K H v p ∧ ShowOk p ∧ Q (.str p.shown) H) := by
  intro pins s σ H xs us Q I rs h
  obtain ⟨v, p, rfl, rd, ⟨h1, h2, h3, h4⟩, q⟩ := h
  cases rs with
  | cons r rs =>
    cases rs
    rename_i u
    obtain ⟨as, rds⟩ := Dp.reads I p v u rd r
    have hu := hr.rm.un
    have fin : ∀ h' t tk, (∀ b o, s.heap.get? b = some o → h'.get? b = some o) → EP X pins σ Q (.str p.shown t) { s with heap := h', toks := tk } := fun h' t tk kp => ⟨.str p.shown, H, I.kept kp, ⟨_, rfl⟩, q⟩
    cases rds with
    | none => exact P.repr_of_none ⟨.str PyData.none.shown, H, I.tok _, ⟨_, rfl⟩, q⟩
    | bool b => exact P.repr_of_bool ⟨.str (PyData.bool b).shown, H, I.tok _, ⟨_, by cases b <;> rfl⟩, q⟩
    | int i t => exact P.repr_of_int (by simpa [PyData.showable] using h1) ⟨.str (PyData.int i).shown, H, I.tok _, ⟨s.toks, by simp [PyData.shown]⟩, q⟩
    | str x t => exact P.repr_of_str ⟨.str (PyData.str x).shown, H, I.tok _, ⟨s.toks, by simp [PyData.shown]⟩, q⟩ (by simpa [PyData.shown] using h4)
    | list e1 e2 e3 e4 => exact repr_of_reads' (.list e1 e2 e3 e4) h1 (fun z => by rw [h2] at z; cases z) hr.gd (by omega) (fun _ _ e => e) fin h4
    | tuple e1 e2 e3 e4 => exact repr_of_reads' (.tuple e1 e2 e3 e4) h1 (fun z => by rw [h2] at z; cases z) hr.gd (by omega) (fun _ _ e => e) fin h4
    | dict e1 e2 e3 e4 e5 => cases h2
mutual
inductive Sh (μ : Mu) : D → PyData → Prop
  | non : Sh μ .non .none
  | bl (b : Bool) : Sh μ (.bl b) (.bool b)
  | int (i : Int) : Sh μ (.int i) (.int i)
  | str (x : Str) : Sh μ (.str x) (.str x)
  | lst {xs : List D} {ps : List PyData} : Shs μ xs ps → Sh μ (.lst xs) (.list ps)
  | scr {xs : List D} {ps : List PyData} : Shs μ xs ps → Sh μ (.scr xs) (.list ps)
  | tup {xs : List D} {ps : List PyData} : Shs μ xs ps → Sh μ (.tup xs) (.tuple ps)
  | ref {a : Addr} {xs : List D} {ps : List PyData} : μ a = some (.lst xs) → Shs μ xs ps → Sh μ (.ref a) (.list ps)
inductive Shs (μ : Mu) : List D → List PyData → Prop
  | nil : Shs μ [] []
  | cons {x : D} {xs : List D} {p : PyData} {ps : List PyData} : Sh μ x p → Shs μ xs ps → Shs μ (x :: xs) (p :: ps)
end
mutual
theorem Sh.dp {K : Kn} {Z : Zn K} {F : Addr → Prop} {H : Hp} {μ : Mu} (s : Sim Z F H μ) {d : D} {p : PyData} {v : V} : Sh μ d p → Rp K F H d v → Dp K H v p
  | .non, r => by cases r; exact .non
  | .bl b, r => by cases r; exact .bl b
  | .int i, r => by cases r; exact .int i
  | .str x, r => by cases r; exact .str x
  | .lst h, r => by
    cases r with
    | lst f e rs => exact .lst (SqL.of e) (Shs.dp s h rs)
  | .scr h, r => by
    cases r with
    | scr f rs => exact .lst f.sq (Shs.dp s h rs)
  | .tup h, r => by
    cases r with
    | tup f e rs => exact .tup (SqT.of e) (Shs.dp s h rs)
  | .ref e h, r => by
    cases r
    obtain ⟨_, vs, e3, rs⟩ := s.obj _ _ e
    exact .lst (SqL.of e3) (Shs.dp s h rs)
theorem Shs.dp {K : Kn} {Z : Zn K} {F : Addr → Prop} {H : Hp} {μ : Mu} (s : Sim Z F H μ) {ds : List D} {ps : List PyData} : ∀ {vs : List V}, Shs μ ds ps → Rps K F H ds vs → DpAll K H vs ps
  | _, .nil, r => by cases r; exact .nil
  | _, .cons h t, r => by
    cases r with
    | cons r1 rs => exact .cons (Sh.dp s h r1) (Shs.dp s t rs)
end
def gRepr : GA := fun ds μ R => ∃ d p, ds = [d] ∧ Sh μ d p ∧ ShowOk p ∧ R (.str p.shown) μ
theorem c_repr {X : Cx} {Z : Zn X.kn} {k : Nat} (hr : RoomG k X.A) : CallL X Z (.builtin "repr") gRepr := ⟨_, call_repr hr, fun F H μ ds vs R Q s rs q kk => by
  obtain ⟨d, p, rfl, sh, ok, q⟩ := q
  obtain ⟨v, rfl, r⟩ := one_of rs
  exact ⟨v, p, rfl, sh.dp s r, ok, kk F _ H _ μ (Step.refl s) (.str _) q⟩⟩
section
variable {X : Cx} {Z : Zn X.kn}
def gNeD : G2 := fun x y μ R => ∃ d e, Sh μ x d ∧ Sh μ y e ∧ SeqAt.shaped d = true ∧ SeqAt.shaped e = true ∧ R (.bl (!PyData.eqv d e)) μ
theorem o_neD {k : Nat} (hr : RoomG k X.A) : OpL X Z (compareOp .NotEq) gNeD := ⟨_, op_neD (by have := hr.rm.un; omega), fun F H μ x y vx vy R Q s rx ry q kk => by
  obtain ⟨d, e, h1, h2, h3, h4, q⟩ := q
  exact ⟨d, e, h1.dp s rx, h2.dp s ry, h3, h4, kk F _ H _ μ (Step.refl s) (.bl _) q⟩⟩
end
end L3
namespace L3
open PySem PySem.Spec PyProof.Rows L2
section
variable {X : Cx} {Z : Zn X.kn}
theorem CallR.or {f : Value} {r r' : List V → Hp → VK → Prop} (h : CallR X f r) (h' : CallR X f r') : CallR X f (fun xs H Q => r xs H Q ∨ r' xs H Q) := fun pins s σ H xs us Q I rs q => q.elim (h pins s σ H xs us Q I rs) (h' pins s σ H xs us Q I rs)
theorem rps_strs {K : Kn} {F : Addr → Prop} {H : Hp} : ∀ ys : List Str, Rps K F H (ys.map D.str) (ys.map V.str)
  | [] => .nil
  | y :: r => .cons (.str y) (rps_strs r)
end
end L3
namespace L3
open PySem PySem.Spec PyProof.Rows L2
def allPos (n : Nat) : List Src := (List.range n).map Src.pos
theorem picks_all {α : Type} {z : α} {us ws ds : List α} {n : Nat} (h : us.length = n) : picks z (allPos n) us ws ds = us := by
  subst h
  unfold picks allPos
  rw [List.map_map]
  apply List.ext_getElem?
  intro i
  rw [List.getElem?_map]
  by_cases hi : i < us.length
  · rw [List.getElem?_range hi]
    show some (us.getD i z) = us[i]?
    rw [List.getD_eq_getElem?_getD, List.getElem?_eq_getElem hi]
    rfl
  · rw [List.getElem?_eq_none_iff.mpr (by simpa using hi), List.getElem?_eq_none_iff.mpr (by simpa using hi)]
    rfl
theorem Def3.bindA {K : PySem.W.Frag} {x qual : Str} {st : Stmt} {f : Addr} {fd : FuncData} {ps : List Str} {kwd : List (Str × V)} (F : Def3 K x qual st [] kwd f fd) (n : Nat) (hl : ps.length = n)
    (h : ∀ (kV doc pm : Value) (an : Option Addr) (cdv ct : Value) (us : List Value), us.length = n → bindArgs (PySem.W.fnOf x qual (defArgs st) (defBody st) (defScope st) .none kV doc pm an cdv ct) ⟨us, []⟩ = pure (ps.zip us)) : Bd3 K fd ps n [] (allPos n) [] :=
  F.bind0 n [] (allPos n) (by simp [allPos, hl]) fun kV doc pm an cdv ct us ws h1 h2 => by
    rw [picks_all h1]
    exact h kV doc pm an cdv ct us h1
end L3
namespace L3
open PySem PySem.Spec PyProof.Rows L2
structure Lft (X : Cx) (Z : Zn X.kn) (X0 : CXT) (n : Nat) (sp : Sp3) (lsp : Sp) (E : XK) : Prop where
  pass : Passes X0 X E
  go : ∀ F H μ ds vs (R : DK) (Q : VK), ds.length = n → Sim Z F H μ → Rps X.kn F H ds vs → sp ds μ R → (∀ F' v H' d μ', Step Z F H μ F' H' μ' → Rp X.kn F' H' d v → R d μ' → Q v H') → lsp vs H Q E
theorem lf0 {X : Cx} {Z : Zn X.kn} {n : Nat} {sp : Sp3} : Lft X Z CX0 n sp (lift X.kn n sp) E0 :=
  ⟨pass0, fun F H μ ds vs R Q l s r h k => ⟨F, ds, μ, R, l, s.up, r, h, fun F' v H' d μ' g => k F' v H' d μ' (g.on s)⟩⟩
def K3 (X : Cx) (Z : Zn X.kn) (kws : List Keyword) (t : TA3) : Prop := PK X kws (lowA Z t)
theorem _root_.L2.PK.imp {X : Cx} {e : List Keyword} {t t' : TA} (h : PK X e t) (i : ∀ σ H Q, t' σ H Q → t σ H Q) : PK X e t' := ⟨fun p pins s σ H Q I q => h.run p pins s σ H Q I (i _ _ _ q)⟩
structure Cal3 (P : Program) (w : World) (K : PySem.W.Frag) (mg : Str → Option Value) (base : Heap) (X0 : CXT) (k : Nat) (x : Str) (n : Nat) (ks : List Str) (os : List Src) (dfl : List D) (np : Nat) (lsp : Sp) : Prop where
  ex : ∃ (f : Addr) (fd : FuncData) (ps : List Str), mg x = some (.ref f) ∧ PySem.W.keepIn K (.ref f) = true ∧ Bd3 K fd ps n ks os (dfl.map (flV K)) ∧ FnG P w K mg base X0 k f fd ps lsp
  fl : dfl.all (dflD K) = true
  np : os.length = np
def vCal (n m : Nat) (os : List Src) (dfl : List D) (sp : Sp3) (tr tk : TA3) : TE3 := fun δ μ R => tr δ μ fun ds μ1 => tk δ μ1 fun zs μ2 => ds.length = n ∧ zs.length = m ∧ sp (picks .non os ds zs dfl) μ2 R
def Got {K : Kn} (Z : Zn K) (F : Addr → Prop) (H : Hp) (μ : Mu) (R : List D → Mu → Prop) (vs : List V) (H1 : Hp) : Prop := ∃ F1 ds μ1, Step Z F H μ F1 H1 μ1 ∧ Rps K F1 H1 ds vs ∧ R ds μ1
theorem got {K : Kn} {Z : Zn K} {F : Addr → Prop} {H : Hp} {μ : Mu} {R : List D → Mu → Prop} {σ : L2.St} {δ : St3} {t : TA3} (sm : Sim Z F H μ) (sl : Sl K F H σ δ) (h : t δ μ R) : lowA Z t σ H (Got Z F H μ R) :=
  ⟨F, δ, μ, R, sm, sl, h, fun F1 vs H1 ds μ1 g r1 q1 => ⟨F1, ds, μ1, g, r1, q1⟩⟩
section
variable {X : Cx} {Z : Zn X.kn} {X0 : CXT} {e o : Expr} {es : List Expr} {kws : List Keyword} {tr tk : TA3} {te to : TE3} {x : Str} {p pos : Pos} {k n np : Nat} {ks : List Str} {os : List Src} {dfl : List D} {sp : Sp3} {lsp : Sp} {E : XK} {j : Nat}
theorem k_nil : K3 X Z [] vNil := pk_nil.imp fun σ H Q h => by
  obtain ⟨F, δ, μ, R, s, sl, h, kk⟩ := h
  exact kk F [] H [] μ (Step.refl s) .nil h
theorem k_cons {nm : Option Str} {kpos : Pos} (ha : E3 X Z e te) (hr : K3 X Z kws tk) : K3 X Z (⟨nm, e, kpos⟩ :: kws) (vCons te tk) := (pk_cons ha hr).imp fun _ _ _ h => low_cons h
theorem run_cal {pins : List (Addr × Obj)} {σ : L2.St} {H : Hp} {s : Shared} {Q : VK} {us ws : List Value} {f : Addr} {fd : FuncData} {ps : List Str} {vs zs : List V} {F : Addr → Prop} {μ : Mu} {ds es : List D} {R : DK} (L : Lft X Z X0 np sp lsp E)
    (hb : Bd3 X.K fd ps n ks os (dfl.map (flV X.K))) (fl : dfl.all (dflD X.K) = true) (hnp : os.length = np) (G : FnG X.prog X.w X.K X.mg X.base X0 k f fd ps lsp) (hr : RoomG k X.A) (I : Inv X pins σ H s) (r1 : Vals vs us) (r2 : Vals zs ws)
    (sm : Sim Z F H μ) (q1 : Rps X.kn F H ds vs) (q2 : Rps X.kn F H es zs) (l1 : ds.length = n) (l2 : es.length = ks.length) (hsp : sp (picks .non os ds es dfl) μ R)
    (kk : ∀ F' v H' d μ', Step Z F H μ F' H' μ' → Rp X.kn F' H' d v → R d μ' → Q v H') : wpAny (model X.prog X.w) X.A (call (.ref f) us (ks.zip ws)) (EP X pins σ Q) X.xe s := by
  obtain ⟨hl, dv, rd, hb⟩ := hb
  refine run_g G hr L.pass I (hb s us ws I.kIn (by rw [← r1.length, ← q1.length, l1]) (by rw [← r2.length, ← q2.length, l2])) (vals_picks r1 r2 rd os) ?_
  exact L.go F H μ _ _ R Q (by rw [← hnp]; exact List.length_map _) sm (rps_picks q1 q2 (flV_ok fl) os) hsp kk
theorem e_calP (L : Lft X Z X0 np sp lsp E) (c : Cal3 X.prog X.w X.K X.mg X.base X0 k x n [] os dfl np lsp) (hr : RoomG j X.A) (ha : A3 X Z (e :: es) tr) (hk : k ≤ j := by decide) (hg : Gl X x := by rfl) (hd : (x == ("__debug__" : Str)) = false := by decide)
    (he : starEach (e :: es) X.env = (false, eval e X.env) :: starEach es X.env := by rfl) (hpl : (backTo pos (starEach es X.env)).any (·.1) = false := by rfl) : E3 X Z (.Call (.Name x p) (e :: es) [] pos) (vCal n 0 os dfl sp tr vNil) := by
  obtain ⟨f, fd, ps, hm, kp, hb, G⟩ := c.ex
  refine ⟨fun pins s σ H Q I h => ?_⟩
  refine wpAny_Call_Name_kw (ld_glob I hg hm ?_ hd)
  obtain ⟨F, δ, μ, R, sm, sl, h, kk⟩ := h
  refine PySem.W.callWith_K (h₀ := X.base) I.ok.mod.kin kp (thn (ha.run pos pins s σ H _ I (got sm sl h))
    fun us s1 ⟨vs, H1, I1, r, F1, ds, μ1, g, r1, q1⟩ => ⟨I1.kIn, ?_⟩) he hpl
  exact run_cal (us := us) (ws := []) (ks := []) L hb c.fl c.np G (hr.mono hk) I1 r .nil g.sim r1 .nil q1.1 rfl q1.2.2 fun F2 v H2 d μ2 g2 r2 q2 => kk F2 v H2 d μ2 (g.trans g2) r2 q2
theorem vCal_all {n : Nat} {sp : Sp3} {tr : TA3} : vCal n 0 (allPos n) [] sp tr vNil = vCall n sp tr := by
  funext δ μ R
  unfold vCall vCal vNil
  congr 1
  funext ds μ1
  apply propext
  constructor
  · intro ⟨h1, _, h2⟩; rw [picks_all h1] at h2; exact ⟨h1, h2⟩
  · intro ⟨h1, h2⟩; exact ⟨h1, rfl, by rw [picks_all h1]; exact h2⟩
theorem e_cal (L : Lft X Z X0 n sp lsp E) (c : Cal3 X.prog X.w X.K X.mg X.base X0 k x n [] (allPos n) [] n lsp) (hr : RoomG j X.A) (ha : A3 X Z (e :: es) tr) (hk : k ≤ j := by decide) (hg : Gl X x := by rfl) (hd : (x == ("__debug__" : Str)) = false := by decide)
    (he : starEach (e :: es) X.env = (false, eval e X.env) :: starEach es X.env := by rfl) (hpl : (backTo pos (starEach es X.env)).any (·.1) = false := by rfl) : E3 X Z (.Call (.Name x p) (e :: es) [] pos) (vCall n sp tr) := by
  have h : E3 X Z (.Call (.Name x p) (e :: es) [] pos) (vCal n 0 (allPos n) [] sp tr vNil) := e_calP L c hr ha hk hg hd he hpl
  rw [vCal_all] at h
  exact h
end
end L3
namespace L3
open PySem PySem.Spec PyProof.Rows L2
def insOf (μ : Mu) (n : Str) : D → Option (List (Str × D))
  | .obj m fs => if m = n then some fs else none
  | .ref a => match μ a with
    | some (.ins m fs) => if m = n then some fs else none
    | _ => none
  | _ => none
theorem ins_of {K : Kn} {F : Addr → Prop} {H : Hp} {μ : Mu} {x : D} {v : V} {n : Str} {fs : List (Str × D)} (s : Sim0 K F H μ) (r : Rp K F H x v) (h : insOf μ n x = some fs) : ∃ C a dx gs, v = .ref a ∧ clsA K n C ∧ H a = some (.ins C dx gs) ∧ Rpf K F H fs gs := by
  cases r with
  | @obj n' C' fs' gs' a' dx' c f e rs =>
    have h' : (if n' = n then some fs' else none) = some fs := h
    split at h'
    · rename_i z
      cases h'
      subst z
      exact ⟨_, _, _, _, rfl, c, e, rs⟩
    · cases h'
  | ref a =>
    have h' : (match μ a with
      | some (.ins m fs) => if m = n then some fs else none
      | _ => none) = some fs := h
    split at h'
    · rename_i m gs e2
      split at h'
      · rename_i z
        cases h'
        subst z
        obtain ⟨_, C, dx, vs, c, e3, rs⟩ := s.obj _ _ e2
        exact ⟨C, _, dx, vs, rfl, c, e3, rs⟩
      · cases h'
    · cases h'
  | _ => cases h
section
variable {K : Kn} {F : Addr → Prop} {H : Hp}
theorem Rpf.length : ∀ {ds : List (Str × D)} {vs : List (Str × V)}, Rpf K F H ds vs → ds.length = vs.length
  | _, _, .nil => rfl
  | _, _, .cons _ t => by rw [List.length_cons, List.length_cons, Rpf.length t]
theorem Rpf.val {k : Str} : ∀ {ds : List (Str × D)} {vs : List (Str × V)}, Rpf K F H ds vs → (∀ d, ds.lookup k = some d → ∃ v, vs.lookup k = some v ∧ Rp K F H d v) ∧ (ds.lookup k = none → vs.lookup k = none)
  | _, _, .nil => ⟨fun d h => (by cases h), fun _ => rfl⟩
  | _, _, .cons (f := k') (d := d') (v := v') (ds := ds') (vs := vs') r t => by
    have ih := Rpf.val (k := k) t
    cases hb : (k == k') with
    | true =>
      have e1 : List.lookup k ((k', d') :: ds') = some d' := by simp only [List.lookup, hb]
      have e2 : List.lookup k ((k', v') :: vs') = some v' := by simp only [List.lookup, hb]
      rw [e1, e2]
      exact ⟨fun d h => (by cases h; exact ⟨v', rfl, r⟩), fun h => (by cases h)⟩
    | false =>
      have e1 : List.lookup k ((k', d') :: ds') = List.lookup k ds' := by simp only [List.lookup, hb]
      have e2 : List.lookup k ((k', v') :: vs') = List.lookup k vs' := by simp only [List.lookup, hb]
      rw [e1, e2]
      exact ih
def putFD (f : Str) (v : D) : List (Str × D) → List (Str × D)
  | [] => [(f, v)]
  | (g, x) :: r => if g = f then (g, v) :: r else (g, x) :: putFD f v r
theorem Rpf.put {f : Str} {d : D} {v : V} (h : Rp K F H d v) : ∀ {ds : List (Str × D)} {vs : List (Str × V)}, Rpf K F H ds vs → Rpf K F H (putFD f d ds) (putF f v vs)
  | _, _, .nil => .cons h .nil
  | _, _, .cons (f := g) r t => by
    show Rpf K F H (if g = f then _ else _) (if g = f then _ else _)
    by_cases e : g = f
    · rw [if_pos e, if_pos e]; exact .cons h t
    · rw [if_neg e, if_neg e]; exact .cons r (Rpf.put h t)
end
structure ClsK (K : PySem.W.Frag) (n : Str) (C : Addr) : Prop where
  at_ : PySem.W.nsIn K mainGlobals n = some (some (.ref C))
  cl : Cls K C
  kp : PySem.W.keepIn K (.ref C) = true
  ty : ((PySem.W.clsIn K C).isSome && PySem.W.typeIn K (.ref C) == some (.type "type")) = true
  ca : PySem.W.findIn K (.ref C) "__class__" = some (some (.builtin "object.__class__"))
  cg : PySem.W.specialIn K (.builtin "object.__class__") "__get__" = some (some (.builtin "getset_descriptor.__get__"))
  ct : PySem.W.takesIn K (.builtin "object.__class__") = some true
  cm : PySem.W.mroIn K C (.type "object") = some true
structure Cl3 (K : PySem.W.Frag) (mg : Str → Option Value) (n : Str) : Prop where
  ex : ∃ C, ClsK K n C ∧ mg n = some (.ref C)
structure Fl3 (K : PySem.W.Frag) (n f : Str) : Prop where
  ex : ∃ C, PySem.W.nsIn K mainGlobals n = some (some (.ref C)) ∧ Cls K C ∧ NoAttr K C f
theorem Fl3.of {K : Kn} {n f : Str} {C : Addr} (h : Fl3 K.K n f) (c : clsA K n C) : Cls K.K C ∧ NoAttr K.K C f := by
  obtain ⟨C', e, a, b⟩ := h.ex
  obtain rfl := clsA.inj (K := K) (show clsA K n C' from e) c
  exact ⟨a, b⟩
section
variable {X : Cx} {Z : Zn X.kn} {X0 : CXT} {e o : Expr} {es : List Expr} {kws : List Keyword} {tr tk : TA3} {te to : TE3} {x : Str} {p pos apos : Pos} {k np : Nat} {ks : List Str} {os : List Src} {dfl : List D} {sp : Sp3} {lsp : Sp} {E : XK} {j : Nat} {n f m : Str}
def vFld (n f : Str) (te : TE3) : TE3 := fun δ μ R => te δ μ fun x μ1 => ∃ fs d, insOf μ1 n x = some fs ∧ fs.lookup f = some d ∧ R d μ1
theorem e_fld (T : Fl3 X.K n f) (he : E3 X Z e te) (hb : attributeBase e f X.env (eval e X.env) = eval e X.env := by rfl) : E3 X Z (.Attribute e f pos) (vFld n f te) := (pe_fld he hb).imp fun σ H Q h => by
  obtain ⟨F, δ, μ, R, s, sl, h, k⟩ := h
  refine ⟨F, δ, μ, _, s, sl, h, fun F1 v H1 d μ1 g r1 q1 => ?_⟩
  obtain ⟨fs, y, e1, e2, q1⟩ := q1
  obtain ⟨C, a, dx, gs, rfl, c, e3, rf⟩ := ins_of g.sim.raw r1 e1
  obtain ⟨u, e4, r4⟩ := rf.val.1 y e2
  obtain ⟨t1, t2⟩ := T.of c
  exact ⟨a, C, dx, gs, u, rfl, e3, t1, t2, e4, k F1 u H1 y μ1 g r4 q1⟩
def sFld3 (n f : Str) (te to : TE3) : TS3 := fun D δ μ => te δ μ fun d μ1 => to δ μ1 fun x μ2 => ∃ a fs, x = .ref a ∧ μ2 a = some (.ins n fs) ∧ fs.length < 1000 ∧ D.nx δ (mset μ2 a (.ins n (putFD f d fs)))
theorem put_fld {F : Addr → Prop} {H : Hp} {μ : Mu} {a : Addr} {fs : List (Str × D)} {d : D} {v : V} (s : Sim Z F H μ) (h : μ a = some (.ins n fs)) (r : Rp X.kn F H d v) : ∃ C dx gs, clsA X.kn n C ∧ H a = some (.ins C dx gs) ∧ fs.length = gs.length ∧ Step Z F H μ F (upd H a (.ins C dx (putF f v gs))) (mset μ a (.ins n (putFD f d fs))) := by
  obtain ⟨_, C, dx, gs, c, e, rf⟩ := s.obj _ _ h
  exact ⟨C, dx, gs, c, e, rf.length, s.putS h fun g' e' => ⟨C, dx, _, c, e', (rf.grow g').put (r.grow g')⟩⟩
theorem s_fld {pos' : Pos} (T : Fl3 X.K n f) (he : E3 X Z e te) (ho : E3 X Z o to) (hs : swapsWith e (some (.Attribute o f pos')) pos.line X.env = pure false := by rfl) : S3 X Z (.Assign [.Attribute o f pos'] e pos) (sFld3 n f te to) := (ps_fld ho he hs).imp fun D σ H h => by
  obtain ⟨F, δ, μ, D3, s, sl, h, k⟩ := h
  refine ⟨F, δ, μ, _, s, sl, h, fun F1 v H1 d μ1 g r1 q1 => ⟨F1, δ, μ1, _, g.sim, sl.st g, q1, fun F2 u H2 x μ2 g2 r2 q2 => ?_⟩⟩
  obtain ⟨a, fs, rfl, ea, hl, q2⟩ := q2
  cases r2
  obtain ⟨C, dx, gs, c, e3, el, g3⟩ := put_fld (f := f) g2.sim ea (r1.st g2)
  obtain ⟨t1, t2⟩ := T.of c
  exact ⟨a, C, dx, gs, rfl, e3, t1, t2, by rw [← el]; exact hl, k.nx F2 σ _ δ _ ((g.trans g2).trans g3) (sl.st ((g.trans g2).trans g3)) q2⟩
theorem e_gcls (T : Cl3 X.K X.mg x) (hg : Gl X x := by rfl) (hd : (x == ("__debug__" : Str)) = false := by decide) : E3 X Z (.Name x pos) (vC (.cls x)) := by
  obtain ⟨C, c, hm⟩ := T.ex
  exact (pe_glob (v := .ref C) hg hm rfl hd).imp fun _ _ _ h => lowC (v := .ref C) (fun _ _ => .cls (show clsA X.kn x C from c.at_)) h
def ownD (μ : Mu) : D → Option (Option Str)
  | .non => some none | .bl _ => some none | .int _ => some none | .str _ => some none
  | .tup _ => some none | .lst _ => some none | .dct _ => some none
  | .obj n _ => some (some n)
  | .ref a => match μ a with
    | some (.lst _) => some none
    | some (.dct _) => some none
    | some (.ins n _) => some (some n)
    | _ => none
  | _ => none
theorem bt_own {K : PySem.W.Frag} {T : String} {l : List Value} (C : Addr) (h : PySem.fastBuiltinMro T = some l) (h2 : (l.all fun v => match v with
    | .type _ => true
    | _ => false) = true) (ty : ((PySem.W.clsIn K C).isSome && PySem.W.typeIn K (.ref C) == some (.type "type")) = true) : PySem.W.kitOne K (.type T) (.ref C) = some false := by
  unfold PySem.W.kitOne PySem.W.kitCls
  rw [if_neg (by intro z; exact absurd (beq_iff_eq.mp z) (by intro q; cases q))]
  simp only [ty, if_true]
  show Option.map (fun x => x.contains (Value.ref C)) (PySem.fastBuiltinMro T) = some false
  rw [h, Option.map_some]
  congr 1
  cases hc : l.contains (Value.ref C) with
  | false => rfl
  | true =>
    rw [List.contains_iff_mem] at hc
    have := List.all_eq_true.mp h2 _ hc
    cases this
structure Ap3 (K : PySem.W.Frag) (n m : Str) : Prop where
  ex : ∃ C C', ClsK K n C ∧ PySem.W.nsIn K mainGlobals m = some (some (.ref C')) ∧ PySem.W.kitOne K (.ref C) (.ref C') = some false
def gIsC (m : Str) (ns : List Str) : GA := fun ds μ R => ∃ x y, ds = [x, .cls m] ∧ ownD μ x = some y ∧ (∀ n, y = some n → n = m ∨ n ∈ ns) ∧ R (.bl (decide (y = some m))) μ
theorem c_isC {ns : List Str} (T : Cl3 X.K X.mg m) (hns : ∀ n ∈ ns, Ap3 X.K n m) : CallL X Z (.builtin "isinstance") (gIsC m ns) := ⟨_, call_isi, fun F H μ ds vs R Q s rs q k => by
  obtain ⟨x, y, rfl, e1, hy, q⟩ := q
  obtain ⟨C, c, hm⟩ := T.ex
  cases rs with
  | cons r1 t => cases t with
    | cons r2 t =>
      cases t
      cases r2 with
      | @cls _ C9 cc =>
      obtain rfl : C = C9 := (clsA.inj (K := X.kn) cc c.at_).symm
      have bt : ∀ {T : String} {l : List Value} {v : V}, y = none → PySem.fastBuiltinMro T = some l → (l.all fun v => match v with
          | .type _ => true
          | _ => false) = true → TyX X.K H v (.type T) → rIsi X.K [v, .ref C] H Q := fun {T l v} hz h1 h2 h3 => by
        subst hz
        exact ⟨v, _, _, _, false, rfl, .own C, h3, bt_own C h1 h2 c.ty, k F _ H _ μ (Step.refl s) (.bl _) q⟩
      have bo : ∀ {a C2 dx : Addr} {gs : List (Str × V)} {n : Str}, y = some n → clsA X.kn n C2 → H a = some (.ins C2 dx gs) → rIsi X.K [.ref a, .ref C] H Q := fun {a C2 dx gs n} hz h1 h2 => by
        subst hz
        by_cases z : n = m
        · subst z
          obtain rfl : C = C2 := (clsA.inj (K := X.kn) h1 c.at_).symm
          refine ⟨_, _, _, _, true, rfl, .own C, .base (.ins h2 c.cl c.ca c.cg c.ct c.cm), ?_, ?_⟩
          · unfold PySem.W.kitOne
            rw [if_pos (beq_self_eq_true _)]
          · have := k F (.bl true) H (.bl true) μ (Step.refl s) (.bl _)
            simp only [decide_true] at q
            exact this q
        · obtain ⟨C3, C', c2, c3, e3⟩ := (hns n ((hy n rfl).resolve_left z)).ex
          obtain rfl : C2 = C3 := (clsA.inj (K := X.kn) c2.at_ h1).symm
          obtain rfl : C = C' := (clsA.inj (K := X.kn) c3 c.at_).symm
          refine ⟨_, _, _, _, false, rfl,   .own C, .base (.ins h2 c2.cl c2.ca c2.cg c2.ct c2.cm), e3, ?_⟩
          have : decide (some n = some m) = false := decide_eq_false fun q => z (Option.some.inj q)
          rw [this] at q
          exact k F (.bl false) H (.bl false) μ (Step.refl s) (.bl _) q
      cases r1 with
      | non => cases e1; exact bt rfl (T := "NoneType") rfl (by decide +kernel) (.base .non)
      | bl b => cases e1; exact bt rfl (T := "bool") rfl (by decide +kernel) (.base (.bl b))
      | int b => cases e1; exact bt rfl (T := "int") rfl (by decide +kernel) (.base (.int b))
      | str b => cases e1; exact bt rfl (T := "str") rfl (by decide +kernel) (.base (.str b))
      | tup f e rs => cases e1; exact bt rfl (T := "tuple") rfl (by decide +kernel) (.base (.tup e))
      | lst f e rs => cases e1; exact bt rfl (T := "list") rfl (by decide +kernel) (.base (.lst e))
      | dct f e rs =>
        cases e1
        rcases e with e | ⟨o, e⟩
        · exact bt rfl (T := "dict") rfl (by decide +kernel) (.base (.dK e))
        · exact bt rfl (T := "dict") rfl (by decide +kernel) (.fDict e)
      | obj c f e rs => cases e1; exact bo rfl c e
      | ref a =>
        have h' : (match μ a with
          | some (.lst _) => some none
          | some (.dct _) => some none
          | some (.ins n _) => some (some n)
          | _ => none) = some y := e1
        split at h'
        · rename_i xs e2
          cases h'
          obtain ⟨_, vs, e3, rs⟩ := s.obj _ _ e2
          exact bt rfl (T := "list") rfl (by decide +kernel) (.base (.lst e3))
        · rename_i xs e2
          cases h'
          obtain ⟨_, vs, e3, rs⟩ := s.obj _ _ e2
          exact bt rfl (T := "dict") rfl (by decide +kernel) (.base (.dK e3))
        · rename_i xs n e2
          cases h'
          obtain ⟨_, C2, dx, gs, c2, e3, rs⟩ := s.obj _ _ e2
          exact bo rfl c2 e3
        · cases h'
      | _ => cases e1⟩
structure Met3 (P : Program) (w : World) (K : PySem.W.Frag) (mg : Str → Option Value) (base : Heap) (X0 : CXT) (k : Nat) (n m : Str) (cnt : Nat) (ks : List Str) (os : List Src) (dfl : List D) (np : Nat) (lsp : Sp) : Prop where
  ex : ∃ (C f : Addr) (fd : FuncData) (ps : List Str), PySem.W.nsIn K mainGlobals n = some (some (.ref C)) ∧ Cls K C ∧ Meth K C m f ∧ Bd3 K fd ps (cnt + 1) ks os (dfl.map (flV K)) ∧ FnG P w K mg base X0 k f fd ps lsp
  fl : dfl.all (dflD K) = true
  np : os.length = np
def vMet (n m : Str) (cnt : Nat) (os : List Src) (dfl : List D) (sp : Sp3) (to : TE3) (tr : TA3) : TE3 := fun δ μ R => to δ μ fun x μ1 => ∃ fs, insOf μ1 n x = some fs ∧ fs.lookup m = none ∧ tr δ μ1 fun ds μ2 => ds.length = cnt ∧ sp (picks .non os (x :: ds) [] dfl) μ2 R
def Got1 {K : Kn} (Z : Zn K) (F : Addr → Prop) (H : Hp) (μ : Mu) (R : DK) (v : V) (H1 : Hp) : Prop := ∃ F1 d μ1, Step Z F H μ F1 H1 μ1 ∧ Rp K F1 H1 d v ∧ R d μ1
theorem got1 {K : Kn} {Z : Zn K} {F : Addr → Prop} {H : Hp} {μ : Mu} {R : DK} {σ : L2.St} {δ : St3} {t : TE3} (sm : Sim Z F H μ) (sl : Sl K F H σ δ) (h : t δ μ R) : low Z t σ H (Got1 Z F H μ R) :=
  ⟨F, δ, μ, R, sm, sl, h, fun F1 v H1 d μ1 g r1 q1 => ⟨F1, d, μ1, g, r1, q1⟩⟩
theorem e_met {pl : Sem Bool} {cnt : Nat} (L : Lft X Z X0 np sp lsp E) (c : Met3 X.prog X.w X.K X.mg X.base X0 k n m cnt [] os dfl np lsp) (hr : RoomG j X.A) (ho : E3 X Z o to) (ha : A3 X Z (e :: es) tr) (hk : k ≤ j := by decide)
    (hst : starEach (e :: es) X.env = (false, eval e X.env) :: starEach es X.env := by rfl) (hpl : (backTo pos (starEach es X.env)).any (·.1) = false := by rfl)
    (ht : eval (.Call (.Attribute o m apos) (e :: es) [] pos) X.env = (do
      let ov ← eval o X.env
      standAt apos.atName
      let (f, first) ← holding [ov] (getMethod ov m pl)
      callWith pos f first (backTo pos (starEach (e :: es) X.env)) (backToKw pos (keywordEach [] X.env))) := by rfl) :
    E3 X Z (.Call (.Attribute o m apos) (e :: es) [] pos) (vMet n m cnt os dfl sp to tr) := by
  obtain ⟨C, f, fd, ps, hC, cl, hm, hb, G⟩ := c.ex
  refine ⟨fun pins s σ H Q I h => ?_⟩
  obtain ⟨F, δ, μ, R, sm, sl, h, kk⟩ := h
  refine PySem.W.methodCall_KW (pl := pl) (thn (ho.run pins s σ H _ I (got1 sm sl h)) fun u s1 ⟨v, H1, I1, rx, F1, x, μ1, g, r1, fs, ei, en, q⟩ => ?_) ht
  obtain ⟨C2, a, dx, gs, rfl, c2, ea, rf⟩ := ins_of g.sim.raw r1 ei
  obtain rfl : C = C2 := (clsA.inj (K := X.kn) c2 hC).symm
  obtain rfl : u = Value.ref a := rx
  refine getmeth_ok I1 ea cl hm (rf.val.2 en) ?_
  refine PySem.W.callWith_K (first := [.ref a]) (h₀ := X.base) I.ok.mod.kin hm.kp (thn (ha.run pos pins s1 σ H1 _ I1 (got g.sim (sl.st g) q)) fun us s2 ⟨vs, H2, I2, r, F2, ds, μ2, g2, r2, q2⟩ => ⟨I2.kIn, ?_⟩) hst hpl
  exact run_cal (us := .ref a :: us) (ws := []) (ks := []) (vs := .ref a :: vs) (ds := x :: ds) L hb c.fl c.np G (hr.mono hk) I2 (.cons rfl r) .nil g2.sim (.cons (r1.st g2) r2) .nil (by rw [List.length_cons, q2.1]) rfl q2.2
    fun F3 v H3 d μ3 g3 r3 q3 => kk F3 v H3 d μ3 ((g.trans g2).trans g3) r3 q3
theorem e_met0 {pl : Sem Bool} {cnt : Nat} (L : Lft X Z X0 np sp lsp E) (c : Met3 X.prog X.w X.K X.mg X.base X0 k n m cnt [] os dfl np lsp) (hr : RoomG j X.A) (ho : E3 X Z o to) (hk : k ≤ j := by decide)
    (ht : eval (.Call (.Attribute o m apos) [] [] pos) X.env = (do
      let ov ← eval o X.env
      standAt apos.atName
      let (f, first) ← holding [ov] (getMethod ov m pl)
      callWith pos f first (backTo pos (starEach [] X.env)) (backToKw pos (keywordEach [] X.env))) := by rfl) :
    E3 X Z (.Call (.Attribute o m apos) [] [] pos) (vMet n m cnt os dfl sp to vNil) := by
  obtain ⟨C, f, fd, ps, hC, cl, hm, hb, G⟩ := c.ex
  refine ⟨fun pins s σ H Q I h => ?_⟩
  obtain ⟨F, δ, μ, R, sm, sl, h, kk⟩ := h
  refine PySem.W.methodCall_KW (pl := pl) (thn (ho.run pins s σ H _ I (got1 sm sl h)) fun u s1 ⟨v, H1, I1, rx, F1, x, μ1, g, r1, fs, ei, en, q⟩ => ?_) ht
  obtain ⟨C2, a, dx, gs, rfl, c2, ea, rf⟩ := ins_of g.sim.raw r1 ei
  obtain rfl : C = C2 := (clsA.inj (K := X.kn) c2 hC).symm
  obtain rfl : u = Value.ref a := rx
  refine getmeth_ok I1 ea cl hm (rf.val.2 en) ?_
  exact PySem.W.callWith_K0 (first := [.ref a]) I1.kIn hm.kp (run_cal (us := [.ref a]) (ws := []) (ks := []) (vs := [.ref a]) (ds := [x]) L hb c.fl c.np G (hr.mono hk) I1 (.cons rfl .nil) .nil g.sim (.cons r1 .nil) .nil (by rw [← q.1]; rfl) rfl q.2
    fun F3 v H3 d μ3 g3 r3 q3 => kk F3 v H3 d μ3 (g.trans g3) r3 q3)
structure Mak3 (P : Program) (w : World) (K : PySem.W.Frag) (mg : Str → Option Value) (base : Heap) (X0 : CXT) (k : Nat) (n : Str) (cnt : Nat) (ks : List Str) (os : List Src) (dfl : List D) (np : Nat) (lsp : Sp) : Prop where
  ex : ∃ (C f : Addr) (fd : FuncData) (ps : List Str), PySem.W.nsIn K mainGlobals n = some (some (.ref C)) ∧ mg n = some (.ref C) ∧ Mk K C f ∧ Bd3 K fd ps (cnt + 1) ks os (dfl.map (flV K)) ∧ FnG P w K mg base X0 k f fd ps lsp
  fl : dfl.all (dflD K) = true
  np : os.length = np
def vMak (n : Str) (cnt m : Nat) (os : List Src) (dfl : List D) (sp : Sp3) (tr tk : TA3) : TE3 := fun δ μ R => tr δ μ fun ds μ1 => tk δ μ1 fun zs μ2 => ds.length = cnt ∧ zs.length = m ∧
  ∀ q, μ2 q = none → sp (picks .non os (.ref q :: ds) zs dfl) (mset μ2 q (.ins n [])) fun d μ3 => d = .non ∧ fin R (.ref q) μ3
theorem run_mak {pins : List (Addr × Obj)} {σ : L2.St} {H : Hp} {s : Shared} {Q : VK} {us ws : List Value} {C f : Addr} {fd : FuncData} {ps : List Str} {vs zs : List V} {F : Addr → Prop} {μ : Mu} {ds es : List D} {R : DK} {cnt : Nat} (L : Lft X Z X0 np sp lsp E)
    (hC : PySem.W.nsIn X.K mainGlobals n = some (some (.ref C))) (M : Mk X.K C f)
    (hb : Bd3 X.K fd ps (cnt + 1) ks os (dfl.map (flV X.K))) (fl : dfl.all (dflD X.K) = true) (hnp : os.length = np) (G : FnG X.prog X.w X.K X.mg X.base X0 k f fd ps lsp) (hr : RoomG (k + 1) X.A) (I : Inv X pins σ H s) (r1 : Vals vs us) (r2 : Vals zs ws)
    (sm : Sim Z F H μ) (q1 : Rps X.kn F H ds vs) (q2 : Rps X.kn F H es zs) (l1 : ds.length = cnt) (l2 : es.length = ks.length) (hsp : ∀ q, μ q = none → sp (picks .non os (.ref q :: ds) es dfl) (mset μ q (.ins n [])) fun d μ3 => d = .non ∧ fin R (.ref q) μ3)
    (kk : ∀ F' v H' d μ', Step Z F H μ F' H' μ' → Rp X.kn F' H' d v → R d μ' → Q v H') : wpAny (model X.prog X.w) X.A (call (.ref C) us (ks.zip ws)) (EP X pins σ Q) X.xe s := by
  obtain ⟨hl, dv, rd, hb⟩ := hb
  refine run_gmake M G hr L.pass I fun x dx hx hdx ne => ?_
  refine ⟨picks .none os (.ref x :: us) ws dv, picks .non os (.ref x :: vs) zs (dfl.map (flV X.K)), fun s1 k1 => hb s1 (.ref x :: us) ws k1 (by rw [List.length_cons, ← r1.length, ← q1.length, l1]) (by rw [← r2.length, ← q2.length, l2]), vals_picks (.cons (show RelV (.ref x) (.ref x) from rfl) r1) r2 rd os, ?_⟩
  have g1 := sm.newS (o := .own x) hdx
  have hx1 : upd H dx (.own x) x = none := by rw [upd_ne (Ne.symm ne)]; exact hx
  have g2 := g1.sim.trkS (o := .ins C dx []) (m := .ins n []) hx1 fun g' e => ⟨C, dx, [], hC, e, .nil⟩
  have g := g1.trans g2
  refine L.go F _ _ _ _ (fun d μ3 => d = .non ∧ fin R (.ref x) μ3) _ (by rw [← hnp]; exact List.length_map _) g.sim (rps_picks (.cons (.ref x) (q1.st g)) (q2.st g) (flV_ok fl) os) (hsp x (sm.free hx)) ?_
  rintro F' v H' d μ' g3 r3 ⟨rfl, d', μ4, l4, f4, q4⟩
  cases r3
  refine ⟨rfl, kk _ _ _ d' μ4 ((g.trans g3).trans (g3.sim.dropS l4)) (Rp.gone g3.sim.raw f4 (.ref x)) q4⟩
theorem e_mak {cnt : Nat} (L : Lft X Z X0 np sp lsp E) (c : Mak3 X.prog X.w X.K X.mg X.base X0 k x cnt [] os dfl np lsp) (hr : RoomG j X.A) (ha : A3 X Z (e :: es) tr) (hk : k + 1 ≤ j := by decide) (hg : Gl X x := by rfl) (hd : (x == ("__debug__" : Str)) = false := by decide)
    (he : starEach (e :: es) X.env = (false, eval e X.env) :: starEach es X.env := by rfl) (hpl : (backTo pos (starEach es X.env)).any (·.1) = false := by rfl) : E3 X Z (.Call (.Name x p) (e :: es) [] pos) (vMak x cnt 0 os dfl sp tr vNil) := by
  obtain ⟨C, f, fd, ps, hC, hm, M, hb, G⟩ := c.ex
  refine ⟨fun pins s σ H Q I h => ?_⟩
  refine wpAny_Call_Name_kw (ld_glob I hg hm ?_ hd)
  obtain ⟨F, δ, μ, R, sm, sl, h, kk⟩ := h
  refine PySem.W.callWith_K (h₀ := X.base) I.ok.mod.kin M.kp (thn (ha.run pos pins s σ H _ I (got sm sl h))
    fun us s1 ⟨vs, H1, I1, r, F1, ds, μ1, g, r1, q1⟩ => ⟨I1.kIn, ?_⟩) he hpl
  exact run_mak (us := us) (ws := []) (ks := []) L hC M hb c.fl c.np G (hr.mono hk) I1 r .nil g.sim r1 .nil q1.1 rfl q1.2.2 fun F2 v H2 d μ2 g2 r2 q2 => kk F2 v H2 d μ2 (g.trans g2) r2 q2
theorem e_makK {cnt m : Nat} (L : Lft X Z X0 np sp lsp E) (c : Mak3 X.prog X.w X.K X.mg X.base X0 k x cnt ks os dfl np lsp) (hr : RoomG j X.A) (ha : A3 X Z (e :: es) tr) (hkw : K3 X Z kws tk) (hk : k + 1 ≤ j := by decide) (hg : Gl X x := by rfl) (hd : (x == ("__debug__" : Str)) = false := by decide)
    (hall : (backToKw pos (keywordEach kws X.env)).all (·.1.isSome) = true := by rfl) (hks : (backToKw pos (keywordEach kws X.env)).filterMap (·.1) = ks := by rfl)
    (he : starEach (e :: es) X.env = (false, eval e X.env) :: starEach es X.env := by rfl)
    (hpl : ((backTo pos (starEach (e :: es) X.env)).any (·.1) || (backToKw pos (keywordEach kws X.env)).any (·.1.isNone)) = false := by rfl) (hmm : ks.length = m := by rfl) : E3 X Z (.Call (.Name x p) (e :: es) kws pos) (vMak x cnt m os dfl sp tr tk) := by
  subst hmm
  obtain ⟨C, f, fd, ps, hC, hm, M, hb, G⟩ := c.ex
  refine ⟨fun pins s σ H Q I h => ?_⟩
  refine wpAny_Call_Name_kw (ld_glob I hg hm ?_ hd)
  obtain ⟨F, δ, μ, R, sm, sl, h, kk⟩ := h
  refine PySem.W.callWith_KW (h₀ := X.base) I.ok.mod.kin M.kp hall (thn (ha.run pos pins s σ H _ I (got sm sl h))
    fun us s1 ⟨vs, H1, I1, r, F1, ds, μ1, g, r1, q1⟩ => ?_) hpl he
  refine thn (hkw.run pos pins s1 σ H1 _ I1 (got g.sim (sl.st g) q1))
    fun ws s2 ⟨zs, H2, I2, rz, F2, ds2, μ2, g2, r2, q2⟩ => ⟨I2.kIn, ?_⟩
  rw [hks]
  exact run_mak L hC M hb c.fl c.np G (hr.mono hk) I2 r rz g2.sim (r1.st g2) r2 q2.1 q2.2.1 q2.2.2 fun F3 v H3 d μ3 g3 r3 q3 => kk F3 v H3 d μ3 ((g.trans g2).trans g3) r3 q3
end
end L3
namespace L3
open PySem PySem.Spec PyProof.Rows L2
def valX {β : Type} (xs : List (LK × Addr × β)) (k : LK) : Option β := (xs.find? fun x => decide (x.1 = k)).map (·.2.2)
def putX {β : Type} (xs : List (LK × Addr × β)) (k : LK) (b : Addr) (v : β) : List (LK × Addr × β) :=
  if (valX xs k).isSome then xs.map (fun x => if x.1 = k then (x.1, x.2.1, v) else x) else xs ++ [(k, b, v)]
def PrX (xs : List (LK × Addr × V)) (ys : List (LK × Addr × Value)) : Prop := Paired (fun (p : LK × Addr × V) (q : LK × Addr × Value) => p.1 = q.1 ∧ p.2.1 = q.2.1 ∧ RelV p.2.2 q.2.2) xs ys
theorem PrX.val {xs : List (LK × Addr × V)} {ys : List (LK × Addr × Value)} (r : PrX xs ys) (k : LK) : RelO (valX xs k) ((atKey ys k).map (·.2)) := by
  unfold PrX at r
  induction r with
  | nil => exact True.intro
  | @cons p q ps qs h t ih =>
    obtain ⟨h1, _, h2⟩ := h
    unfold valX atKey at ih ⊢
    rw [List.find?_cons, List.find?_cons]
    by_cases e : p.1 = k
    · have e' : q.1 = k := h1.symm.trans e
      simp only [e, e', decide_true]
      exact h2
    · have e' : ¬ q.1 = k := fun z => e (h1.trans z)
      simp only [e, e', decide_false]
      exact ih
theorem PrX.length {xs : List (LK × Addr × V)} {ys : List (LK × Addr × Value)} (r : PrX xs ys) : xs.length = ys.length := Paired.length r
theorem PrX.keys {xs : List (LK × Addr × V)} {ys : List (LK × Addr × Value)} (r : PrX xs ys) : xs.map (·.1) = ys.map (·.1) := by
  unfold PrX at r
  induction r with
  | nil => rfl
  | cons h t ih => rw [List.map_cons, List.map_cons, ih, h.1]
theorem PrX.upd {xs : List (LK × Addr × V)} {ys : List (LK × Addr × Value)} (r : PrX xs ys) (k : LK) {v : V} {u : Value} (rv : RelV v u) : PrX (xs.map fun x => if x.1 = k then (x.1, x.2.1, v) else x) (ys.map (putAt k u)) := by
  unfold PrX at r ⊢
  induction r with
  | nil => exact .nil
  | @cons p q ps qs h t ih =>
    rw [List.map_cons, List.map_cons]
    refine .cons ?_ ih
    obtain ⟨h1, h2, h3⟩ := h
    unfold putAt
    by_cases e : p.1 = k
    · rw [if_pos e, if_pos (h1.symm.trans e)]; exact ⟨h1, h2, rv⟩
    · rw [if_neg e, if_neg fun z => e (h1.trans z)]; exact ⟨h1, h2, h3⟩
theorem PrX.put {xs : List (LK × Addr × V)} {ys : List (LK × Addr × Value)} (r : PrX xs ys) (k : LK) (b : Addr) {v : V} {u : Value} (rv : RelV v u) : PrX (putX xs k b v) (storedH ys k b u) := by
  have e : (valX xs k).isSome = (atKey ys k).isSome := by rw [(r.val k).isSome_eq, Option.isSome_map]
  unfold putX storedH
  rw [e]
  by_cases q : (atKey ys k).isSome = true
  · rw [if_pos q, if_pos q]; exact r.upd k rv
  · rw [if_neg q, if_neg q]; exact Paired.snoc r ⟨rfl, rfl, rv⟩
theorem valX_none {xs : List (LK × Addr × V)} {k : LK} (h : valX xs k = none) : k ∉ xs.map (·.1) := by
  intro hm
  obtain ⟨x, hx, rfl⟩ := List.mem_map.mp hm
  unfold valX at h
  rw [Option.map_eq_none_iff, List.find?_eq_none] at h
  exact h x hx (decide_eq_true rfl)
theorem putX_keys {xs : List (LK × Addr × V)} {k : LK} {b : Addr} {v : V} (n : (xs.map (·.1)).Nodup) : ((putX xs k b v).map (·.1)).Nodup := by
  unfold putX
  split
  · rename_i h
    have : (xs.map fun x => if x.1 = k then (x.1, x.2.1, v) else x).map (·.1) = xs.map (·.1) := by
      rw [List.map_map]
      apply List.map_congr_left
      intro x _
      show (if x.1 = k then (x.1, x.2.1, v) else x).1 = x.1
      split <;> rfl
    rw [this]
    exact n
  · rename_i h
    rw [List.map_append, List.nodup_append]
    refine ⟨n, by simp, fun a ha c hc e => ?_⟩
    have hn : valX xs k = none := by cases q : valX xs k with | none => rfl | some _ => rw [q] at h; exact (h rfl).elim
    simp at hc
    subst e hc
    exact valX_none hn ha
theorem putX_length {xs : List (LK × Addr × V)} {k : LK} {b : Addr} {v : V} : (putX xs k b v).length ≤ xs.length + 1 := by
  unfold putX
  split <;> simp
theorem leaf_is {P : Program} {w : World} {k : Leaf} {u : Value} (r : RelV (leafV k) u) : (leafKind P w).is k u = true := by
  cases k with
  | none => cases (show u = Value.none from r); rfl
  | num i => obtain ⟨t, rfl⟩ := (show ∃ t, u = Value.int i t from r); exact decide_eq_true rfl
  | text x => obtain ⟨t, rfl⟩ := (show ∃ t, u = Value.str x t from r); show Value.isStrOf x (.str x t) = true; simp [Value.isStrOf, Value.isStr]
theorem leaf_items {P : Program} {w : World} : ∀ {ks : List Leaf} {us : List Value}, Vals (ks.map leafV) us → ItemsAre (leafKind P w) ks us
  | [], _, r => by rw [List.map_nil] at r; cases r; exact .nil
  | k :: ks, _, r => by
    rw [List.map_cons] at r
    cases r with
    | cons h t => exact .cons (leaf_is h) (leaf_items t)
section
variable {K : Kn} {H : Hp} {h : Heap} {a b : Addr}
theorem lkey_of {ks : LK} (ok : HOk K.P K.w H h) (e : H b = some (.tup (ks.map leafV))) : (lkH K).is h ks b := by
  obtain ⟨_, its, r, o, h1, h2, n, h3⟩ := (show ObjOk K.P K.w H h b (.tup (ks.map leafV)) from ok b _ e)
  exact ⟨o, its.toArray, n, h1, h2, h3, by simpa using leaf_items r⟩
def KeysX (H : Hp) (xs : List (LK × Addr × V)) : Prop := ∀ p ∈ xs, H p.2.1 = some (.tup (p.1.map leafV))
theorem dcn_of {xs : List (LK × Addr × V)} (ok : HOk K.P K.w H h) (e : H a = some (dcnO K a xs)) (kx : KeysX H xs) : xs.length ≤ sizeLine ∧ (a == sysModules) = false ∧ (xs.map (·.1)).Nodup ∧ ∃ ys, PrX xs ys ∧ h.DictOfH (lkH K) a ys := by
  obtain ⟨⟨z, y, n, ys, o, es, ep, r, h1, h2, h3, h4⟩, _⟩ := ok a _ e
  refine ⟨z, y, n, ys, r, o, es, ep, h1, h2, h3, h4, fun x hx => ?_, by rw [← PrX.keys r]; exact n⟩
  obtain ⟨j, p, hj, hp, e1, e2, _⟩ := paired_ix' r hx
  rw [← e1, ← e2]
  exact lkey_of ok (kx p (List.mem_of_getElem? hp))
where
  paired_ix' {xs : List (LK × Addr × V)} {ys : List (LK × Addr × Value)} (r : PrX xs ys) {x : LK × Addr × Value} (hx : x ∈ ys) : ∃ (j : Nat) (p : LK × Addr × V), ys[j]? = some x ∧ xs[j]? = some p ∧ p.1 = x.1 ∧ p.2.1 = x.2.1 ∧ RelV p.2.2 x.2.2 := by
    unfold PrX at r
    induction r with
    | nil => cases hx
    | @cons p q ps qs h t ih =>
      rcases List.mem_cons.mp hx with rfl | hx
      · exact ⟨0, p, rfl, rfl, h⟩
      · obtain ⟨j, p, h1, h2, h3⟩ := ih hx
        exact ⟨j + 1, p, h1, h2, h3⟩
theorem dcn_new {H' : Hp} {h' : Heap} {xs : List (LK × Addr × V)} {ys : List (LK × Addr × Value)} (z : xs.length ≤ sizeLine) (hd : (a == sysModules) = false) (n : (xs.map (·.1)).Nodup) (r : PrX xs ys) (dd : h'.DictOfH (lkH K) a ys) : ObjOk K.P K.w H' h' a (dcnO K a xs) := by
  obtain ⟨o, es, ep, h1, h2, h3, h4, _, _⟩ := dd
  refine ⟨⟨z, hd, n, ys, o, es, ep, r, h1, h2, h3, h4⟩, ⟨o, h1⟩, fun g1 g2 ⟨_, _, _, ys', o', es', ep', r', h1', h2', h3', h4'⟩ k => ⟨z, hd, n, ys', o', es', ep', r', k _ h1', h2', h3', h4'⟩⟩
end
def DGx (K : Kn) (H : Hp) (a : Addr) (y : V) (r : Option V) : Prop := (∃ kvs k, Rd H a (.dK kvs) ∧ y = kV k ∧ r = valV kvs k) ∨ ∃ xs k b, H a = some (dcnO K a xs) ∧ KeysX H xs ∧ y = .ref b ∧ H b = some (.tup (k.map leafV)) ∧ r = valX xs k
def DPx (K : Kn) (H : Hp) (a : Addr) (y v : V) (H' : Hp) : Prop := (∃ kvs k, H a = some (.dK kvs) ∧ y = kV k ∧ kvs.length < sizeLine ∧ H' = upd H a (.dK (putK kvs k v))) ∨
  ∃ xs k b, H a = some (dcnO K a xs) ∧ KeysX H xs ∧ y = .ref b ∧ H b = some (.tup (k.map leafV)) ∧ xs.length < sizeLine ∧ H' = upd H a (dcnO K a (putX xs k b v))
section
variable {X : Cx} {pins : List (Addr × Obj)} {σ : L2.St} {H : Hp} {s : Shared} {a : Addr} {y v d : V} {u r : Value} {o : Option V} {A : Around} {E : Value → Shared → Prop}
theorem dx_type (I : Inv X pins σ H s) (g : DGx X.kn H a y o) : s.TypeIs (.ref a) "dict" ∧ (∀ b, Value.ref a = .ref b → ∃ ob, s.heap.get? b = some ob ∧ ob.dict = none) ∧ (a == sysModules) = false := by
  rcases g with ⟨kvs, k, e, _, _⟩ | ⟨xs, k, b, e, kx, _⟩
  · exact isD_at I (.inl ⟨kvs, e⟩)
  · obtain ⟨_, hd, _, ys, _, dd⟩ := dcn_of (K := X.kn) I.hok e kx
    refine ⟨dd.typeIs, fun b q => ?_, hd⟩
    cases q
    obtain ⟨ob, _, _, h1, h2, _⟩ := dd
    exact ⟨ob, h1, h2.2.1⟩
theorem dx_get {Q : Value → Shared → Prop} (hu : A.units + 1 < cLine) (I : Inv X pins σ H s) (g : DGx X.kn H a y (some v)) (ry : RelV y u) (k : ∀ w' s', Inv X pins σ H s' → RelV v w' → Q w' s') : wpAny (model X.prog X.w) A (getItem (.ref a) u) Q E s := by
  rcases g with g | ⟨xs, q, b, e, kx, rfl, eb, l⟩
  · exact d_getItem hu I (.inl g) ry k
  cases (show u = Value.ref b from ry)
  obtain ⟨_, _, _, ys, rel, dd⟩ := dcn_of (K := X.kn) I.hok e kx
  obtain ⟨w', hw, rw'⟩ := RelO.some_of (v := v) (o := (atKey ys q).map (·.2)) (by rw [l]; exact rel.val q)
  obtain ⟨p, hp, hp2⟩ := Option.map_eq_some_iff.mp hw
  refine wpAny_getItem_heap (knd := lkH X.kn) (tupleKind_room_in1 hu) (lkey_of (K := X.kn) I.hok eb) dd hp ?_
  rw [hp2]
  exact k w' _ (I.tok _) rw'
theorem dx_in {Q : Value → Shared → Prop} (hu : A.units + 1 < cLine) (I : Inv X pins σ H s) (g : DGx X.kn H a y o) (ry : RelV y u) (k : ∀ s', Inv X pins σ H s' → Q (.bool o.isSome) s') : wpAny (model X.prog X.w) A (compareOp .In u (.ref a)) Q E s := by
  rcases g with g | ⟨xs, q, b, e, kx, rfl, eb, l⟩
  · exact d_in hu I (.inl g) ry k
  cases (show u = Value.ref b from ry)
  obtain ⟨_, hd, _, ys, rel, dd⟩ := dcn_of (K := X.kn) I.hok e kx
  refine wpAny_in_heap (knd := lkH X.kn) (tupleKind_room_in1 hu) (lkey_of (K := X.kn) I.hok eb) hd dd ?_
  have z := (rel.val q).isSome_eq
  rw [Option.isSome_map] at z
  rw [← z, ← l]
  exact k _ (I.tok _)
theorem dx_notIn {Q : Value → Shared → Prop} (hu : A.units + 1 < cLine) (I : Inv X pins σ H s) (g : DGx X.kn H a y o) (ry : RelV y u) (k : ∀ s', Inv X pins σ H s' → Q (.bool (!o.isSome)) s') : wpAny (model X.prog X.w) A (compareOp .NotIn u (.ref a)) Q E s := by
  rcases g with g | ⟨xs, q, b, e, kx, rfl, eb, l⟩
  · exact d_notIn hu I (.inl g) ry k
  cases (show u = Value.ref b from ry)
  obtain ⟨_, hd, _, ys, rel, dd⟩ := dcn_of (K := X.kn) I.hok e kx
  refine wpAny_notIn_heap (knd := lkH X.kn) (tupleKind_room_in1 hu) (lkey_of (K := X.kn) I.hok eb) hd dd ?_
  have z := (rel.val q).isSome_eq
  rw [Option.isSome_map] at z
  rw [← z, ← l]
  exact k _ (I.tok _)
theorem dx_get1 {Q : Value → Shared → Prop} (hu : A.units + 1 < cLine) (I : Inv X pins σ H s) (g : DGx X.kn H a y o) (ry : RelV y u) (k : ∀ w' s', Inv X pins σ H s' → RelV (o.getD .non) w' → Q w' s') : wpAny (model X.prog X.w) A (call (.builtin "dict.get") [.ref a, u]) Q E s := by
  rcases g with g | ⟨xs, q, b, e, kx, rfl, eb, l⟩
  · exact d_get1 hu I (.inl g) ry k
  cases (show u = Value.ref b from ry)
  obtain ⟨_, hd, _, ys, rel, dd⟩ := dcn_of (K := X.kn) I.hok e kx
  refine call_meetsIn PySem.F.slot_dict_get dd.typeIs PySem.F.entry_dict_get (PySem.F.args_dict_get_2 _ _) (meetsH_dict_get (lkH X.kn) a b hd) ⟨tupleKind_room_in1 hu, q, ys, lkey_of (K := X.kn) I.hok eb, dd, k _ _ (I.tok _) ?_⟩
  rw [l]
  exact (rel.val q).getD rfl
theorem dx_get2 {Q : Value → Shared → Prop} (hu : A.units + 1 < cLine) (I : Inv X pins σ H s) (g : DGx X.kn H a y o) (ry : RelV y u) (rd : RelV d r) (k : ∀ w' s', Inv X pins σ H s' → RelV (o.getD d) w' → Q w' s') : wpAny (model X.prog X.w) A (call (.builtin "dict.get") [.ref a, u, r]) Q E s := by
  rcases g with g | ⟨xs, q, b, e, kx, rfl, eb, l⟩
  · exact d_get2 hu I (.inl g) ry rd k
  cases (show u = Value.ref b from ry)
  obtain ⟨_, hd, _, ys, rel, dd⟩ := dcn_of (K := X.kn) I.hok e kx
  refine call_meetsIn PySem.F.slot_dict_get dd.typeIs PySem.F.entry_dict_get (PySem.F.args_dict_get_3 _ _ _) (meetsH_dict_get_default (lkH X.kn) a b hd r) ⟨tupleKind_room_in1 hu, q, ys, lkey_of (K := X.kn) I.hok eb, dd, k _ _ (I.tok _) ?_⟩
  rw [l]
  exact (rel.val q).getD rd
theorem dx_store {xs : List (LK × Addr × V)} {q : LK} {b : Addr} {h' : Heap} {t' : Nat} {ys : List (LK × Addr × Value)} (I : Inv X pins σ H s) (e : H a = some (dcnO X.kn a xs)) (rel : PrX xs ys) (n : (xs.map (·.1)).Nodup) (hd : (a == sysModules) = false) (hz : xs.length < sizeLine) (rv : RelV v r)
    (dd : h'.DictOfH (lkH X.kn) a (storedH ys q b r)) (hs : Heap.SameBut a s.heap h') : Inv X pins σ (upd H a (dcnO X.kn a (putX xs q b v))) { s with heap := h', toks := t' } := by
  have hl : (putX xs q b v).length ≤ sizeLine := by have := putX_length (xs := xs) (k := q) (b := b) (v := v); omega
  refine d_write I (by rw [e]; exact True.intro) hs ?_ (dcn_new (K := X.kn) hl hd (putX_keys n) (rel.put q b rv) dd)
  obtain ⟨o, _, _, h1, _⟩ := dd
  exact ⟨o, h1⟩
theorem dx_set {H' : Hp} {Q : Unit → Shared → Prop} (hu : A.units + 1 < cLine) (I : Inv X pins σ H s) (g : DPx X.kn H a y v H') (ry : RelV y u) (rv : RelV v r) (k : ∀ s', Inv X pins σ H' s' → Q () s') : wpAny (model X.prog X.w) A (setItem (.ref a) u r) Q E s := by
  rcases g with g | ⟨xs, q, b, e, kx, rfl, eb, hz, rfl⟩
  · exact d_setItem hu I (.inl g) ry rv k
  cases (show u = Value.ref b from ry)
  obtain ⟨z, hd, n, ys, rel, dd⟩ := dcn_of (K := X.kn) I.hok e kx
  exact wpAny_setItem_heap (knd := lkH X.kn) (hsz := by rw [← rel.length]; exact z) (tupleKind_room_in1 hu) (lkey_of (K := X.kn) I.hok eb) dd fun h' dd' hs => k _ (dx_store I e rel n hd hz rv dd' hs)
theorem dx_cset {H' : Hp} {Q : Unit → Shared → Prop} (hu : X.A.units < cLine) (I : Inv X pins σ H s) (g : DPx X.kn H a y v H') (ry : RelV y u) (rv : RelV v r) (k : ∀ s', Inv X pins σ H' s' → Q () s') : wpAny (model X.prog X.w) X.A (dictSet a u r) Q E s := by
  rcases g with ⟨kvs, q, e, rfl, hz, rfl⟩ | ⟨xs, q, b, e, kx, rfl, eb, hz, rfl⟩
  · exact d_dictSet I e hz ry rv k
  cases (show u = Value.ref b from ry)
  obtain ⟨z, hd, n, ys, rel, dd⟩ := dcn_of (K := X.kn) I.hok e kx
  exact wpAny_dictSet_heap (knd := lkH X.kn) (hsz := by rw [← rel.length]; exact z) hu (lkey_of (K := X.kn) I.hok eb) dd fun h' dd' hs => k _ (dx_store I e rel n hd hz rv dd' hs)
theorem dcn_empty {K : Kn} {H : Hp} (h : Heap) (hb : sysModules < h.objs.size) : ObjOk K.P K.w H (h.push { cls := .type "dict", data := .dict #[] }) h.objs.size (dcnO K h.objs.size []) :=
  dcn_new (Nat.zero_le _) (beq_eq_false_iff_ne.mpr (Ne.symm (Nat.ne_of_lt hb))) List.nodup_nil (.nil : PrX [] []) ⟨_, #[], 0, Heap.get?_push_size _ rfl, ⟨rfl, rfl, rfl⟩, rfl, rfl, (by simp), List.nodup_nil⟩
end
end L3
namespace L3
open PySem PySem.Spec PyProof.Rows L2
def leafOf : D → Option Leaf
  | .non => some .none
  | .int i => some (.num i)
  | .str x => some (.text x)
  | _ => none
def leavesOf : List D → Option LK
  | [] => some []
  | d :: r => match leafOf d, leavesOf r with
    | some a, some b => some (a :: b)
    | _, _ => none
def lkOf : D → Option LK
  | .tup xs => leavesOf xs
  | _ => none
def valN (kvs : List (LK × D)) (k : LK) : Option D := (kvs.find? fun kv => decide (kv.1 = k)).map (·.2)
def putN (kvs : List (LK × D)) (k : LK) (v : D) : List (LK × D) := if (valN kvs k).isSome then kvs.map (fun kv => if kv.1 = k then (kv.1, v) else kv) else kvs ++ [(k, v)]
inductive Dic where
  | k (kvs : List (Key × D))
  | n (kvs : List (LK × D))
def Dic.get : Dic → D → Option (Option D)
  | .k kvs, y => (keyOf y).map (valD kvs)
  | .n kvs, y => (lkOf y).map (valN kvs)
def Dic.put : Dic → D → D → Option Dic
  | .k kvs, y, v => (keyOf y).map fun q => .k (putD kvs q v)
  | .n kvs, y, v => (lkOf y).map fun q => .n (putN kvs q v)
def Dic.length : Dic → Nat
  | .k kvs => kvs.length
  | .n kvs => kvs.length
def Dic.fz : Dic → D
  | .k kvs => .dct kvs
  | .n kvs => .dcn kvs
def Dic.mo : Dic → MO
  | .k kvs => .dct kvs
  | .n kvs => .dcn kvs
def dicOf (μ : Mu) : D → Option Dic
  | .dct kvs => some (.k kvs)
  | .dcn kvs => some (.n kvs)
  | .ref a => match μ a with
    | some (.dct kvs) => some (.k kvs)
    | some (.dcn kvs) => some (.n kvs)
    | _ => none
  | _ => none
section
variable {K : Kn} {F : Addr → Prop} {H : Hp}
def DicR (K : Kn) (F : Addr → Prop) (H : Hp) (a : Addr) : Dic → Prop
  | .k kvs => ∃ ks, Rd H a (.dK ks) ∧ Rpk K F H kvs ks
  | .n kvs => ∃ ks, H a = some (dcnO K a ks) ∧ Rpn K F H kvs ks
theorem dic_of {μ : Mu} {x : D} {v : V} {c : Dic} (s : Sim0 K F H μ) (r : Rp K F H x v) (h : dicOf μ x = some c) : ∃ a, v = .ref a ∧ DicR K F H a c := by
  cases r with
  | dct f e rs => cases h; exact ⟨_, rfl, _, e, rs⟩
  | dcn f e rs => cases h; exact ⟨_, rfl, _, e, rs⟩
  | ref a =>
    have h' : (match μ a with
      | some (.dct kvs) => some (Dic.k kvs)
      | some (.dcn kvs) => some (Dic.n kvs)
      | _ => none) = some c := h
    split at h'
    · rename_i ys e2
      cases h'
      obtain ⟨_, vs, e3, rs⟩ := s.obj _ _ e2
      exact ⟨_, rfl, vs, .inl e3, rs⟩
    · rename_i ys e2
      cases h'
      obtain ⟨_, vs, e3, rs⟩ := s.obj _ _ e2
      exact ⟨_, rfl, vs, e3, rs⟩
    · cases h'
  | _ => cases h
theorem leaf_ok {x : D} {v : V} {k : Leaf} (r : Rp K F H x v) (h : leafOf x = some k) : v = leafV k := by
  cases r <;> cases h <;> rfl
theorem leaves_ok : ∀ {xs : List D} {vs : List V} {ks : LK}, Rps K F H xs vs → leavesOf xs = some ks → vs = ks.map leafV
  | _, _, _, .nil, h => by cases h; rfl
  | _, _, ks, .cons (d := d) (ds := ds) r t, h => by
    unfold leavesOf at h
    split at h
    · rename_i a b e1 e2
      cases h
      rw [List.map_cons, leaf_ok r e1, leaves_ok t e2]
    · cases h
theorem lk_ok {x : D} {v : V} {k : LK} (r : Rp K F H x v) (h : lkOf x = some k) : ∃ b, v = .ref b ∧ F b ∧ H b = some (.tup (k.map leafV)) := by
  cases r with
  | tup f e rs => exact ⟨_, rfl, f, by rw [← leaves_ok rs h]; exact e⟩
  | _ => cases h
theorem Rpn.keysX : ∀ {ds : List (LK × D)} {vs : List (LK × Addr × V)}, Rpn K F H ds vs → KeysX H vs
  | _, _, .nil => fun _ h => by cases h
  | _, _, .cons f e r t => fun p h => by
    rcases List.mem_cons.mp h with rfl | h
    · exact e
    · exact Rpn.keysX t p h
theorem Rpn.length : ∀ {ds : List (LK × D)} {vs : List (LK × Addr × V)}, Rpn K F H ds vs → ds.length = vs.length
  | _, _, .nil => rfl
  | _, _, .cons _ _ _ t => by rw [List.length_cons, List.length_cons, Rpn.length t]
theorem Rpn.val {k : LK} : ∀ {ds : List (LK × D)} {vs : List (LK × Addr × V)}, Rpn K F H ds vs → (∀ d, valN ds k = some d → ∃ v, valX vs k = some v ∧ Rp K F H d v) ∧ (valN ds k = none → valX vs k = none)
  | _, _, .nil => ⟨fun d h => (by cases h), fun _ => rfl⟩
  | _, _, .cons (k := k') (b := b') (d := d') (v := v') (ds := ds') (vs := vs') f e r t => by
    have ih := Rpn.val (k := k) t
    by_cases e : k' = k
    · have e1 : valN ((k', d') :: ds') k = some d' := by simp [valN, List.find?_cons, e]
      have e2 : valX ((k', b', v') :: vs') k = some v' := by simp [valX, List.find?_cons, e]
      rw [e1, e2]
      exact ⟨fun d h => (by cases h; exact ⟨v', rfl, r⟩), fun h => (by cases h)⟩
    · have e1 : valN ((k', d') :: ds') k = valN ds' k := by simp [valN, List.find?_cons, e]
      have e2 : valX ((k', b', v') :: vs') k = valX vs' k := by simp [valX, List.find?_cons, e]
      rw [e1, e2]
      exact ih
theorem Rpn.append : ∀ {ds es : List (LK × D)} {vs us : List (LK × Addr × V)}, Rpn K F H ds vs → Rpn K F H es us → Rpn K F H (ds ++ es) (vs ++ us)
  | _, _, _, _, .nil, s => s
  | _, _, _, _, .cons f e h r, s => .cons f e h (Rpn.append r s)
theorem Rpn.upd {k : LK} {d : D} {v : V} (h : Rp K F H d v) : ∀ {ds : List (LK × D)} {vs : List (LK × Addr × V)}, Rpn K F H ds vs → Rpn K F H (ds.map fun kv => if kv.1 = k then (kv.1, d) else kv) (vs.map fun x => if x.1 = k then (x.1, x.2.1, v) else x)
  | _, _, .nil => .nil
  | _, _, .cons (k := k') f e r t => by
    rw [List.map_cons, List.map_cons]
    by_cases e' : k' = k
    · simp only [e', if_true]
      exact .cons f (e' ▸ e) h (Rpn.upd h t)
    · simp only [e', if_false]
      exact .cons f e r (Rpn.upd h t)
theorem Rpn.put {k : LK} {b : Addr} {d : D} {v : V} {ds : List (LK × D)} {vs : List (LK × Addr × V)} (r : Rpn K F H ds vs) (fb : F b) (eb : H b = some (.tup (k.map leafV))) (h : Rp K F H d v) : Rpn K F H (putN ds k d) (putX vs k b v) := by
  have e : (valN ds k).isSome = (valX vs k).isSome := by
    cases q : valN ds k with
    | none => rw [(r.val (k := k)).2 q]; rfl
    | some x => obtain ⟨v, e, _⟩ := (r.val (k := k)).1 x q; rw [e]; rfl
  unfold putN putX
  rw [e]
  by_cases q : (valX vs k).isSome = true
  · rw [if_pos q, if_pos q]; exact r.upd h
  · rw [if_neg q, if_neg q]; exact r.append (.cons fb eb h .nil)
def RpO (K : Kn) (F : Addr → Prop) (H : Hp) : Option D → Option V → Prop
  | some d, some v => Rp K F H d v
  | none, none => True
  | _, _ => False
theorem DicR.get {a : Addr} {c : Dic} {y : D} {vy : V} {r : Option D} (h : DicR K F H a c) (ry : Rp K F H y vy) (g : c.get y = some r) : ∃ o, DGx K H a vy o ∧ RpO K F H r o := by
  cases c with
  | k kvs =>
    obtain ⟨ks, e, rs⟩ := h
    unfold Dic.get at g
    obtain ⟨q, eq, rfl⟩ := Option.map_eq_some_iff.mp g
    obtain rfl := keyOf_ok ry eq
    refine ⟨valV ks q, .inl ⟨ks, q, e, rfl, rfl⟩, ?_⟩
    cases z : valD kvs q with
    | none => rw [rs.val.2 z]; exact True.intro
    | some d => obtain ⟨w, ew, rw'⟩ := rs.val.1 d z; rw [ew]; exact rw'
  | n kvs =>
    obtain ⟨ks, e, rs⟩ := h
    unfold Dic.get at g
    obtain ⟨q, eq, rfl⟩ := Option.map_eq_some_iff.mp g
    obtain ⟨b, rfl, fb, eb⟩ := lk_ok ry eq
    refine ⟨valX ks q, .inr ⟨ks, q, b, e, rs.keysX, rfl, eb, rfl⟩, ?_⟩
    cases z : valN kvs q with
    | none => rw [rs.val.2 z]; exact True.intro
    | some d => obtain ⟨w, ew, rw'⟩ := rs.val.1 d z; rw [ew]; exact rw'
end
section
variable {X : Cx} {Z : Zn X.kn} {e a b c o i v kx vx f : Expr} {es : List Expr} {ta tb tc te to ti tv tk tx : TE3} {tr : TA3} {pos p apos cpos : Pos} {x : Str} {k : Nat}
theorem hu_g {A : Around} (hr : RoomG k A) : A.units + 1 < cLine := by have := hr.rm.un; omega
theorem ix_dx (hu : X.A.units + 1 < cLine) : IxR X (fun x y H Q => ∃ a v, x = .ref a ∧ DGx X.kn H a y (some v) ∧ Q v H) := by
  intro value slice pins s σ H x y v u Q I rx ry h hs
  obtain ⟨a, z, rfl, g, q⟩ := h
  obtain rfl : v = Value.ref a := rx
  have hT := (dx_type I g).1
  have go : wpAny (model X.prog X.w) X.A (getItem (.ref a) u) (EP X pins σ Q) X.xe s := dx_get hu I g ry fun w' s3 I3 rw' => ⟨z, H, I3, rw', q⟩
  unfold subscriptTail
  refine wpAny_bind ?_
  rw [getitemInPython_of_ne hT.not_modules]
  refine wpAny_bind (wpAny_specialOf hT PySem.F.slot_dict_getitem.lookup ?_)
  have fin : wpAny (model X.prog X.w) X.A (subscripted slice false (.ref a) u) (fun r s₃ => wpAny (model X.prog X.w) X.A (letTemporaryGo value (.ref a) r >>= fun _ => pure r) (EP X pins σ Q) X.xe s₃) X.xe s := by
    rw [hs]
    exact wpAny_operating (wpAny_mono go (fun r s₃ h₃ => wpAny_bind (wpAny_letTemporaryGo (wpAny_pure h₃))) fun _ _ x => x)
  first
    | exact wpAny_pure (wpAny_bind fin)
    | exact wpAny_bind (wpAny_pure (wpAny_bind fin))
    | exact wpAny_bind fin
def gAt : G2 := fun x y μ R => (∃ z i c, x = .str z ∧ y = .int i ∧ z.length ≤ sizeLine ∧ atI z.cps.toList i = some c ∧ R (.str ⟨#[c]⟩) μ) ∨ (∃ xs i d, y = .int i ∧ seqOf μ x = some xs ∧ atI xs i = some d ∧ R d μ) ∨ (∃ c d, dicOf μ x = some c ∧ c.get y = some (some d) ∧ R d μ)
theorem e_at {j : Nat} (hr : RoomG j X.A) (ha : E3 X Z a ta) (hb : E3 X Z b tb) (hs : PlainIx b := by exact fun _ _ => rfl) : E3 X Z (.Subscript a b pos) (vOp gAt ta tb) := (pe_ix (ix_seq.or (ix_dx (hu_g hr))) ha hb hs).imp fun _ _ _ h => low_op (fun F H μ x y vx vy R Q s rx ry q kk => by
  rcases q with ⟨z, i, c, rfl, rfl, h1, h2, q⟩ | ⟨xs, i, d, rfl, e1, e2, q⟩ | ⟨c, d, e1, e2, q⟩
  · exact .inl (ix_ok F H μ _ _ vx vy R Q s rx ry ⟨c, h1, h2, q⟩ kk)
  · refine .inl ?_
    cases ry
    obtain ⟨p, vs, rfl, sq, rs⟩ := seq_of s rx e1
    obtain ⟨v, e3, r2⟩ := atI_rel rs e2
    rcases sq with sq | sq
    · exact .inl ⟨p, vs, _, v, rfl, rfl, sq, e3, kk F _ H _ μ (Step.refl s) r2 q⟩
    · exact .inr (.inl ⟨p, vs, _, v, rfl, rfl, sq, e3, kk F _ H _ μ (Step.refl s) r2 q⟩)
  · obtain ⟨p, rfl, dr⟩ := dic_of s.raw rx e1
    obtain ⟨ov, g, z⟩ := dr.get ry e2
    cases ov with
    | none => exact z.elim
    | some w => exact .inr ⟨p, w, rfl, g, kk F _ H _ μ (Step.refl s) z q⟩) h
theorem at_s {μ : Mu} {z : Str} {i : Int} {R : DK} {c : Nat} (hz : z.length ≤ sizeLine) (h : atI z.cps.toList i = some c) (q : R (.str ⟨#[c]⟩) μ) : gAt (.str z) (.int i) μ R := .inl ⟨z, i, c, rfl, rfl, hz, h, q⟩
theorem at_q {μ : Mu} {x : D} {xs : List D} {i : Int} {d : D} {R : DK} (e : seqOf μ x = some xs) (h : atI xs i = some d) (q : R d μ) : gAt x (.int i) μ R := .inr (.inl ⟨xs, i, d, rfl, e, h, q⟩)
theorem at_r {μ : Mu} {a : Addr} {xs : List D} {i : Int} {d : D} {R : DK} (e : μ a = some (.lst xs)) (h : atI xs i = some d) (q : R d μ) : gAt (.ref a) (.int i) μ R := at_q (by simp only [seqOf, e]) h q
theorem at_l {μ : Mu} {xs : List D} {i : Int} {d : D} {R : DK} (h : atI xs i = some d) (q : R d μ) : gAt (.lst xs) (.int i) μ R := at_q rfl h q
theorem at_t {μ : Mu} {xs : List D} {i : Int} {d : D} {R : DK} (h : atI xs i = some d) (q : R d μ) : gAt (.tup xs) (.int i) μ R := at_q rfl h q
theorem at_d {μ : Mu} {x y : D} {c : Dic} {d : D} {R : DK} (e : dicOf μ x = some c) (h : c.get y = some (some d)) (q : R d μ) : gAt x y μ R := .inr (.inr ⟨c, d, e, h, q⟩)
def gIn (neg : Bool) : G2 := fun x y μ R => (∃ c z, x = .str ⟨#[c]⟩ ∧ y = .str z ∧ R (.bl (if neg then !decide (c ∈ z.cps.toList) else decide (c ∈ z.cps.toList))) μ) ∨
  (∃ xs, seqOf μ y = some xs ∧ flatD x = true ∧ xs.all flatD = true ∧ R (.bl (if neg then !inD x xs else inD x xs)) μ) ∨ (∃ c r, dicOf μ y = some c ∧ c.get x = some r ∧ R (.bl (if neg then !r.isSome else r.isSome)) μ)
theorem op_in_dx (hu : X.A.units + 1 < cLine) : OpR X (compareOp .In) (fun x y H Q => ∃ a o, y = .ref a ∧ DGx X.kn H a x o ∧ Q (.bl o.isSome) H) := by
  intro pins s σ H x y v u Q I rx ry h
  obtain ⟨a, o, rfl, g, q⟩ := h
  obtain rfl : u = Value.ref a := ry
  exact dx_in hu I g rx fun s' I' => ⟨.bl o.isSome, H, I', rfl, q⟩
theorem op_notIn_dx (hu : X.A.units + 1 < cLine) : OpR X (compareOp .NotIn) (fun x y H Q => ∃ a o, y = .ref a ∧ DGx X.kn H a x o ∧ Q (.bl (!o.isSome)) H) := by
  intro pins s σ H x y v u Q I rx ry h
  obtain ⟨a, o, rfl, g, q⟩ := h
  obtain rfl : u = Value.ref a := ry
  exact dx_notIn hu I g rx fun s' I' => ⟨.bl (!o.isSome), H, I', rfl, q⟩
theorem o_in {j : Nat} (hr : RoomG j X.A) : OpL X Z (compareOp .In) (gIn false) := by
  have hd : OpL X Z (compareOp .In) (fun x y μ R => ∃ c r, dicOf μ y = some c ∧ c.get x = some r ∧ R (.bl r.isSome) μ) := ⟨_, op_in_dx (hu_g hr), fun F H μ x y vx vy R Q s rx ry q kk => by
    obtain ⟨c, r, e1, e2, q⟩ := q
    obtain ⟨p, rfl, dr⟩ := dic_of s.raw ry e1
    obtain ⟨ov, g, z⟩ := dr.get rx e2
    refine ⟨p, ov, rfl, g, ?_⟩
    have : ov.isSome = r.isSome := by
      cases r <;> cases ov <;> first | rfl | exact z.elim
    rw [this]
    exact kk F _ H _ μ (Step.refl s) (.bl _) q⟩
  refine ((o_inS.or o_inL).or hd).imp fun x y μ R h => ?_
  rcases h with ⟨c, z, rfl, rfl, q⟩ | ⟨xs, e, h1, h2, q⟩ | h
  · exact .inl (.inl ⟨c, rfl, q⟩)
  · refine .inl (.inr ?_)
    unfold gInL
    rw [e]
    exact ⟨h1, h2, q⟩
  · exact .inr h
theorem o_notIn {j : Nat} (hr : RoomG j X.A) : OpL X Z (compareOp .NotIn) (gIn true) := by
  have hd : OpL X Z (compareOp .NotIn) (fun x y μ R => ∃ c r, dicOf μ y = some c ∧ c.get x = some r ∧ R (.bl (!r.isSome)) μ) := ⟨_, op_notIn_dx (hu_g hr), fun F H μ x y vx vy R Q s rx ry q kk => by
    obtain ⟨c, r, e1, e2, q⟩ := q
    obtain ⟨p, rfl, dr⟩ := dic_of s.raw ry e1
    obtain ⟨ov, g, z⟩ := dr.get rx e2
    refine ⟨p, ov, rfl, g, ?_⟩
    have : ov.isSome = r.isSome := by
      cases r <;> cases ov <;> first | rfl | exact z.elim
    rw [this]
    exact kk F _ H _ μ (Step.refl s) (.bl _) q⟩
  refine ((o_notInS.or o_notInL).or hd).imp fun x y μ R h => ?_
  rcases h with ⟨c, z, rfl, rfl, q⟩ | ⟨xs, e, h1, h2, q⟩ | h
  · exact .inl (.inl ⟨c, rfl, q⟩)
  · refine .inl (.inr ?_)
    unfold gInL
    rw [e]
    exact ⟨h1, h2, q⟩
  · exact .inr h
theorem in_s {neg : Bool} {μ : Mu} {c : Nat} {z : Str} {R : DK} (q : R (.bl (if neg then !decide (c ∈ z.cps.toList) else decide (c ∈ z.cps.toList))) μ) : gIn neg (.str ⟨#[c]⟩) (.str z) μ R := .inl ⟨c, z, rfl, rfl, q⟩
theorem in_q {neg : Bool} {μ : Mu} {x y : D} {xs : List D} {R : DK} (e : seqOf μ y = some xs) (h1 : flatD x = true) (h2 : xs.all flatD = true) (q : R (.bl (if neg then !inD x xs else inD x xs)) μ) : gIn neg x y μ R := .inr (.inl ⟨xs, e, h1, h2, q⟩)
theorem in_d {neg : Bool} {μ : Mu} {x y : D} {c : Dic} {r : Option D} {R : DK} (e : dicOf μ y = some c) (h : c.get x = some r) (q : R (.bl (if neg then !r.isSome else r.isSome)) μ) : gIn neg x y μ R := .inr (.inr ⟨c, r, e, h, q⟩)
def PSet.or {t u : TSet} (h : PSet X t) (h' : PSet X u) : PSet X (fun o i v H Q => t o i v H Q ∨ u o i v H Q) := fun pins s σ H o i v ov iv w Q I ro ri rv q => q.elim (h pins s σ H o i v ov iv w Q I ro ri rv) (h' pins s σ H o i v ov iv w Q I ro ri rv)
theorem set_dx (hu : X.A.units + 1 < cLine) : PSet X (fun o i v H Q => ∃ a H', o = .ref a ∧ DPx X.kn H a i v H' ∧ Q H') := fun pins s σ H o i v ov iv w Q I ro ri rv q => by
  obtain ⟨a, H', rfl, g, q⟩ := q
  obtain rfl : ov = Value.ref a := ro
  exact dx_set hu I g ri rv fun s' I' => ⟨H', I', q⟩
def gSet : D → D → D → Mu → (Mu → Prop) → Prop := fun o i v μ R => ∃ a, o = .ref a ∧ ((∃ xs k j, i = .int k ∧ μ a = some (.lst xs) ∧ ixN xs.length k = some j ∧ R (mset μ a (.lst (xs.set j v)))) ∨ ∃ c c' : Dic, μ a = some c.mo ∧ c.length < sizeLine ∧ c.put i v = some c' ∧ R (mset μ a c'.mo))
theorem put_dic {F : Addr → Prop} {H : Hp} {μ : Mu} {a : Addr} {c c' : Dic} {i v : D} {vi vv : V} (s : Sim Z F H μ) (h : μ a = some c.mo) (hl : c.length < sizeLine) (e : c.put i v = some c') (ri : Rp X.kn F H i vi) (rv : Rp X.kn F H v vv) :
    ∃ H', DPx X.kn H a vi vv H' ∧ Step Z F H μ F H' (mset μ a c'.mo) := by
  cases c with
  | k kvs =>
    obtain ⟨q, eq, rfl⟩ := Option.map_eq_some_iff.mp (show (keyOf i).map (fun q => Dic.k (putD kvs q v)) = some c' from e)
    obtain ⟨_, ks, e3, rs⟩ := s.obj _ _ h
    obtain rfl := keyOf_ok ri eq
    refine ⟨_, .inl ⟨ks, q, e3, rfl, by rw [← rs.length]; exact hl, rfl⟩, s.putS h fun g' e' => ⟨_, e', (rs.grow g').put (rv.grow g')⟩⟩
  | n kvs =>
    obtain ⟨q, eq, rfl⟩ := Option.map_eq_some_iff.mp (show (lkOf i).map (fun q => Dic.n (putN kvs q v)) = some c' from e)
    obtain ⟨_, ks, e3, rs⟩ := s.obj _ _ h
    obtain ⟨b, rfl, fb, eb⟩ := lk_ok ri eq
    refine ⟨_, .inr ⟨ks, q, b, e3, rs.keysX, rfl, eb, by rw [← rs.length]; exact hl, rfl⟩, s.putS h fun g' e' => ⟨_, e', (rs.grow g').put (g'.mono _ fb) (g'.fix _ _ fb rfl eb) (rv.grow g')⟩⟩
theorem st_any {j : Nat} (hr : RoomG j X.A) : StL X Z gSet := ⟨_, PSet.or set_list (set_dx (hu_g hr)), fun F H μ o i v vo vi vv R Q s ro ri rv q kk => by
  obtain ⟨a, rfl, q⟩ := q
  cases ro
  rcases q with ⟨xs, n, j, rfl, e, hj, q⟩ | ⟨c, c', e, hl, ep, q⟩
  · cases ri
    obtain ⟨_, us, e3, rr⟩ := s.obj _ _ e
    refine .inl ⟨a, us, n, j, rfl, rfl, e3, by rw [← rr.length]; exact hj, ?_⟩
    have g := s.putS (o := .lst (us.set j vv)) (m := .lst (xs.set j v)) e fun g' e' => ⟨_, e', (rr.grow g').set (rv.grow g') j⟩
    exact kk _ _ _ g q
  · obtain ⟨H', g, st⟩ := put_dic s e hl ep ri rv
    exact .inr ⟨a, H', rfl, g, kk _ _ _ st q⟩⟩
theorem set_l {μ : Mu} {b : Addr} {xs : List D} {i : Int} {j : Nat} {v : D} {R : Mu → Prop} (e : μ b = some (.lst xs)) (h : ixN xs.length i = some j) (q : R (mset μ b (.lst (xs.set j v)))) : gSet (.ref b) (.int i) v μ R := ⟨b, rfl, .inl ⟨xs, i, j, rfl, e, h, q⟩⟩
theorem set_k {μ : Mu} {b : Addr} {kvs : List (Key × D)} {i v : D} {k : Key} {R : Mu → Prop} (e : μ b = some (.dct kvs)) (hl : kvs.length < sizeLine) (h : keyOf i = some k) (q : R (mset μ b (.dct (putD kvs k v)))) : gSet (.ref b) i v μ R :=
  ⟨b, rfl, .inr ⟨.k kvs, .k (putD kvs k v), e, hl, by show (keyOf i).map _ = _; rw [h]; rfl, q⟩⟩
theorem set_n {μ : Mu} {b : Addr} {kvs : List (LK × D)} {i v : D} {k : LK} {R : Mu → Prop} (e : μ b = some (.dcn kvs)) (hl : kvs.length < sizeLine) (h : lkOf i = some k) (q : R (mset μ b (.dcn (putN kvs k v)))) : gSet (.ref b) i v μ R :=
  ⟨b, rfl, .inr ⟨.n kvs, .n (putN kvs k v), e, hl, by show (lkOf i).map _ = _; rw [h]; rfl, q⟩⟩
def vGet1 (to tk : TE3) : TE3 := fun δ μ R => to δ μ fun x μ1 => (dicOf μ1 x).isSome = true ∧ tk δ μ1 fun y μ2 => ∃ c r, dicOf μ2 x = some c ∧ c.get y = some r ∧ R (r.getD .non) μ2
def vGet2 (to tk tx : TE3) : TE3 := fun δ μ R => to δ μ fun x μ1 => (dicOf μ1 x).isSome = true ∧ tk δ μ1 fun y μ2 => tx δ μ2 fun z μ3 => ∃ c r, dicOf μ3 x = some c ∧ c.get y = some r ∧ R (r.getD z) μ3
theorem dic_type {F : Addr → Prop} {H : Hp} {μ : Mu} {pins : List (Addr × Obj)} {σ : L2.St} {s : Shared} {d : D} {v : V} (I : Inv X pins σ H s) (sm : Sim0 X.kn F H μ) (r : Rp X.kn F H d v) (h : (dicOf μ d).isSome = true) : ∃ a, v = .ref a ∧ s.TypeIs (.ref a) "dict" ∧ (∀ b, Value.ref a = .ref b → ∃ ob, s.heap.get? b = some ob ∧ ob.dict = none) := by
  obtain ⟨c, e⟩ := Option.isSome_iff_exists.mp h
  obtain ⟨a, rfl, dr⟩ := dic_of sm r e
  refine ⟨a, rfl, ?_⟩
  cases c with
  | k kvs =>
    obtain ⟨ks, e, _⟩ := dr
    exact let ⟨t1, t2, _⟩ := isD_at I (.inl ⟨ks, e⟩); ⟨t1, t2⟩
  | n kvs =>
    obtain ⟨ks, e, rs⟩ := dr
    obtain ⟨_, hd, _, ys, _, dd⟩ := dcn_of (K := X.kn) I.hok e rs.keysX
    refine ⟨dd.typeIs, fun b q => ?_⟩
    cases q
    obtain ⟨ob, _, _, h1, h2, _⟩ := dd
    exact ⟨ob, h1, h2.2.1⟩
theorem getD_ok {F : Addr → Prop} {H : Hp} {r : Option D} {o : Option V} {z : D} {vz : V} (h : RpO X.kn F H r o) (rz : Rp X.kn F H z vz) : Rp X.kn F H (r.getD z) (o.getD vz) := by
  cases r <;> cases o <;> first | exact rz | exact h | exact h.elim
theorem e_get1 {j : Nat} (hr : RoomG j X.A) (ho : E3 X Z o to) (he : E3 X Z e tk) (m : M1 X o "get" apos e cpos := by exact ⟨rfl, rfl, rfl, rfl⟩) : E3 X Z (.Call (.Attribute o "get" apos) [e] [] cpos) (vGet1 to tk) := by
  refine ⟨fun pins s σ H Q I h => ?_⟩
  obtain ⟨F, δ, μ, R, sm, sl, h, kk⟩ := h
  refine wpAny_Call_method m.base m.few m.line PySem.F.plainAttrs_dict PySem.F.slot_dict_get PySem.F.type_dict_get (thn (ho.run pins s σ H _ I (got1 sm sl h)) fun u s1 ⟨v, H1, I1, rx, F1, d, μ1, g, r1, q1⟩ => ?_)
  obtain ⟨a, rfl, t1, t2⟩ := dic_type I1 g.sim.raw r1 q1.1
  obtain rfl : u = Value.ref a := rx
  refine ⟨t1, t2, ?_⟩
  rw [m.trees]
  refine Calls.callWith_builtin rfl (Calls.evalArgs_plain (Calls.spliced_cons (thn (he.run pins s1 σ H1 _ I1 (got1 g.sim (sl.st g) q1.2)) fun iv s2 ⟨y, H2, I2, ry, F2, dy, μ2, g2, r2, q2⟩ => Calls.spliced_nil ?_)))
  obtain ⟨c, r, e1, e2, q2⟩ := q2
  obtain ⟨p, ep, dr⟩ := dic_of g2.sim.raw (r1.st g2) e1
  cases ep
  obtain ⟨ov, gg, z⟩ := dr.get r2 e2
  exact dx_get1 (hu_g hr) I2 gg ry fun w' s3 I3 rw' => ⟨_, H2, I3, rw', kk F2 _ H2 _ μ2 (g.trans g2) (getD_ok z .non) q2⟩
theorem e_get2 {j : Nat} (hr : RoomG j X.A) (ho : E3 X Z o to) (he : E3 X Z e tk) (hf : E3 X Z f tx) (m : M2 X o "get" apos e f cpos := by exact ⟨rfl, rfl, rfl, rfl⟩) : E3 X Z (.Call (.Attribute o "get" apos) [e, f] [] cpos) (vGet2 to tk tx) := by
  refine ⟨fun pins s σ H Q I h => ?_⟩
  obtain ⟨F, δ, μ, R, sm, sl, h, kk⟩ := h
  refine wpAny_Call_method m.base m.few m.line PySem.F.plainAttrs_dict PySem.F.slot_dict_get PySem.F.type_dict_get (thn (ho.run pins s σ H _ I (got1 sm sl h)) fun u s1 ⟨v, H1, I1, rx, F1, d, μ1, g, r1, q1⟩ => ?_)
  obtain ⟨a, rfl, t1, t2⟩ := dic_type I1 g.sim.raw r1 q1.1
  obtain rfl : u = Value.ref a := rx
  refine ⟨t1, t2, ?_⟩
  rw [m.trees]
  refine Calls.callWith_builtin rfl (Calls.evalArgs_plain (Calls.spliced_cons (thn (he.run pins s1 σ H1 _ I1 (got1 g.sim (sl.st g) q1.2)) fun iv s2 ⟨y, H2, I2, ry, F2, dy, μ2, g2, r2, q2⟩ =>
    Calls.spliced_cons (thn (hf.run pins s2 σ H2 _ I2 (got1 g2.sim (sl.st (g.trans g2)) q2)) fun fv s3 ⟨z, H3, I3, rz, F3, dz, μ3, g3, r3, q3⟩ => Calls.spliced_nil ?_))))
  obtain ⟨c, r, e1, e2, q3⟩ := q3
  obtain ⟨p, ep, dr⟩ := dic_of g3.sim.raw (r1.st (g2.trans g3)) e1
  cases ep
  obtain ⟨ov, gg, z⟩ := dr.get (r2.st g3) e2
  exact dx_get2 (hu_g hr) I3 gg ry rz fun w' s4 I4 rw' => ⟨_, H3, I4, rw', kk F3 _ H3 _ μ3 ((g.trans g2).trans g3) (getD_ok z r3) q3⟩
def vDict0N : TE3 := fun _ μ R => ∀ q, μ q = none → R (.ref q) (mset μ q (.dcn []))
theorem e_dict0N : E3 X Z (.Dict [] [] pos) vDict0N := by
  refine ⟨fun pins s σ H Q I h => ?_⟩
  obtain ⟨F, δ, μ, R, sm, sl, h, kk⟩ := h
  have hn := I.hok.fresh (Nat.le_refl s.heap.objs.size)
  have g := sm.trkS (o := dcnO X.kn s.heap.objs.size []) (m := .dcn []) hn fun g' e => ⟨[], e, .nil⟩
  exact wpAny_Dict_empty ⟨.ref s.heap.objs.size, _, I.laid (a := s.heap.objs.size) (o := dcnO X.kn s.heap.objs.size []) (t' := s.toks) (fun _ _ q => Heap.get?_push_of_some _ q) (Nat.le_refl _) (dcn_empty (K := X.kn) s.heap I.big), rfl, kk _ _ _ _ _ g (.ref _) (h _ (sm.free hn))⟩
end
end L3
namespace L3
open PySem PySem.Spec PyProof.Rows L2
def hoE (K : Kn) (nn : Bool) (D : Addr) : HO := if nn then dcnO K D [] else .dK []
def tDcX (K : Kn) (nn : Bool) (wi : TI) (g : TG) (tt : TT) (tk tv : TE) (vs : List Nat) : TE := fun σ H Q => wi σ H fun J H1 => ∀ D, H1 D = none → ∃ W : Nat → Nat → Hp → Prop, (∃ m, W 0 m (upd H1 D (hoE K nn D))) ∧
  ∀ i m H, W i m H → (J.stop i H ∧ Q (.ref D) H) ∨ (J.go i H ∧ ∃ Nx : Hp → Prop, (∀ H', Nx H' → ∃ m', m' < m ∧ W (i + 1) m' H') ∧ ∀ x H', J.yld i H x H' → g x (wipe σ vs) H' fun σ2 H2 => wipe σ2 vs = wipe σ vs ∧
    tt σ2 H2 fun b H3 => if b = true then tk σ2 H3 fun y H4 => tv σ2 H4 fun z H5 => ∃ H6, DPx K H5 D y z H6 ∧ Nx H6 else Nx H3)
section
variable {X : Cx}
theorem empty_ok {nn : Bool} {H : Hp} {P : Program} {w : World} {K : PySem.W.Frag} (h : Heap) (big : sysModules < h.objs.size) : ObjOk P w H (h.push { cls := .type "dict", data := .dict #[] }) h.objs.size (hoE ⟨K, P, w⟩ nn h.objs.size) := by
  cases nn with
  | false => exact dk_empty h big
  | true => exact dcn_empty (K := ⟨K, P, w⟩) h big
theorem dcx_core {ps : List (Addr × Obj)} {st : Shared} {σ : L2.St} {H : Hp} {Q : VK} {use : Option (Value → Sem Unit)} {Qf : Value → Shared → Prop} {kx vx tg iter : Expr} {ifs : List Expr} {scope : Scope} {own : List (Str × Nat)} {pos pos1 : Pos} {nn : Bool} {wi : TI} {g : TG} {tt : TT} {tk tv : TE} (hu : X.A.units < cLine) (calm : X.calm = true) (nod : X.N.Nodup) (walk : PI X tg iter wi) (ok : BlkOk X.N X.env.scope scope own)
    (Tg : ∀ (s : Shared) (H : Hp) (C : Addr) (cl : List (Str × Addr)) (fp : List Addr), PG (X.blk s H scope (compEnvC scope cl C X.env) fp) tg g)
    (Tt : ∀ (s : Shared) (H : Hp) (C : Addr) (cl : List (Str × Addr)) (fp : List Addr), PTs (X.blk s H scope (compEnvC scope cl C X.env) fp) ifs tt)
    (Tk : ∀ (s : Shared) (H : Hp) (C : Addr) (cl : List (Str × Addr)) (fp : List Addr), PE (X.blk s H scope (compEnvC scope cl C X.env) fp) kx tk)
    (Tv : ∀ (s : Shared) (H : Hp) (C : Addr) (cl : List (Str × Addr)) (fp : List Addr), PE (X.blk s H scope (compEnvC scope cl C X.env) fp) vx tv) (fold : ∀ x, foldedSetIterable iter X.env x = pure x) (I0 : Inv X ps σ H st) (rd : tDcX X.kn nn wi g tt tk tv (own.map (·.2)) σ H Q)
    (done : ∀ D C u m G, Inv X ps σ G u → Q (.ref D) G → u.heap.Ns C m → FpOk X ps G C → compPost (model X.prog X.w) X.A X.xe use Qf (.ref D) C (.ok .next) u) :
    wpAny (model X.prog X.w) X.A (comprehension (.DictComp kx vx [⟨tg, iter, ifs, 0⟩] scope pos) scope X.env pos1 newDict false (eval iter X.env) use) Qf X.xe st := by
  have clo : ∀ y ∈ scope.names, y.2 = .free → ∃ c, X.env.cells.lookup y.1 = some c := fun y hy e => (ok.free y hy e).elim (fun q => I0.ok.has _ (.inl q)) fun q => I0.ok.has _ (.inr q)
  refine wpAny_comprehension_free (use := use) rfl fold (closure_ok clo) ok.kind (fun y hy e => by rw [ok.uniq y hy, e]) (thn (walk.run ps st σ H _ I0 rd) fun _ st1 hx => thn hx fun _ st2 found => ?_)
  obtain ⟨it, fp, turn, J, HA, rfl, IA, T, tA, fA, rest⟩ := found
  refine wpAny_newObj_type (newEnv_comp ?_)
  obtain ⟨W, ⟨m0, w0⟩, each⟩ := rest st2.heap.objs.size (IA.hok.fresh (Nat.le_refl _))
  have IB : Inv X ps σ (upd HA st2.heap.objs.size (hoE X.kn nn st2.heap.objs.size)) { st2 with heap := st2.heap.push { cls := .type "dict", data := .dict #[] } } :=
    IA.laid (t' := st2.toks) (fun b o e => Heap.get?_push_of_some _ e) (Nat.le_refl _) (empty_ok st2.heap IA.big)
  have below : ∀ b ∈ fp, b < st2.heap.objs.size := fun b hb => let ⟨o, e, _⟩ := T.obj _ _ tA b hb; Heap.lt_size e
  generalize eD : st2.heap.objs.size = D at *
  generalize eB : ({ st2 with heap := st2.heap.push { cls := .type "dict", data := .dict #[] } } : Shared) = B at IB
  have hB : B.heap = st2.heap.push { cls := .type "dict", data := .dict #[] } := by rw [← eB]
  have fB : ∀ b ∈ fp, FpOk X ps (upd HA D (hoE X.kn nn D)) b ∧ b < B.heap.objs.size := fun b hb =>
    ⟨⟨by rw [upd_ne (Nat.ne_of_lt (below b hb))]; exact (fA b hb).1, (fA b hb).2⟩, by rw [hB, Heap.size_push, eD]; exact Nat.lt_succ_of_lt (below b hb)⟩
  have tB : turn 0 B.heap := T.keep _ _ _ tA fun b _ o e => by rw [hB]; exact Heap.get?_push_of_some _ e
  have IC := block_start IB ok nod fB
  generalize eH : upd HA D (hoE X.kn nn D) = HB at IB IC w0 fB
  generalize eCl : cellsFrom (B.heap.objs.size + 1) scope.names (cloFrom X.env.cells scope.names []) = cl at IC
  have pg := Tg B HB B.heap.objs.size cl fp
  have pt := Tt B HB B.heap.objs.size cl fp
  have pk := Tk B HB B.heap.objs.size cl fp
  have pv := Tv B HB B.heap.objs.size cl fp
  show codeAny _ _ (.compStart (.DictComp kx vx [⟨tg, iter, ifs, 0⟩] scope pos) 0 (.ref it) (.ref D) (compEnvC scope cl B.heap.objs.size X.env)) (compPost (model X.prog X.w) X.A X.xe use Qf (.ref D) B.heap.objs.size) { B with heap := pushCells (B.heap.push { cls := .type "dict", data := .dict #[] }) scope.names }
  generalize eE : compEnvC scope cl B.heap.objs.size X.env = ce at IC pg pt pk pv ⊢
  have cL : ce.locals = B.heap.objs.size := by subst eE; rfl
  generalize eC : ({ B with heap := pushCells (B.heap.push { cls := .type "dict", data := .dict #[] }) scope.names } : Shared) = C at IC ⊢
  have tC : turn 0 C.heap := T.keep _ _ _ tB fun b _ o e => by rw [← eC]; exact pushCells_keeps _ _ _ _ (Heap.get?_push_of_some _ e)
  have free : ∀ {τ : L2.St} {G : Hp} {u : Shared}, Inv (X.blk B HB scope ce fp) [] τ G u → (∀ b ∈ fp, G b = none) → ∀ b ∈ fp, FpOk (X.blk B HB scope ce fp) [] G b := fun {τ G u} J' hn b hb =>
    ⟨hn b hb, (J'.ok.exf b hb).1, J'.ok.exfs b hb, .inl hb, fun x c e => (J'.ok.exf b hb).2 x c e, fun p hp => absurd (show p ∈ ([] : List (Addr × Obj)) ++ [] from hp) (by simp)⟩
  have loop : codeAny (model X.prog X.w) X.A (.compLoop (.DictComp kx vx [⟨tg, iter, ifs, 0⟩] scope pos) 0 (.ref it) (.ref D) ce) (compPost (model X.prog X.w) X.A X.xe use Qf (.ref D) B.heap.objs.size) C := by
    refine compLoop_anyD (fun n u => ∃ i G, Inv (X.blk B HB scope ce fp) [] (wipe σ (own.map (·.2))) G u ∧ turn i u.heap ∧ (∀ b ∈ fp, G b = none) ∧ W i n G) ?_ m0 ⟨0, HB, IC, tC, fun b hb => (fB b hb).1.1, w0⟩
    rintro n u ⟨i, G, J5, t5, n5, w5⟩
    rcases each i n G w5 with ⟨stop, q⟩ | ⟨go, Nx, down, body⟩
    · refine thnF (T.done (X.blk B HB scope ce fp) rfl rfl rfl calm i [] u _ G (fun _ _ => False) J5 (free J5 n5) t5 stop) fun r u6 ⟨hr, J6⟩ => ?_
      subst hr
      have back : Inv X ps σ G u6 := IB.call' (ch := fp) J6.os J6.base J6.hok J6.bare fun b hb => ⟨(fB b hb).1.2.2.2.1, (fB b hb).1.2.1, (fB b hb).1.2.2.2.2.1, (fB b hb).1.2.2.2.2.2⟩
      have nC : G B.heap.objs.size = none := cL ▸ J6.free
      obtain ⟨m, ns, _⟩ := J6.loc
      exact done D B.heap.objs.size u6 m G back q (cL ▸ (show u6.heap.Ns ce.locals m from ns)) (IB.fpOk (Nat.le_refl B.heap.objs.size) nC)
    · refine thnF (T.item (X.blk B HB scope ce fp) rfl rfl rfl calm i [] u _ G (fun _ _ => False) J5 (free J5 n5) t5 go) fun r u6 ⟨v, hr, h6⟩ => ?_
      subst hr
      refine thnF h6 fun _ u7 ⟨x, G7, J7, r7, y7, t7, n7⟩ => ?_
      refine thnF (pg.run _ u7 _ G7 x v _ (J7.pinned (free J7 n7) (T.obj _ _ t7)) r7 (body x G7 y7)) fun _ u8 ⟨τ, G8, J8, w8, q8⟩ => ?_
      refine thnF (pt.run _ u8 τ G8 _ J8 q8) fun b u9 ⟨G9, J9, q9⟩ => ?_
      have next : ∀ {u' : Shared} {G' : Hp}, Inv (X.blk B HB scope ce fp) ([] ++ pinsAt fp u7.heap) τ G' u' → Nx G' → ∃ m, m < n ∧ ∃ i G, Inv (X.blk B HB scope ce fp) [] (wipe σ (own.map (·.2))) G u' ∧ turn i u'.heap ∧ (∀ b ∈ fp, G b = none) ∧ W i m G := fun {u' G'} J' nx => by
        obtain ⟨m', lt, w'⟩ := down G' nx
        have pins : ∀ b ∈ fp, ∀ o, u7.heap.get? b = some o → u'.heap.get? b = some o ∧ G' b = none := fun b hb o e =>
          let z := J'.pin (b, o) (List.mem_append_right _ (List.mem_append_right _ (mem_pinsAt hb e)))
          ⟨z.1, z.2.1⟩
        refine ⟨m', lt, i + 1, G', (J'.unpinned (pins := [])).weak (by rw [← w8, wipe_length]) (fun j v e => (wipe_some (w8 ▸ e)).1), T.keep _ _ _ t7 fun b hb o e => (pins b hb o e).1, fun b hb => ?_, w'⟩
        obtain ⟨o, e, _⟩ := T.obj _ _ t7 b hb
        exact (pins b hb o e).2
      cases b with
      | false => exact next J9 (by simpa using q9)
      | true =>
        rw [if_pos rfl] at q9 ⊢
        refine thnF (pk.run _ u9 τ G9 _ J9 q9) fun z u10 ⟨yk, G10, J10, r10, q10⟩ => ?_
        refine thnF (pv.run _ u10 τ G10 _ J10 q10) fun z2 u11 ⟨yv, G11, J11, r11, G12, dp, nx⟩ => ?_
        exact dx_cset (X := X.blk B HB scope ce fp) hu J11 dp r10 r11 fun u12 J12 => next J12 nx
  exact codeAny_compStart_dict loop (T.self X.A 0 _ _ _ tC loop)
theorem pe_dcX {kx vx tg iter : Expr} {ifs : List Expr} {scope : Scope} {own : List (Str × Nat)} {pos : Pos} {nn : Bool} {wi : TI} {g : TG} {tt : TT} {tk tv : TE} (hu : X.A.units < cLine) (calm : X.calm = true) (nod : X.N.Nodup) (walk : PI X tg iter wi) (ok : BlkOk X.N X.env.scope scope own)
    (Tg : ∀ (s : Shared) (H : Hp) (C : Addr) (cl : List (Str × Addr)) (fp : List Addr), PG (X.blk s H scope (compEnvC scope cl C X.env) fp) tg g)
    (Tt : ∀ (s : Shared) (H : Hp) (C : Addr) (cl : List (Str × Addr)) (fp : List Addr), PTs (X.blk s H scope (compEnvC scope cl C X.env) fp) ifs tt)
    (Tk : ∀ (s : Shared) (H : Hp) (C : Addr) (cl : List (Str × Addr)) (fp : List Addr), PE (X.blk s H scope (compEnvC scope cl C X.env) fp) kx tk)
    (Tv : ∀ (s : Shared) (H : Hp) (C : Addr) (cl : List (Str × Addr)) (fp : List Addr), PE (X.blk s H scope (compEnvC scope cl C X.env) fp) vx tv) (fold : ∀ x, foldedSetIterable iter X.env x = pure x := by intro _; rfl) :
    PE X (.DictComp kx vx [⟨tg, iter, ifs, 0⟩] scope pos) (tDcX X.kn nn wi g tt tk tv (own.map (·.2))) := by
  refine ⟨fun ps st σ H Q I0 rd => ?_⟩
  rw [arm_eval_DictComp]
  refine dcx_core hu calm nod walk ok Tg Tt Tk Tv fold I0 rd fun D C u m G J q ns ⟨f0, f1, f2, f3, f4, f5⟩ => ⟨m, ns, fun h'' sb => ?_⟩
  exact ⟨.ref D, G, J.turned (t' := u.toks) (fun b o hb e => (sb.2 b hb).trans e) f0 f1 f3 f4 f5, rfl, q⟩
theorem ps_setDcX {i : Nat} {y : Str} {py : Pos} {kx vx tg iter : Expr} {ifs : List Expr} {scope : Scope} {own : List (Str × Nat)} {pos spos : Pos} {nn : Bool} {wi : TI} {g : TG} {tt : TT} {tk tv : TE} (hu : X.A.units < cLine) (calm : X.calm = true) (nod : X.N.Nodup) (hy : X.N[i]? = some y) (hyl : X.env.scope.names.lookup y = some .local)
    (hsw : swapsWith (.DictComp kx vx [⟨tg, iter, ifs, 0⟩] scope pos) (some (.Name y py)) spos.line X.env = pure true) (walk : PI X tg iter wi) (ok : BlkOk X.N X.env.scope scope own)
    (Tg : ∀ (s : Shared) (H : Hp) (C : Addr) (cl : List (Str × Addr)) (fp : List Addr), PG (X.blk s H scope (compEnvC scope cl C X.env) fp) tg g)
    (Tt : ∀ (s : Shared) (H : Hp) (C : Addr) (cl : List (Str × Addr)) (fp : List Addr), PTs (X.blk s H scope (compEnvC scope cl C X.env) fp) ifs tt)
    (Tk : ∀ (s : Shared) (H : Hp) (C : Addr) (cl : List (Str × Addr)) (fp : List Addr), PE (X.blk s H scope (compEnvC scope cl C X.env) fp) kx tk)
    (Tv : ∀ (s : Shared) (H : Hp) (C : Addr) (cl : List (Str × Addr)) (fp : List Addr), PE (X.blk s H scope (compEnvC scope cl C X.env) fp) vx tv) (fold : ∀ x, foldedSetIterable iter X.env x = pure x := by intro _; rfl) :
    PS X (.Assign [.Name y py] (.DictComp kx vx [⟨tg, iter, ifs, 0⟩] scope pos) spos) (tAsg (tDcX X.kn nn wi g tt tk tv (own.map (·.2))) (gName i)) := by
  refine ⟨fun ps st σ H D I0 rd => ?_⟩
  rw [exec_Assign_Name_used _ _ _ _ hsw]
  refine wpAny_bind (wpAny_standAt (wpAny_bind ?_))
  have rd' : tDcX X.kn nn wi g tt tk tv (own.map (·.2)) σ H (fun x H1 => gName i x σ H1 D.nx) := rd
  show wpAny _ X.A (comprehension (.DictComp kx vx [⟨tg, iter, ifs, 0⟩] scope pos) scope X.env (firstIterPos [⟨tg, iter, ifs, 0⟩] pos) newDict false (eval iter X.env) (some (assign (.Name y py) X.env)) >>= fun _ => _) _ _ st
  refine wpAny_bind (thn (dcx_core (Qf := fun _ u => SP X ps D .next u) hu calm nod walk ok Tg Tt Tk Tv fold I0 rd' fun L C u m G J q ns f => ?_) fun _ u hq => wpAny_pure (wpAny_pure hq))
  show wpAny _ _ (assign (.Name y py) X.env (.ref L)) _ _ _
  refine wpAny_assign_Name (store_ok2 (v := V.ref L) J nod hy (.inl hyl) rfl (fun u2 J2 ⟨b, sb, hb⟩ => ?_) (.inr hyl))
  obtain ⟨f0, f1, f2, f3, f4, f5⟩ := f
  have apart : C ≠ b := hb.elim (fun z => by rw [z]; exact f1) fun z e => f4 y b z e.symm
  exact ⟨m, ns.sameBut sb apart, fun h3 sb3 => ⟨_, G, J2.turned (t' := u2.toks) (fun b o hb e => (sb3.2 b hb).trans e) f0 f1 f3 f4 f5, q⟩⟩
theorem sw_dict {kx vx : Expr} {gs : List Comprehension} {scope : Scope} {pos py : Pos} {y : Str} {l : Nat} {env : Env} (hk : env.scope.kind = .function) (hy : env.scope.names.lookup y = some .local) (hl : (py.line == pos.line) = true)
    (ha : (scope.names.any fun (n, k) => n == y && (k == .local || k == .cell)) = false) : swapsWith (.DictComp kx vx gs scope pos) (some (.Name y py)) l env = pure true := by
  have h1 : env.kindOf y = some .local := hy
  have h2 : env.blockKind = .function := by unfold Env.blockKind; rw [hk]; rfl
  unfold swapsWith
  simp only [h1, h2, Expr.pos, hl, ha]
  rfl
end
end L3
namespace L3
open PySem PySem.Spec PyProof.Rows L2
section
variable {K : Kn} {Z : Zn K} {F F' : Addr → Prop} {H H' : Hp} {μ μ' : Mu}
theorem Sim.lockS {d : Addr} {od : Obj} {ks : List (Key × V)} (s : Sim Z F H μ) (f : F d) (e : H d = some (.dK ks)) : Step Z F H μ F (upd H d (.frz od (.dK ks))) μ := by
  have g : Grow F H F (upd H d (.frz od (.dK ks))) := by
    refine ⟨fun _ h => h, fun a u fa h => ?_, fun a u fa i h => ?_⟩
    · by_cases q : a = d
      · subst q
        rcases h with h | ⟨o, h⟩
        · rw [e] at h; cases h; exact .inr ⟨od, upd_same⟩
        · rw [e] at h; cases h
      · rcases h with h | ⟨o, h⟩
        · exact .inl (by rw [upd_ne q]; exact h)
        · exact .inr ⟨o, by rw [upd_ne q]; exact h⟩
    · have q : a ≠ d := fun q => by subst q; rw [e] at h; cases h; cases i
      rw [upd_ne q]; exact h
  refine s.step g (fun a u h n z => ?_) ⟨fun a fa => ?_, fun a o h => ?_⟩
  · have q : a ≠ d := fun q => z (q ▸ f)
    exact ⟨n, by rw [upd_ne q]; exact h, z⟩
  · by_cases q : a = d
    · subst q; exact ⟨_, upd_same⟩
    · rw [upd_ne q]; exact s.dom a fa
  · obtain ⟨nf, m⟩ := s.obj a o h
    have q : a ≠ d := fun q => nf (q ▸ f)
    refine ⟨nf, ?_⟩
    cases o with
    | lst xs => obtain ⟨vs, e, r⟩ := m; exact ⟨vs, by rw [upd_ne q]; exact e, r.grow g⟩
    | dct kvs => obtain ⟨vs, e, r⟩ := m; exact ⟨vs, by rw [upd_ne q]; exact e, r.grow g⟩
    | dcn kvs => obtain ⟨vs, e, r⟩ := m; exact ⟨vs, by rw [upd_ne q]; exact e, r.grow g⟩
    | dlk od ks kvs => obtain ⟨e, r⟩ := m; exact ⟨by rw [upd_ne q]; exact e, r.grow g⟩
    | ins n fs => obtain ⟨C, dx, vs, c, e, r⟩ := m; exact ⟨C, dx, vs, c, by rw [upd_ne q]; exact e, r.grow g⟩
theorem Step.trk1 {p : Addr} {m : MO} (s0 : Sim Z F H μ) (s : Step Z F H μ F' H' μ') (hp : H p = none) (nF : ¬ F' p) (nμ : μ' p = none) (ok : MoOk K F' H' p m) : Step Z F H μ F' H' (mset μ' p m) := by
  refine s0.step s.grow (fun a u h n z => ?_) ⟨s.sim.dom, fun a o h => ?_⟩
  · obtain ⟨n1, h1, f1⟩ := s.fm a u h n z
    exact ⟨by rw [mset_ne (ne_of_none h hp)]; exact n1, h1, f1⟩
  · by_cases q : a = p
    · subst q
      rw [mset_same] at h
      cases h
      exact ⟨nF, ok⟩
    · rw [mset_ne q] at h
      exact s.sim.obj a o h
end
def pairD (kv : Key × D) : D := .tup [keyD kv.1, kv.2]
theorem key_rp {K : Kn} {F : Addr → Prop} {H : Hp} (k : Key) : Rp K F H (keyD k) (kV k) := by
  cases k with
  | inl i => exact .int i
  | inr x => exact .str x
theorem Rpk.get {K : Kn} {F : Addr → Prop} {H : Hp} : ∀ {ds : List (Key × D)} {vs : List (Key × V)} {i : Nat} {k : Key} {v : V}, Rpk K F H ds vs → vs[i]? = some (k, v) → ∃ d, ds[i]? = some (k, d) ∧ Rp K F H d v
  | _, _, _, _, _, .nil, e => by simp at e
  | _, _, 0, _, _, .cons h _, e => by simp at e; obtain ⟨rfl, rfl⟩ := e; exact ⟨_, rfl, h⟩
  | _, _, i + 1, _, _, .cons _ r, e => by
    obtain ⟨d, e1, h⟩ := Rpk.get (i := i) r (by simpa using e)
    exact ⟨d, by simpa using e1, h⟩
section
variable {X : Cx} {Z : Zn X.kn} {tg e a b c : Expr} {es : List Expr} {te ta tb tc : TE3} {tr : TA3} {pos p apos cpos : Pos} {x : Str}
theorem pe_lockA {td : TE} (h : PE X e td) : PE X e (fun σ H Q => td σ H fun x H1 => ∃ d kvs, x = .ref d ∧ ((H1 d = some (.dK kvs) ∧ ∀ od, Q x (upd H1 d (.frz od (.dK kvs)))) ∨ Q x H1)) := by
  refine ⟨fun pins s σ H Q I hw => thn (h.run pins s σ H _ I hw) fun u s1 ⟨x, H1, I1, r1, d, kvs, ex, q⟩ => ?_⟩
  rcases q with ⟨e1, q⟩ | q
  · obtain ⟨od, I2⟩ := I1.lock e1 True.intro
    exact ⟨x, _, I2, r1, q od⟩
  · exact ⟨x, H1, I1, r1, q⟩
theorem lock_low {te : TE3} {σ : L2.St} {H : Hp} {R : V → Hp → Prop} {R3 : DK} {F : Addr → Prop} {δ : St3} {μ : Mu} (s : Sim Z F H μ) (sl : Sl X.kn F H σ δ) (h : te δ μ R3) (hd : ∀ d μ, R3 d μ → ∃ kvs, d = .dct kvs)
    (k : ∀ F1 H1 μ1 d od kvs ks, Step Z F H μ F1 H1 μ1 → F1 d → H1 d = some (.frz od (.dK ks)) → Rpk X.kn F1 H1 kvs ks → R3 (.dct kvs) μ1 → R (.ref d) H1) :
    low Z te σ H fun x H1 => ∃ d kvs, x = .ref d ∧ ((H1 d = some (.dK kvs) ∧ ∀ od, R x (upd H1 d (.frz od (.dK kvs)))) ∨ R x H1) := by
  refine ⟨F, δ, μ, _, s, sl, h, fun F1 v H1 d μ1 g r1 q1 => ?_⟩
  obtain ⟨kvs, rfl⟩ := hd d μ1 q1
  cases r1 with
  | @dct _ ks a f e rs =>
    refine ⟨a, ks, rfl, ?_⟩
    rcases e with e | ⟨od, e⟩
    · refine .inl ⟨e, fun od => ?_⟩
      have g2 := g.sim.lockS (od := od) f e
      exact k F1 _ μ1 a od kvs ks (g.trans g2) f upd_same (rs.st g2) q1
    · exact .inr (k F1 H1 μ1 a od kvs ks g f e rs q1)
def iItm (te : TE3) : TI3 := fun δ μ R => te δ μ fun d μ1 => ∃ kvs, d = .dct kvs ∧ R (kvs.map pairD) (fun _ => True) μ1
theorem iti_ok {F : Addr → Prop} {H : Hp} {μ : Mu} {d : Addr} {od : Obj} {kvs : List (Key × D)} {ks : List (Key × V)} (f : F d) (e : H d = some (.frz od (.dK ks))) (rs : Rpk X.kn F H kvs ks) : ItOk Z F H μ (kvs.map pairD) (fun _ => True) (Iti d od ks) := by
  have hl : (kvs.map pairD).length = ks.length := by rw [List.length_map, rs.length]
  refine ⟨fun F1 H1 μ1 i g _ hi => ⟨g.grow.fix _ _ f rfl e, by rw [← hl]; exact hi⟩, fun F1 H1 μ1 g _ => ⟨g.grow.fix _ _ f rfl e, by rw [hl]; exact Nat.le_refl _⟩, fun F1 H1 μ1 i x H2 g _ hy hi => ?_⟩
  obtain ⟨T, k, v, e1, rfl, nT, rfl⟩ := hy
  obtain ⟨dd, e2, r2⟩ := (rs.st g).get e1
  have g2 := g.sim.frzS (o := .tup [kV k, v]) nT
  exact ⟨_, pairD (k, dd), g2, by rw [List.getElem?_map, e2]; rfl, .tup (.inr rfl) upd_same (.cons (key_rp k) (.cons (r2.st g2) .nil))⟩
theorem i_items {elts : List Expr} {kk : Nat} {tpos : Pos} (he : E3 X Z e te) (hbase : attributeBase e "items" X.env (eval e X.env) = eval e X.env := by rfl) (hline : (apos.endLine == cpos.line) = true := by rfl) : I3 X Z (.Tuple elts kk tpos) (.Call (.Attribute e "items" apos) [] [] cpos) (iItm te) :=
  (pi_items (pe_lockA he) hbase hline).imp fun σ H R h => by
    obtain ⟨F, δ, μ, R3, s, sl, h, k⟩ := h
    refine lock_low (R := fun x H1 => ∃ d o kvs, x = .ref d ∧ H1 d = some (.frz o (.dK kvs)) ∧ R (Iti d o kvs) H1) s sl h (fun d μ ⟨kvs, e, _⟩ => ⟨kvs, e⟩) fun F1 H1 μ1 d od kvs ks g f e1 rs q => ?_
    obtain ⟨kvs', e2, q⟩ := q
    cases e2
    exact ⟨d, od, ks, rfl, e1, k F1 H1 _ _ μ1 _ g (iti_ok f e1 rs) q⟩
def iVal (te : TE3) : TI3 := fun δ μ R => te δ μ fun d μ1 => ∃ kvs, d = .dct kvs ∧ R (kvs.map (·.2)) (fun _ => True) μ1
def iAnyV (K : PySem.W.Frag) (tl : TE) : TI := fun σ H R => tl σ H fun x H1 => (∃ z, x = .str z ∧ R (Its z) H1) ∨ ∃ a, x = .ref a ∧ (((∃ ys, SqL K H1 a ys) ∧ R (Itl K a) H1) ∨ ((∃ ys, SqT K H1 a ys) ∧ R (Itt K a) H1) ∨
  (∃ kvs, H1 a = some (.dK kvs) ∧ ∀ o, R (Itk a o kvs) (upd H1 a (.frz o (.dK kvs)))) ∨ ∃ o kvs, H1 a = some (.frz o (.dK kvs)) ∧ R (Itk a o kvs) H1)
theorem pi_any {l : Expr} {tl : TE} (hl : PE X l tl) : PI X tg l (iAnyV X.K tl) := by
  refine ⟨fun ps st σ H R I h => thn (hl.run ps st σ H _ I h) fun v st1 ⟨x, H1, J, rx, z⟩ => ?_⟩
  rcases z with ⟨w, rfl, q⟩ | ⟨a, rfl, z⟩
  · obtain ⟨t, rfl⟩ := (show ∃ t, v = Value.str w t from rx)
    cases ha : w.cps.all (· < 128)
    · exact wpAny_pyIter_wide ha (pi_one (tk := st1.toks) J _ (turn_str _ w t "str_iterator" (.inr rfl)) ⟨_, Heap.get?_push_size _ rfl, rfl, rfl⟩ q)
    · exact wpAny_pyIter_ascii ha (pi_one (tk := st1.toks) J _ (turn_str _ w t "str_ascii_iterator" (.inl rfl)) ⟨_, Heap.get?_push_size _ rfl, rfl, rfl⟩ q)
  cases rx
  have fp : ∀ b ∈ [st1.heap.objs.size], FpOk X ps H1 b := fun b hb => by
    obtain rfl : b = st1.heap.objs.size := List.mem_singleton.mp hb
    exact J.fpOk (Nat.le_refl _) (J.hok.fresh (Nat.le_refl _))
  have dict : ∀ {H2 : Hp} {o : Obj} {kvs : List (Key × V)}, Inv X ps σ H2 st1 → H2 a = some (.frz o (.dK kvs)) → R (Itk a o kvs) H2 → wpAny (model X.prog X.w) X.A (pyIter (.ref a)) (PIE X ps σ tg R) X.xe st1 := fun {H2 o kvs} J2 e q => by
    obtain ⟨hs, hgd, hx, es, ep, vs, hdt, hsz, kv, hm⟩ := J2.frzK e
    refine iter_keys hs hgd hx hdt (pi_one (tk := st1.toks) J2 _ (turn_keys _ hdt) ⟨_, Heap.get?_push_size _ rfl, rfl, ?_⟩ q)
    rw [hsz] <;> rfl
  rcases z with ⟨⟨ys, sq⟩, z⟩ | ⟨⟨ys, sq⟩, z⟩ | ⟨kvs, e, z⟩ | ⟨o, kvs, e, z⟩
  · obtain ⟨us, _, pl, _⟩ := J.list sq
    exact wpAny_pyIter_list pl.isList ⟨_, _, _, _, H1, rfl, J.kept (t' := st1.toks) fun _ _ w => Heap.get?_push_of_some _ w, turn_list a _, ⟨_, Heap.get?_push_size _ rfl, rfl, rfl⟩, fp, z⟩
  · obtain ⟨us, _, pl, _⟩ := J.tuple sq
    exact wpAny_pyIter_tuple (show st1.heap.IsTuple a us.toArray from pl) ⟨_, _, _, _, H1, rfl, J.kept (t' := st1.toks) fun _ _ w => Heap.get?_push_of_some _ w, turn_tuple a _, ⟨_, Heap.get?_push_size _ rfl, rfl, rfl⟩, fp, z⟩
  · obtain ⟨od, J2⟩ := J.lock e True.intro
    exact dict J2 upd_same (z od)
  · exact dict J e z
def anyI (R : List D → (Mu → Prop) → Mu → Prop) (μ1 : Mu) : D → Prop
  | .lst xs => R xs (fun _ => True) μ1
  | .scr xs => R xs (fun _ => True) μ1
  | .tup xs => R xs (fun _ => True) μ1
  | .str z => R (signsD z) (fun _ => True) μ1
  | .dct kvs => R (kvs.map fun kv => keyD kv.1) (fun _ => True) μ1
  | .etp _ _ => R [] (fun _ => True) μ1
  | .ref a => ∃ xs, μ1 a = some (.lst xs) ∧ R xs (fun μ => μ a = some (.lst xs)) μ1
  | _ => False
def iAny (te : TE3) : TI3 := fun δ μ R => te δ μ fun d μ1 => anyI R μ1 d
theorem itk_ok {F : Addr → Prop} {H : Hp} {μ : Mu} {d : Addr} {od : Obj} {kvs : List (Key × D)} {ks : List (Key × V)} (f : F d) (e : H d = some (.frz od (.dK ks))) (rs : Rpk X.kn F H kvs ks) : ItOk Z F H μ (kvs.map fun kv => keyD kv.1) (fun _ => True) (Itk d od ks) := by
  have hl : (kvs.map fun kv => keyD kv.1).length = ks.length := by rw [List.length_map, rs.length]
  refine ⟨fun F1 H1 μ1 i g _ hi => ⟨g.grow.fix _ _ f rfl e, by rw [← hl]; exact hi⟩, fun F1 H1 μ1 g _ => ⟨g.grow.fix _ _ f rfl e, by rw [hl]; exact Nat.le_refl _⟩, fun F1 H1 μ1 i x H2 g _ hy hi => ?_⟩
  obtain ⟨rfl, k, v, e1, rfl⟩ := hy
  obtain ⟨dd, e2, r2⟩ := (rs.st g).get e1
  exact ⟨F1, keyD k, Step.refl g.sim, by rw [List.getElem?_map, e2]; rfl, key_rp k⟩
theorem i_any (he : E3 X Z e te) : I3 X Z tg e (iAny te) := (pi_any he).imp fun σ H R3 h => by
  obtain ⟨F, δ, μ, R, s, sl, h, k⟩ := h
  refine ⟨F, δ, μ, _, s, sl, h, fun F1 v H1 d μ1 g r1 q1 => ?_⟩
  cases r1 with
  | str z => exact .inl ⟨z, rfl, k F1 H1 _ _ μ1 _ g its_ok q1⟩
  | lst f e rs => exact .inr ⟨_, rfl, .inl ⟨⟨_, SqL.of e⟩, k F1 H1 _ _ μ1 _ g (itl_ok fun F2 H2 μ2 g2 _ => lst_at (.lst f e rs) g2) q1⟩⟩
  | scr f rs => exact .inr ⟨_, rfl, .inl ⟨⟨_, f.sq⟩, k F1 H1 _ _ μ1 _ g (itl_ok fun F2 H2 μ2 g2 _ => scr_at (.scr f rs) g2) q1⟩⟩
  | tup f e rs => exact .inr ⟨_, rfl, .inr (.inl ⟨⟨_, SqT.of e⟩, k F1 H1 _ _ μ1 _ g (itt_ok fun F2 H2 μ2 g2 _ => tup_at (.tup f e rs) g2) q1⟩)⟩
  | etp p i t => exact .inr ⟨_, rfl, .inr (.inl ⟨⟨[], .inr t⟩, k F1 H1 _ _ μ1 _ g (itt_ok fun F2 H2 μ2 g2 _ => ⟨[], .inr t, .nil⟩) q1⟩)⟩
  | @dct kvs ks a f e rs =>
    refine .inr ⟨a, rfl, .inr (.inr ?_)⟩
    rcases e with e | ⟨od, e⟩
    · refine .inl ⟨ks, e, fun od => ?_⟩
      have g2 := g.sim.lockS (od := od) f e
      exact k F1 _ _ _ μ1 _ (g.trans g2) (itk_ok f upd_same (rs.st g2)) q1
    · exact .inr ⟨od, ks, e, k F1 H1 _ _ μ1 _ g (itk_ok f e rs) q1⟩
  | ref a =>
    obtain ⟨xs, em, q1⟩ := q1
    refine .inr ⟨a, rfl, .inl ⟨?_, k F1 H1 _ _ μ1 _ g (itl_ok fun F2 H2 μ2 g2 hp => ?_) q1⟩⟩
    · obtain ⟨_, vs, e3, rs⟩ := g.sim.obj _ _ em
      exact ⟨vs, SqL.of e3⟩
    · obtain ⟨_, vs, e3, rs⟩ := g2.sim.obj _ _ hp
      exact ⟨vs, SqL.of e3, rs⟩
  | _ => exact (show False from q1).elim
def enumD (ds : List D) : List D := (List.range ds.length).zipWith (fun i d => .tup [.int (i : Nat), d]) ds
def enmI (R : List D → (Mu → Prop) → Mu → Prop) (μ1 : Mu) : List D → Prop
  | [.lst xs] => R (enumD xs) (fun _ => True) μ1
  | [.scr xs] => R (enumD xs) (fun _ => True) μ1
  | [.ref a] => ∃ xs, μ1 a = some (.lst xs) ∧ R (enumD xs) (fun μ => μ a = some (.lst xs)) μ1
  | _ => False
def iEnm (ta : TA3) : TI3 := fun δ μ R => ta δ μ fun ds μ1 => enmI R μ1 ds
theorem enum_len (ds : List D) : (enumD ds).length = ds.length := by simp [enumD]
theorem enum_get {ds : List D} {i : Nat} {d : D} (h : ds[i]? = some d) : (enumD ds)[i]? = some (.tup [.int (i : Nat), d]) := by
  have hi : i < ds.length := (List.getElem?_eq_some_iff.mp h).1
  unfold enumD
  rw [List.getElem?_zipWith, List.getElem?_range hi, h]
theorem ite_ok {F : Addr → Prop} {H : Hp} {μ : Mu} {ds : List D} {Pm : Mu → Prop} {a : Addr} (h : ∀ F1 H1 μ1, Step Z F H μ F1 H1 μ1 → Pm μ1 → ∃ vs, SqL X.K H1 a vs ∧ Rps X.kn F1 H1 ds vs) : ItOk Z F H μ (enumD ds) Pm (Ite X.K a) := by
  refine ⟨fun F1 H1 μ1 i g hp hi => ?_, fun F1 H1 μ1 g hp => ?_, fun F1 H1 μ1 i x H2 g hp hy hi => ?_⟩
  · obtain ⟨vs, sq, rs⟩ := h F1 H1 μ1 g hp
    rw [enum_len] at hi
    obtain ⟨v, ev, _⟩ := rs.get (List.getElem?_eq_getElem hi)
    exact ⟨vs, v, sq, ev⟩
  · obtain ⟨vs, sq, rs⟩ := h F1 H1 μ1 g hp
    exact ⟨vs, sq, by rw [enum_len, rs.length]; exact Nat.le_refl _⟩
  · obtain ⟨vs, sq, rs⟩ := h F1 H1 μ1 g hp
    obtain ⟨T, y, rfl, nT, rfl, hy⟩ := hy
    obtain ⟨d, ed, rd⟩ := rs.back (hy vs sq)
    have g2 := g.sim.frzS (o := .tup [.int (i : Nat), y]) nT
    exact ⟨_, _, g2, enum_get ed, .tup (.inr rfl) upd_same (.cons (.int _) (.cons (rd.st g2) .nil))⟩
theorem i_enum {elts : List Expr} {kk : Nat} {tpos : Pos} (hm : X.mg "enumerate" = none) (ha : A3 X Z [e] tr) (hg : Gl X "enumerate" := by rfl) (hs : starEach [e] X.env = [(false, eval e X.env)] := by rfl) : I3 X Z (.Tuple elts kk tpos) (.Call (.Name "enumerate" p) [e] [] pos) (iEnm tr) := (pi_enum hg hm ha hs).imp fun σ H R3 h => by
  obtain ⟨F, δ, μ, R, s, sl, h, k⟩ := h
  refine ⟨F, δ, μ, _, s, sl, h, fun F1 vs H1 ds μ1 g r1 q1 => ?_⟩
  cases r1 with
  | nil => exact q1.elim
  | cons r t =>
  cases t with
  | cons _ _ => cases r <;> exact (show False from q1).elim
  | nil =>
  cases r with
  | lst f e rs => exact ⟨_, _, rfl, SqL.of e, k F1 H1 _ _ μ1 _ g (ite_ok fun F2 H2 μ2 g2 _ => lst_at (.lst f e rs) g2) q1⟩
  | scr f rs => exact ⟨_, _, rfl, f.sq, k F1 H1 _ _ μ1 _ g (ite_ok fun F2 H2 μ2 g2 _ => scr_at (.scr f rs) g2) q1⟩
  | ref a =>
    obtain ⟨xs, em, q1⟩ := q1
    obtain ⟨_, vs, e3, rs⟩ := g.sim.obj _ _ em
    refine ⟨a, vs, rfl, SqL.of e3, k F1 H1 _ _ μ1 _ g (ite_ok fun F2 H2 μ2 g2 hp => ?_) q1⟩
    obtain ⟨_, vs, e3, rs⟩ := g2.sim.obj _ _ hp
    exact ⟨vs, SqL.of e3, rs⟩
  | _ => exact (show False from q1).elim
def rgC (lo c : Int) (n : Nat) : List D := (List.range n).map fun i => .int (lo + (i : Nat) * c)
def iRgD (ta : TA3) : TI3 := fun δ μ R => ta δ μ fun ds μ1 => match ds with
  | [.int i, .int j, .int c] => c = -1 ∧ (-(2 ^ 62) ≤ i ∧ i < 2 ^ 62 ∧ -(2 ^ 62) ≤ j ∧ j < 2 ^ 62) ∧ R (rgC i (-1) (i - j).toNat) (fun _ => True) μ1
  | _ => False
def vStar (te : TE3) (tr : TA3) : TA3 := fun δ μ R => te δ μ fun x μ1 => ∃ xs, seqOf μ1 x = some xs ∧ tr δ μ1 fun ds μ2 => R (xs ++ ds) μ2
theorem a_star (he : E3 X Z e te) (hr : A3 X Z es tr) (hs : starEach (.Starred e p :: es) X.env = (true, eval e X.env) :: starEach es X.env := by rfl) : A3 X Z (.Starred e p :: es) (vStar te tr) := (StX.pa_star he hr hs).imp fun σ H Q h => by
  obtain ⟨F, δ, μ, R, s, sl, h, k⟩ := h
  refine ⟨F, δ, μ, _, s, sl, h, fun F1 v H1 d μ1 g r1 q1 => ?_⟩
  obtain ⟨xs, e1, q1⟩ := q1
  obtain ⟨p, vs, rfl, sq, rs⟩ := seq_of g.sim r1 e1
  refine ⟨p, vs, rfl, sq.symm, F1, δ, μ1, _, g.sim, sl.st g, q1, fun F2 us H2 ds μ2 g2 r2 q2 => ?_⟩
  exact k F2 _ H2 _ μ2 (g.trans g2) ((rs.st g2).append r2) q2
end
end L3
namespace L3
open PySem PySem.Spec PyProof.Rows L2
def GU (X : Cx) (scope : Scope) (tg : Expr) (g : TG3) (vs : List Nat) : Prop := ∃ g2, (∀ (s : Shared) (H : Hp) (C : Addr) (cl : List (Str × Addr)) (fp : List Addr), PG (X.blk s H scope (compEnvC scope cl C X.env) fp) tg g2) ∧ TgL X.kn g2 g vs
def GsU (X : Cx) (scope : Scope) (ts : List Expr) (gs : List TG3) (vs : List Nat) : Prop := ∃ g2, (∀ (s : Shared) (H : Hp) (C : Addr) (cl : List (Str × Addr)) (fp : List Addr), PGs (X.blk s H scope (compEnvC scope cl C X.env) fp) ts g2) ∧ TgsL X.kn g2 gs vs
section
variable {X : Cx} {Z : Zn X.kn} {scope : Scope} {tg : Expr} {ts : List Expr} {x : Str} {pos : Pos} {g : TG3} {gs : List TG3} {vs ws : List Nat}
theorem u_name (i : Nat) (h : ∀ (s : Shared) (H : Hp) (C : Addr) (cl : List (Str × Addr)) (fp : List Addr), PG (X.blk s H scope (compEnvC scope cl C X.env) fp) (.Name x pos) (gName i)) : GU X scope (.Name x pos) (gN i) [i] := ⟨gName i, h, tg_name i⟩
theorem us_nil : GsU X scope [] [] [] := ⟨gNil, fun _ _ _ _ _ => pgs_nil, ⟨fun F H σ δ δ' ds us Q sl r e k => by
  cases r with
  | nil => cases e; exact ⟨rfl, k σ (fun _ _ => rfl) sl⟩
  | cons h t => cases e⟩⟩
theorem us_cons (h1 : GU X scope tg g vs) (h2 : GsU X scope ts gs ws)
    (hs : ∀ (s : Shared) (H : Hp) (C : Addr) (cl : List (Str × Addr)) (fp : List Addr), (assignEach (tg :: ts) (X.blk s H scope (compEnvC scope cl C X.env) fp).env).map (·.2) = assign tg (X.blk s H scope (compEnvC scope cl C X.env) fp).env :: (assignEach ts (X.blk s H scope (compEnvC scope cl C X.env) fp).env).map (·.2) := by intros; rfl) : GsU X scope (tg :: ts) (g :: gs) (vs ++ ws) := by
  obtain ⟨a, ha, la⟩ := h1
  obtain ⟨b, hb, lb⟩ := h2
  refine ⟨gCons a b, fun s H C cl fp => pgs_cons (ha s H C cl fp) (hb s H C cl fp) (hs s H C cl fp), ⟨fun F H σ δ δ' ds us Q sl r e k => ?_⟩⟩
  cases r with
  | nil => cases e
  | @cons d v ds vs2 h t =>
    have e' : (g d δ).bind (fun δ'' => gGo gs ds δ'') = some δ' := e
    cases q : g d δ with
    | none => rw [q] at e'; cases e'
    | some δ1 =>
      rw [q] at e'
      refine ⟨v, vs2, rfl, ?_⟩
      refine la.run F H σ δ δ1 d v _ sl h q fun σ1 w1 sl1 => ?_
      exact lb.run F H σ1 δ1 δ' ds vs2 _ sl1 t e' fun σ2 w2 sl2 => k σ2 (fun us hu => (w2 us fun i hi => hu i (List.mem_append_right _ hi)).trans (w1 us fun i hi => hu i (List.mem_append_left _ hi))) sl2
theorem u_tup {n m : Nat} (hc : X.calm = true) (h : GsU X scope ts gs vs) (hm : gs.length = m := by rfl)
    (hn : ∀ (s : Shared) (H : Hp) (C : Addr) (cl : List (Str × Addr)) (fp : List Addr), (assignEach ts (X.blk s H scope (compEnvC scope cl C X.env) fp).env).length = m := by intros; rfl)
    (hst : ∀ (s : Shared) (H : Hp) (C : Addr) (cl : List (Str × Addr)) (fp : List Addr), (assignEach ts (X.blk s H scope (compEnvC scope cl C X.env) fp).env).findIdx? (·.1) = none := by intros; rfl) : GU X scope (.Tuple ts n pos) (gT gs) vs := by
  obtain ⟨a, ha, la⟩ := h
  exact ⟨_, fun s H C cl fp => (pg_tup (X := X.blk s H scope (compEnvC scope cl C X.env) fp) hc (ha s H C cl fp) (hn s H C cl fp) (hst s H C cl fp)).or (pg_lst (X := X.blk s H scope (compEnvC scope cl C X.env) fp) hc (ha s H C cl fp) (hn s H C cl fp) (hst s H C cl fp)), tl_tup la hm⟩
variable {elt iter kx vx : Expr} {ifs : List Expr} {own : List (Str × Nat)} {wi : TI3} {tt : TT3} {te tk tv : TE3} {j : Nat} {y : Str} {py spos : Pos}
theorem e_lcG (hc : X.calm = true) (hN : X.N.Nodup) (hi : I3 X Z tg iter wi) (ok : BlkOk X.N X.env.scope scope own) (hg : GU X scope tg g vs) (hv : ∀ i ∈ vs, i ∈ own.map (·.2))
    (ht : ∀ (s : Shared) (H : Hp) (C : Addr) (cl : List (Str × Addr)) (fp : List Addr), Ts3 (X.blk s H scope (compEnvC scope cl C X.env) fp) Z ifs tt)
    (he : ∀ (s : Shared) (H : Hp) (C : Addr) (cl : List (Str × Addr)) (fp : List Addr), E3 (X.blk s H scope (compEnvC scope cl C X.env) fp) Z elt te)
    (hs : ∀ x, foldedSetIterable iter X.env x = pure x := by intro _; rfl) : E3 X Z (.ListComp elt [⟨tg, iter, ifs, 0⟩] scope pos) (vLc wi g tt te (own.map (·.2))) := by
  obtain ⟨g2, h2, lg⟩ := hg
  exact e_lc hc hN hi ok lg hv h2 ht he hs
theorem s_lcG (hc : X.calm = true) (hN : X.N.Nodup) (hi : I3 X Z tg iter wi) (ok : BlkOk X.N X.env.scope scope own) (hg : GU X scope tg g vs) (hv : ∀ i ∈ vs, i ∈ own.map (·.2))
    (ht : ∀ (s : Shared) (H : Hp) (C : Addr) (cl : List (Str × Addr)) (fp : List Addr), Ts3 (X.blk s H scope (compEnvC scope cl C X.env) fp) Z ifs tt)
    (he : ∀ (s : Shared) (H : Hp) (C : Addr) (cl : List (Str × Addr)) (fp : List Addr), E3 (X.blk s H scope (compEnvC scope cl C X.env) fp) Z elt te)
    (hsw : swapsWith (.ListComp elt [⟨tg, iter, ifs, 0⟩] scope pos) (some (.Name y py)) spos.line X.env = pure true) (hy : X.N[j]? = some y := by rfl) (hyl : X.env.scope.names.lookup y = some .local := by rfl)
    (hs : ∀ x, foldedSetIterable iter X.env x = pure x := by intro _; rfl) : S3 X Z (.Assign [.Name y py] (.ListComp elt [⟨tg, iter, ifs, 0⟩] scope pos) spos) (sSet j (vLc wi g tt te (own.map (·.2)))) := by
  obtain ⟨g2, h2, lg⟩ := hg
  exact s_setLc hc hN hi ok lg hv h2 ht he hsw hy hyl hs
def vLcT (wi : TI3) (g : TG3) (tt : TT3) (te : TE3) (vs : List Nat) : TE3 := fun δ μ R => wi δ μ fun ds Pm μ1 => lcW Pm g tt te (wipe3 δ vs) (fun out μ2 => ∀ q, μ2 q = none → R (.ref q) (mset μ2 q (.lst out))) ds [] μ1
theorem low_lcT {K : Kn} {Z : Zn K} {wi : TI3} {g : TG3} {g2 : TG} {tt : TT3} {te : TE3} {vs ws : List Nat} {σ : L2.St} {H : Hp} {Q : VK} (lg : TgL K g2 g vs) (hv : ∀ i ∈ vs, i ∈ ws) (h : low Z (vLcT wi g tt te ws) σ H Q) : tLc (lowI Z wi) g2 (lowT Z tt) (low Z te) ws σ H Q := by
  obtain ⟨F, δ, μ, R, s, sl, h, k⟩ := h
  refine ⟨F, δ, μ, _, s, sl, h, fun F0 H0 ds Pm μ0 J g0 it q0 Dl hD => ?_⟩
  have gD := g0.sim.newS (o := .lst []) hD
  refine ⟨fun i m H1 => ∃ F1 μ1 acc out, Step Z F0 H0 μ0 F1 H1 μ1 ∧ ¬ F1 Dl ∧ μ1 Dl = none ∧ H1 Dl = some (.lst acc) ∧ Rps K F1 H1 out acc ∧ m + i = ds.length ∧ lcW Pm g tt te (wipe3 δ ws) (fun out μ2 => ∀ q, μ2 q = none → R (.ref q) (mset μ2 q (.lst out))) (ds.drop i) out μ1,
    ⟨ds.length, F0, μ0, [], [], gD, ?_, g0.sim.free hD, upd_same, .nil, rfl, q0⟩, ?_⟩
  · intro f
    obtain ⟨u, hu⟩ := g0.sim.dom Dl f
    rw [hD] at hu
    cases hu
  rintro i m H1 ⟨F1, μ1, acc, out, g1, nF, nμ, eD, rs, em, h1⟩
  by_cases hi : i < ds.length
  · rw [List.drop_eq_getElem_cons hi] at h1
    obtain ⟨hP, hlen, h1⟩ := h1
    refine .inr ⟨it.go F1 H1 μ1 i g1 hP hi, fun H' => ∃ F1 μ1 acc out, Step Z F0 H0 μ0 F1 H' μ1 ∧ ¬ F1 Dl ∧ μ1 Dl = none ∧ H' Dl = some (.lst acc) ∧ Rps K F1 H' out acc ∧ lcW Pm g tt te (wipe3 δ ws) (fun out μ2 => ∀ q, μ2 q = none → R (.ref q) (mset μ2 q (.lst out))) (ds.drop (i + 1)) out μ1,
      fun H' ⟨F2, μ2, acc2, out2, a, b, c, d, e, f⟩ => ⟨m - 1, by omega, F2, μ2, acc2, out2, a, b, c, d, e, by omega, f⟩, fun x H2 hy => ?_⟩
    obtain ⟨F2, d, g2', ed, r2⟩ := it.yld F1 H1 μ1 i x H2 g1 hP hy hi
    rw [List.getElem?_eq_getElem hi] at ed
    obtain rfl := Option.some.inj ed
    have sw : Sl K F2 H2 (L2.wipe σ ws) (wipe3 δ ws) := (sl.st ((g0.trans g1).trans g2')).wipe ws
    split at h1
    · rename_i δ' eg
      refine lg.run F2 H2 (L2.wipe σ ws) (wipe3 δ ws) δ' _ x _ sw r2 eg fun σ' hw sl' => ?_
      refine ⟨(hw ws hv).trans (wipe_wipe σ ws), ?_⟩
      obtain ⟨n2, e2, f2⟩ := g2'.fm Dl _ eD nμ nF
      refine ⟨F2, δ', μ1, _, g2'.sim, sl', h1, fun F3 b H3 μ3 g3 q3 => ?_⟩
      obtain ⟨n3, e3, f3⟩ := g3.fm Dl _ e2 n2 f2
      cases b with
      | true =>
        refine ⟨F3, δ', μ3, _, g3.sim, sl'.st g3, q3, fun F4 y H4 dy μ4 g4 r4 q4 => ?_⟩
        obtain ⟨n4, e4, f4⟩ := g4.fm Dl _ e3 n3 f3
        have gs := ((g1.trans g2').trans g3).trans g4
        have gp := (gs.sim.raw.priv (o := .lst (acc ++ [y])) f4 n4).1
        exact ⟨acc, e4, by rw [← rs.length]; exact hlen, F4, μ4, acc ++ [y], out ++ [dy], gs.priv g0.sim hD f4 n4, f4, n4, upd_same, ((rs.st ((g2'.trans g3).trans g4)).append (.cons r4 .nil)).grow gp, q4⟩
      | false => exact ⟨F3, μ3, acc, out, (g1.trans g2').trans g3, f3, n3, e3, rs.st (g2'.trans g3), q3⟩
    · exact h1.elim
  · have e : i = ds.length := by omega
    subst e
    rw [List.drop_length] at h1
    refine .inl ⟨it.stop F1 H1 μ1 g1 h1.1, ?_⟩
    have gs := g1.trk1 (m := .lst out) g0.sim hD nF nμ ⟨acc, eD, rs⟩
    exact k _ (.ref Dl) H1 (.ref Dl) _ (g0.trans gs) (.ref Dl) (h1.2 Dl nμ)
theorem s_lcT (hc : X.calm = true) (hN : X.N.Nodup) (hi : I3 X Z tg iter wi) (ok : BlkOk X.N X.env.scope scope own) (hg : GU X scope tg g vs) (hv : ∀ i ∈ vs, i ∈ own.map (·.2))
    (ht : ∀ (s : Shared) (H : Hp) (C : Addr) (cl : List (Str × Addr)) (fp : List Addr), Ts3 (X.blk s H scope (compEnvC scope cl C X.env) fp) Z ifs tt)
    (he : ∀ (s : Shared) (H : Hp) (C : Addr) (cl : List (Str × Addr)) (fp : List Addr), E3 (X.blk s H scope (compEnvC scope cl C X.env) fp) Z elt te)
    (hsw : swapsWith (.ListComp elt [⟨tg, iter, ifs, 0⟩] scope pos) (some (.Name y py)) spos.line X.env = pure true) (hy : X.N[j]? = some y := by rfl) (hyl : X.env.scope.names.lookup y = some .local := by rfl)
    (hs : ∀ x, foldedSetIterable iter X.env x = pure x := by intro _; rfl) : S3 X Z (.Assign [.Name y py] (.ListComp elt [⟨tg, iter, ifs, 0⟩] scope pos) spos) (sSet j (vLcT wi g tt te (own.map (·.2)))) := by
  obtain ⟨g2, h2, lg⟩ := hg
  exact (ps_setLc (wi := lowI Z wi) (g := g2) (tt := lowT Z tt) (te := low Z te) hc hN hy hyl hsw hi ok h2 ht he hs).imp fun D σ H h => by
    obtain ⟨F, δ, μ, D3, s, sl, h, k⟩ := h
    exact low_lcT lg hv ⟨F, δ, μ, _, s, sl, h, fun F1 v H1 d μ1 g r1 q1 => k.nx F1 _ H1 _ μ1 g ((sl.st g).set j r1) q1⟩
def dic0 (nn : Bool) : Dic := if nn then .n [] else .k []
def dcW (Pm : Mu → Prop) (g : TG3) (tt : TT3) (tk tv : TE3) (δ : St3) (R : Dic → Mu → Prop) : List D → Dic → Mu → Prop
  | [], acc, μ => Pm μ ∧ R acc μ
  | d :: ds, acc, μ => Pm μ ∧ acc.length < sizeLine ∧ match g d δ with
    | some δ' => tt δ' μ fun b μ1 => if b = true then tk δ' μ1 fun y μ2 => tv δ' μ2 fun z μ3 => ∃ acc', acc.put y z = some acc' ∧ dcW Pm g tt tk tv δ R ds acc' μ3 else dcW Pm g tt tk tv δ R ds acc μ1
    | none => False
def vDc (nn tr : Bool) (wi : TI3) (g : TG3) (tt : TT3) (tk tv : TE3) (vs : List Nat) : TE3 := fun δ μ R => wi δ μ fun ds Pm μ1 => dcW Pm g tt tk tv (wipe3 δ vs) (fun out μ2 => if tr then ∀ q, μ2 q = none → R (.ref q) (mset μ2 q out.mo) else R out.fz μ2) ds (dic0 nn) μ1
def DicW (K : Kn) (F : Addr → Prop) (H : Hp) (a : Addr) : Dic → Prop
  | .k kvs => ∃ ks, H a = some (.dK ks) ∧ Rpk K F H kvs ks
  | .n kvs => ∃ ks, H a = some (dcnO K a ks) ∧ Rpn K F H kvs ks
theorem DicW.put {K : Kn} {F : Addr → Prop} {H : Hp} {a : Addr} {c c' : Dic} {i v : D} {vi vv : V} (h : DicW K F H a c) (hl : c.length < sizeLine) (e : c.put i v = some c') (ri : Rp K F H i vi) (rv : Rp K F H v vv) :
    ∃ o, DPx K H a vi vv (upd H a o) ∧ ∀ {F' : Addr → Prop} {H' : Hp}, Grow F H F' H' → H' a = some o → DicW K F' H' a c' := by
  cases c with
  | k kvs =>
    obtain ⟨q, eq, rfl⟩ := Option.map_eq_some_iff.mp (show (keyOf i).map (fun q => Dic.k (putD kvs q v)) = some c' from e)
    obtain ⟨ks, e3, rs⟩ := h
    obtain rfl := keyOf_ok ri eq
    exact ⟨_, .inl ⟨ks, q, e3, rfl, by rw [← rs.length]; exact hl, rfl⟩, fun g' e' => ⟨_, e', (rs.grow g').put (rv.grow g')⟩⟩
  | n kvs =>
    obtain ⟨q, eq, rfl⟩ := Option.map_eq_some_iff.mp (show (lkOf i).map (fun q => Dic.n (putN kvs q v)) = some c' from e)
    obtain ⟨ks, e3, rs⟩ := h
    obtain ⟨b, rfl, fb, eb⟩ := lk_ok ri eq
    exact ⟨_, .inr ⟨ks, q, b, e3, rs.keysX, rfl, eb, by rw [← rs.length]; exact hl, rfl⟩, fun g' e' => ⟨_, e', (rs.grow g').put (g'.mono _ fb) (g'.fix _ _ fb rfl eb) (rv.grow g')⟩⟩
theorem DicW.grow {K : Kn} {F F' : Addr → Prop} {H H' : Hp} {a : Addr} {c : Dic} (h : DicW K F H a c) (g : Grow F H F' H') (e : H' a = H a) : DicW K F' H' a c := by
  cases c with
  | k kvs => obtain ⟨ks, e3, rs⟩ := h; exact ⟨ks, by rw [e]; exact e3, rs.grow g⟩
  | n kvs => obtain ⟨ks, e3, rs⟩ := h; exact ⟨ks, by rw [e]; exact e3, rs.grow g⟩
theorem DicW.some {K : Kn} {F : Addr → Prop} {H : Hp} {a : Addr} {c : Dic} (h : DicW K F H a c) : ∃ o, H a = some o := by
  cases c with
  | k kvs => obtain ⟨ks, e3, rs⟩ := h; exact ⟨_, e3⟩
  | n kvs => obtain ⟨ks, e3, rs⟩ := h; exact ⟨_, e3⟩
theorem low_dc {K : Kn} {Z : Zn K} {nn tr : Bool} {wi : TI3} {g : TG3} {g2 : TG} {tt : TT3} {tk tv : TE3} {vs ws : List Nat} {σ : L2.St} {H : Hp} {Q : VK} (lg : TgL K g2 g vs) (hv : ∀ i ∈ vs, i ∈ ws) (h : low Z (vDc nn tr wi g tt tk tv ws) σ H Q) : tDcX K nn (lowI Z wi) g2 (lowT Z tt) (low Z tk) (low Z tv) ws σ H Q := by
  obtain ⟨F, δ, μ, R, s, sl, h, k⟩ := h
  refine ⟨F, δ, μ, _, s, sl, h, fun F0 H0 ds Pm μ0 J g0 it q0 Dl hD => ?_⟩
  have gD := g0.sim.newS (o := hoE K nn Dl) hD
  refine ⟨fun i m H1 => ∃ F1 μ1 out, Step Z F0 H0 μ0 F1 H1 μ1 ∧ ¬ F1 Dl ∧ μ1 Dl = none ∧ DicW K F1 H1 Dl out ∧ m + i = ds.length ∧ dcW Pm g tt tk tv (wipe3 δ ws) (fun out μ2 => if tr then ∀ q, μ2 q = none → R (.ref q) (mset μ2 q out.mo) else R out.fz μ2) (ds.drop i) out μ1,
    ⟨ds.length, F0, μ0, dic0 nn, gD, ?_, g0.sim.free hD, ?_, rfl, q0⟩, ?_⟩
  · intro f
    obtain ⟨u, hu⟩ := g0.sim.dom Dl f
    rw [hD] at hu
    cases hu
  · cases nn with
    | true => exact ⟨[], upd_same, .nil⟩
    | false => exact ⟨[], upd_same, .nil⟩
  rintro i m H1 ⟨F1, μ1, out, g1, nF, nμ, dw, em, h1⟩
  by_cases hi : i < ds.length
  · rw [List.drop_eq_getElem_cons hi] at h1
    obtain ⟨hP, hlen, h1⟩ := h1
    refine .inr ⟨it.go F1 H1 μ1 i g1 hP hi, fun H' => ∃ F1 μ1 out, Step Z F0 H0 μ0 F1 H' μ1 ∧ ¬ F1 Dl ∧ μ1 Dl = none ∧ DicW K F1 H' Dl out ∧ dcW Pm g tt tk tv (wipe3 δ ws) (fun out μ2 => if tr then ∀ q, μ2 q = none → R (.ref q) (mset μ2 q out.mo) else R out.fz μ2) (ds.drop (i + 1)) out μ1,
      fun H' ⟨F2, μ2, out2, a, b, c, d, f⟩ => ⟨m - 1, by omega, F2, μ2, out2, a, b, c, d, by omega, f⟩, fun x H2 hy => ?_⟩
    obtain ⟨F2, d, g2', ed, r2⟩ := it.yld F1 H1 μ1 i x H2 g1 hP hy hi
    rw [List.getElem?_eq_getElem hi] at ed
    obtain rfl := Option.some.inj ed
    have sw : Sl K F2 H2 (L2.wipe σ ws) (wipe3 δ ws) := (sl.st ((g0.trans g1).trans g2')).wipe ws
    obtain ⟨oD, eD⟩ := dw.some
    split at h1
    · rename_i δ' eg
      refine lg.run F2 H2 (L2.wipe σ ws) (wipe3 δ ws) δ' _ x _ sw r2 eg fun σ' hw sl' => ?_
      refine ⟨(hw ws hv).trans (wipe_wipe σ ws), ?_⟩
      obtain ⟨n2, e2, f2⟩ := g2'.fm Dl _ eD nμ nF
      refine ⟨F2, δ', μ1, _, g2'.sim, sl', h1, fun F3 b H3 μ3 g3 q3 => ?_⟩
      obtain ⟨n3, e3, f3⟩ := g3.fm Dl _ e2 n2 f2
      cases b with
      | true =>
        refine ⟨F3, δ', μ3, _, g3.sim, sl'.st g3, q3, fun F4 y H4 dy μ4 g4 r4 q4 => ?_⟩
        obtain ⟨n4, e4, f4⟩ := g4.fm Dl _ e3 n3 f3
        refine ⟨F4, δ', μ4, _, g4.sim, sl'.st (g3.trans g4), q4, fun F5 z H5 dz μ5 g5 r5 q5 => ?_⟩
        obtain ⟨n5, e5, f5⟩ := g5.fm Dl _ e4 n4 f4
        obtain ⟨acc', ea, q5⟩ := q5
        have gm := ((g2'.trans g3).trans g4).trans g5
        have dw5 : DicW K F5 H5 Dl out := dw.grow gm.grow (e5.trans eD.symm)
        obtain ⟨o, dp, dn⟩ := dw5.put hlen ea (r4.st g5) r5
        have gp := (gm.sim.raw.priv (o := o) f5 n5).1
        exact ⟨_, dp, F5, μ5, acc', (g1.trans gm).priv g0.sim hD f5 n5, f5, n5, dn gp upd_same, q5⟩
      | false => exact ⟨F3, μ3, out, (g1.trans g2').trans g3, f3, n3, dw.grow (g2'.trans g3).grow (e3.trans eD.symm), q3⟩
    · exact h1.elim
  · have e : i = ds.length := by omega
    subst e
    rw [List.drop_length] at h1
    refine .inl ⟨it.stop F1 H1 μ1 g1 h1.1, ?_⟩
    obtain ⟨oD, eD⟩ := dw.some
    have h2 := h1.2
    cases tr with
    | true =>
      have mo : MoOk K F1 H1 Dl out.mo := by
        cases out with
        | k kvs => obtain ⟨ks, e3, rs⟩ := dw; exact ⟨ks, e3, rs⟩
        | n kvs => obtain ⟨ks, e3, rs⟩ := dw; exact ⟨ks, e3, rs⟩
      have gs := g1.trk1 (m := out.mo) g0.sim hD nF nμ mo
      exact k _ (.ref Dl) H1 (.ref Dl) _ (g0.trans gs) (.ref Dl) (h2 Dl nμ)
    | false =>
      have gs := g1.shut (o := oD) g0.sim hD nμ eD
      have gg : Grow F1 H1 (fun a => F1 a ∨ a = Dl) H1 := ⟨fun _ h => .inl h, fun _ _ _ h => h, fun _ _ _ _ h => h⟩
      refine k _ (.ref Dl) H1 out.fz μ1 (g0.trans gs) ?_ h2
      cases out with
      | k kvs => obtain ⟨ks, e3, rs⟩ := dw; exact .dct (.inr rfl) (.inl e3) (rs.grow gg)
      | n kvs => obtain ⟨ks, e3, rs⟩ := dw; exact .dcn (.inr rfl) e3 (rs.grow gg)
theorem e_dc {nn tr : Bool} {n : Nat} (hr : RoomG n X.A) (hc : X.calm = true) (hN : X.N.Nodup) (hi : I3 X Z tg iter wi) (ok : BlkOk X.N X.env.scope scope own) (hg : GU X scope tg g vs) (hv : ∀ i ∈ vs, i ∈ own.map (·.2))
    (ht : ∀ (s : Shared) (H : Hp) (C : Addr) (cl : List (Str × Addr)) (fp : List Addr), Ts3 (X.blk s H scope (compEnvC scope cl C X.env) fp) Z ifs tt)
    (hk : ∀ (s : Shared) (H : Hp) (C : Addr) (cl : List (Str × Addr)) (fp : List Addr), E3 (X.blk s H scope (compEnvC scope cl C X.env) fp) Z kx tk)
    (he : ∀ (s : Shared) (H : Hp) (C : Addr) (cl : List (Str × Addr)) (fp : List Addr), E3 (X.blk s H scope (compEnvC scope cl C X.env) fp) Z vx tv)
    (hs : ∀ x, foldedSetIterable iter X.env x = pure x := by intro _; rfl) : E3 X Z (.DictComp kx vx [⟨tg, iter, ifs, 0⟩] scope pos) (vDc nn tr wi g tt tk tv (own.map (·.2))) := by
  obtain ⟨g2, h2, lg⟩ := hg
  exact (pe_dcX (nn := nn) (wi := lowI Z wi) (g := g2) (tt := lowT Z tt) (tk := low Z tk) (tv := low Z tv) (by have := hr.rm.un; omega) hc hN hi ok h2 ht hk he hs).imp fun σ H Q h => low_dc lg hv h
theorem s_dc {nn tr : Bool} {n : Nat} (hr : RoomG n X.A) (hc : X.calm = true) (hN : X.N.Nodup) (hi : I3 X Z tg iter wi) (ok : BlkOk X.N X.env.scope scope own) (hg : GU X scope tg g vs) (hv : ∀ i ∈ vs, i ∈ own.map (·.2))
    (ht : ∀ (s : Shared) (H : Hp) (C : Addr) (cl : List (Str × Addr)) (fp : List Addr), Ts3 (X.blk s H scope (compEnvC scope cl C X.env) fp) Z ifs tt)
    (hk : ∀ (s : Shared) (H : Hp) (C : Addr) (cl : List (Str × Addr)) (fp : List Addr), E3 (X.blk s H scope (compEnvC scope cl C X.env) fp) Z kx tk)
    (he : ∀ (s : Shared) (H : Hp) (C : Addr) (cl : List (Str × Addr)) (fp : List Addr), E3 (X.blk s H scope (compEnvC scope cl C X.env) fp) Z vx tv)
    (hsw : swapsWith (.DictComp kx vx [⟨tg, iter, ifs, 0⟩] scope pos) (some (.Name y py)) spos.line X.env = pure true) (hy : X.N[j]? = some y := by rfl) (hyl : X.env.scope.names.lookup y = some .local := by rfl)
    (hs : ∀ x, foldedSetIterable iter X.env x = pure x := by intro _; rfl) : S3 X Z (.Assign [.Name y py] (.DictComp kx vx [⟨tg, iter, ifs, 0⟩] scope pos) spos) (sSet j (vDc nn tr wi g tt tk tv (own.map (·.2)))) := by
  obtain ⟨g2, h2, lg⟩ := hg
  exact (ps_setDcX (nn := nn) (wi := lowI Z wi) (g := g2) (tt := lowT Z tt) (tk := low Z tk) (tv := low Z tv) (by have := hr.rm.un; omega) hc hN hy hyl hsw hi ok h2 ht hk he hs).imp fun D σ H h => by
    obtain ⟨F, δ, μ, D3, s, sl, h, k⟩ := h
    exact low_dc lg hv ⟨F, δ, μ, _, s, sl, h, fun F1 v H1 d μ1 g r1 q1 => k.nx F1 _ H1 _ μ1 g ((sl.st g).set j r1) q1⟩
end
end L3
namespace L3
open PySem PySem.Spec PyProof.Rows L2
section
variable {X : Cx} {Z : Zn X.kn} {e a b c o : Expr} {es : List Expr} {te ta tb tc to : TE3} {tr : TA3} {pos p apos cpos : Pos} {x y z : Str} {i j l : Nat}
def sPar2 (i j : Nat) (ta : TA3) : TS3 := fun D δ μ => ta δ μ fun ds μ1 => match ds with
  | [v, w] => D.nx ((δ.set i (some v)).set j (some w)) μ1
  | _ => False
theorem s_par2 {px py pt : Pos} {kt k2 pt2} (hc : X.calm = true) (hN : X.N.Nodup) (ha : A3 X Z [a, b] tr) (hij : i ≠ j := by decide) (hi : X.N[i]? = some x := by rfl) (hj : X.N[j]? = some y := by rfl)
    (hx : X.env.scope.names.lookup x = some .local := by rfl) (hy : X.env.scope.names.lookup y = some .local := by rfl)
    (hw : swappedStores [.Tuple [.Name x px, .Name y py] kt pt] (.Tuple [a, b] k2 pt2) X.env = pure (some [x, y]) := by rfl)
    (hs : swapsWithSole [.Tuple [.Name x px, .Name y py] kt pt] (.Tuple [a, b] k2 pt2) pos.line X.env = pure false := by rfl) :
    S3 X Z (.Assign [.Tuple [.Name x px, .Name y py] kt pt] (.Tuple [a, b] k2 pt2) pos) (sPar2 i j tr) := (ps_par hc hN hi hj hij hx hy ha hw hs).imp fun D σ H h => by
  obtain ⟨F, δ, μ, D3, s, sl, h, k⟩ := h
  refine ⟨F, δ, μ, _, s, sl, h, fun F1 vs H1 ds μ1 g r1 q1 => ?_⟩
  split at q1
  · cases r1 with
    | cons r1 t => cases t with
      | cons r2 t =>
        cases t
        exact ⟨_, _, rfl, k.nx F1 _ H1 _ μ1 g (((sl.st g).set i r1).set j r2) q1⟩
  · exact q1.elim
def sPar3 (i j l : Nat) (ta : TA3) : TS3 := fun D δ μ => ta δ μ fun ds μ1 => match ds with
  | [u, v, w] => D.nx (((δ.set i (some u)).set j (some v)).set l (some w)) μ1
  | _ => False
theorem s_par3 {px py pz pt : Pos} {kt k2 pt2} (hc : X.calm = true) (hN : X.N.Nodup) (ha : A3 X Z [a, b, c] tr) (hij : i ≠ j := by decide) (hil : i ≠ l := by decide) (hjl : j ≠ l := by decide) (hi : X.N[i]? = some x := by rfl) (hj : X.N[j]? = some y := by rfl) (hl : X.N[l]? = some z := by rfl)
    (hx : X.env.scope.names.lookup x = some .local := by rfl) (hy : X.env.scope.names.lookup y = some .local := by rfl) (hz : X.env.scope.names.lookup z = some .local := by rfl)
    (hw : swappedStores [.Tuple [.Name x px, .Name y py, .Name z pz] kt pt] (.Tuple [a, b, c] k2 pt2) X.env = pure (some [x, y, z]) := by rfl)
    (hs : swapsWithSole [.Tuple [.Name x px, .Name y py, .Name z pz] kt pt] (.Tuple [a, b, c] k2 pt2) pos.line X.env = pure false := by rfl) :
    S3 X Z (.Assign [.Tuple [.Name x px, .Name y py, .Name z pz] kt pt] (.Tuple [a, b, c] k2 pt2) pos) (sPar3 i j l tr) := (ps_par3 hc hN hi hj hl hij hil hjl hx hy hz ha hw hs).imp fun D σ H h => by
  obtain ⟨F, δ, μ, D3, s, sl, h, k⟩ := h
  refine ⟨F, δ, μ, _, s, sl, h, fun F1 vs H1 ds μ1 g r1 q1 => ?_⟩
  split at q1
  · cases r1 with
    | cons r1 t => cases t with
      | cons r2 t => cases t with
        | cons r3 t =>
          cases t
          exact ⟨_, _, _, rfl, k.nx F1 _ H1 _ μ1 g ((((sl.st g).set i r1).set j r2).set l r3) q1⟩
  · exact q1.elim
def gIAdd : G2 := fun x y μ R => match x, y with
  | .int i, .int j => R (.int (i + j)) μ
  | .ref a, y => ∃ xs ys, μ a = some (.lst xs) ∧ lstOf μ y = some ys ∧ xs.length + ys.length ≤ sizeLine ∧ R (.ref a) (mset μ a (.lst (xs ++ ys)))
  | _, _ => False
theorem ip_iadd : IpL X Z .Add gIAdd := by
  refine ⟨fun x y H Q => (rI0 fun i j => .int (i + j)) x y H Q ∨ rExt2 x y H Q, fun pins s σ H x y v u Q I rx ry q => ?_, fun F H μ x y vx vy R Q s rx ry q k => ?_⟩
  · rcases q with q | q
    · exact iop_add pins s σ H x y v u Q I rx ry q
    · exact iop_ext pins s σ H x y v u Q I rx ry q
  · unfold gIAdd at q
    split at q
    · cases rx; cases ry
      exact .inl ⟨_, _, rfl, rfl, k F _ H _ μ (Step.refl s) (.int _) q⟩
    · obtain ⟨xs, ys, e1, e2, hz, q⟩ := q
      cases rx
      obtain ⟨_, us, e3, rr⟩ := s.obj _ _ e1
      obtain ⟨p, ws, rfl, e4, r4⟩ := lst_of s ry e2
      have g := s.putS (o := .lst (us ++ ws)) (m := .lst (xs ++ ys)) e1 fun g' e' => ⟨_, e', (rr.grow g').append (r4.grow g')⟩
      exact .inr ⟨_, p, us, ws, rfl, rfl, e3, e4, by rw [← rr.length, ← r4.length]; exact hz, k _ _ _ _ _ g (.ref _) q⟩
    · exact q.elim
def gPopAt : GM := fun x ds μ R => ∃ a xs i k d, x = .ref a ∧ ds = [.int i] ∧ μ a = some (.lst xs) ∧ -(2 ^ 63) ≤ i ∧ i < 2 ^ 63 ∧ seqIndex? i xs.length = some k ∧ xs[k]? = some d ∧ R d (mset μ a (.lst (xs.eraseIdx k)))
theorem Rps.erase {K : Kn} {F : Addr → Prop} {H : Hp} : ∀ {ds : List D} {vs : List V} (i : Nat), Rps K F H ds vs → Rps K F H (ds.eraseIdx i) (vs.eraseIdx i)
  | _, _, _, .nil => .nil
  | _, _, 0, .cons _ t => t
  | _, _, i + 1, .cons q t => .cons q (Rps.erase i t)
theorem m_popAt : MtL X Z "list.pop" "list" gPopAt := ⟨_, mt_popAt, fun F H μ x ds vx vs R Q s rx rs q k => by
  obtain ⟨a, xs, i, n, d, rfl, rfl, e, h1, h2, h3, hd, q⟩ := q
  obtain ⟨v, rfl, r⟩ := one_of rs
  cases r
  cases rx
  obtain ⟨_, us, e3, rr⟩ := s.obj _ _ e
  obtain ⟨v, ev, r⟩ := rr.get hd
  refine ⟨a, us, i, n, v, rfl, rfl, e3, h1, h2, by rw [← rr.length]; exact h3, ev, ?_⟩
  have g := s.putS (o := .lst (us.eraseIdx n)) (m := .lst (xs.eraseIdx n)) e fun g' e' => ⟨_, e', (rr.grow g').erase n⟩
  exact k _ _ _ _ _ g (r.st g) q⟩
def idxD (x : D) (xs : List D) : Option Nat := xs.findIdx? fun y => eqD y x
def gIdx : GM := fun x ds μ R => ∃ y ys j, ds = [y] ∧ rdL μ x = some ys ∧ flatD y = true ∧ ys.all flatD = true ∧ idxD y ys = some j ∧ R (.int (j : Nat)) μ
theorem m_index : MtL X Z "list.index" "list" gIdx := ⟨_, mt_index, fun F H μ x ds vx vs R Q s rx rs q k => by
  obtain ⟨y, ys, j, rfl, e, h1, h2, h3, q⟩ := q
  obtain ⟨v, rfl, r⟩ := one_of rs
  obtain ⟨p, us, rfl, sq, rr⟩ := rdl_of s rx e
  unfold idxD at h3
  rw [List.findIdx?_eq_some_iff_getElem] at h3
  obtain ⟨hj, e1, e2⟩ := h3
  obtain ⟨w, ew, rw'⟩ := rr.get (List.getElem?_eq_getElem hj)
  have fl := List.all_eq_true.mp h2
  refine ⟨p, us, v, j, w, rfl, rfl, sq, flat_ok r h1, flats_ok rr h2, ew, by rw [eqV_ok rw' r (fl _ (List.getElem_mem hj)) h1]; exact e1, fun m z' hm ez => ?_, k F _ H _ μ (Step.refl s) (.int _) q⟩
  obtain ⟨d, ed, rd⟩ := rr.back ez
  have hl : m < ys.length := (List.getElem?_eq_some_iff.mp ed).1
  have hd : ys[m] = d := (List.getElem?_eq_some_iff.mp ed).2
  have := e2 m hm
  rw [eqV_ok rd r (by rw [← hd]; exact fl _ (List.getElem_mem hl)) h1, ← hd]
  simpa using this⟩
def gDict (trk : Bool) : GA := fun ds μ R => ∃ x kvs, ds = [x] ∧ (dctOf μ x = some kvs ∨ ∃ ps, rdL μ x = some (ps.map pairD) ∧ kvs = mergeD [] ps) ∧ (if trk then ∀ q, μ q = none → R (.ref q) (mset μ q (.dct kvs)) else R (.dct kvs) μ)
theorem call_dict_any (hc : X.calm = true) : CallR X (.type "dict") (fun xs H Q => (∃ a kvs, xs = [.ref a] ∧ Rd H a (.dK kvs) ∧ ∀ p, H p = none → Q (.ref p) (upd H p (.dK kvs))) ∨
    ∃ (a : Addr) (ps : List Addr) (kvs : List (Key × V)), xs = [.ref a] ∧ SqL X.K H a (ps.map V.ref) ∧ Paired (fun p kv => SqT X.K H p [kV kv.1, kv.2]) ps kvs ∧ ∀ p, H p = none → Q (.ref p) (upd H p (.dK (mergeK [] kvs)))) := by
  intro pins s σ H xs us Q I rs q
  rcases q with ⟨a, kvs, rfl, e, q⟩ | q
  · obtain ⟨u, rfl, ru⟩ := vals1 rs
    obtain rfl : u = Value.ref a := ru
    exact d_copyOf I e fun p s' hp I' => ⟨.ref p, _, I', rfl, q p hp⟩
  · exact call_dictP hc pins s σ H xs us Q I rs q
theorem pairs_of {K : Kn} {F : Addr → Prop} {H : Hp} : ∀ {ps : List (Key × D)} {vs : List V}, Rps K F H (ps.map pairD) vs → ∃ (as : List Addr) (ks : List (Key × V)), vs = as.map V.ref ∧ Paired (fun p (kv : Key × V) => SqT K.K H p [kV kv.1, kv.2]) as ks ∧ Rpk K F H ps ks
  | [], _, .nil => ⟨[], [], rfl, .nil, .nil⟩
  | (k, d) :: ps, _, .cons r t => by
    obtain ⟨as, ks, rfl, h1, h2⟩ := pairs_of t
    cases r with
    | tup f e rr =>
      cases rr with
      | @cons _ w1 _ _ r1 t1 => cases t1 with
        | cons r2 t2 =>
          cases t2
          have e1 : w1 = kV k := by cases k <;> cases r1 <;> rfl
          rw [e1] at e
          exact ⟨_ :: as, (k, _) :: ks, rfl, .cons (SqT.of e) h1, .cons r2 h2⟩
theorem c_dict {trk : Bool} (hc : X.calm = true) : CallL X Z (.type "dict") (gDict trk) := ⟨_, call_dict_any hc, fun F H μ ds vs R Q s rs q k => by
  obtain ⟨x, kvs, rfl, e, q⟩ := q
  obtain ⟨v, rfl, r⟩ := one_of rs
  have fresh : ∀ {p : Addr} {ks : List (Key × V)}, Rpk X.kn F H kvs ks → H p = none → Q (.ref p) (upd H p (.dK ks)) := fun {p ks} rr hp => by
    cases trk with
    | true =>
      have g := s.trkS (o := .dK ks) (m := .dct kvs) hp fun g' e => ⟨ks, e, rr.grow g'⟩
      exact k _ _ _ _ _ g (.ref p) (q p (s.free hp))
    | false =>
      have g := s.frzS (o := .dK ks) hp
      exact k _ _ _ _ μ g (.dct (.inr rfl) (.inl upd_same) (rr.st g)) q
  rcases e with e | ⟨ps, e, rfl⟩
  · obtain ⟨p, ks, rfl, rd, rk⟩ := dct_of s r e
    exact .inl ⟨p, ks, rfl, rd, fun p hp => fresh rk hp⟩
  · obtain ⟨p, us, rfl, sq, rr⟩ := rdl_of s r e
    obtain ⟨as, ks, rfl, h1, h2⟩ := pairs_of rr
    exact .inr ⟨p, as, ks, rfl, sq, h1, fun p hp => fresh (Rpk.merge h2 .nil) hp⟩⟩
theorem Sim.extS {F : Addr → Prop} {H H' : Hp} {μ : Mu} {N : Addr → Prop} (s : Sim Z F H μ) (ext : ∀ b o, H b = some o → H' b = some o) (hN : ∀ b, N b → H b = none ∧ ∃ u, H' b = some u) : Step Z F H μ (fun b => F b ∨ N b) H' μ := by
  have g : Grow F H (fun b => F b ∨ N b) H' := ⟨fun _ h => .inl h, fun a u f h => h.imp (ext a _) fun ⟨o, h⟩ => ⟨o, ext a _ h⟩, fun a u f _ h => ext a _ h⟩
  refine s.step g (fun a u h n z => ⟨n, ext a _ h, fun f => f.elim z fun f => by rw [(hN a f).1] at h; cases h⟩) ⟨fun a f => ?_, fun a o h => ?_⟩
  · rcases f with f | f
    · obtain ⟨u, e⟩ := s.dom a f; exact ⟨u, ext a u e⟩
    · exact (hN a f).2
  · obtain ⟨nf, m⟩ := s.obj a o h
    have ne : ∀ u, H a = some u → ¬ N a := fun u e f => by rw [(hN a f).1] at e; cases e
    cases o with
    | lst xs => obtain ⟨vs, e, r⟩ := m; exact ⟨fun f => f.elim nf (ne _ e), vs, ext a _ e, r.grow g⟩
    | dct kvs => obtain ⟨vs, e, r⟩ := m; exact ⟨fun f => f.elim nf (ne _ e), vs, ext a _ e, r.grow g⟩
    | dcn kvs => obtain ⟨vs, e, r⟩ := m; exact ⟨fun f => f.elim nf (ne _ e), vs, ext a _ e, r.grow g⟩
    | dlk od ks kvs => obtain ⟨e, r⟩ := m; exact ⟨fun f => f.elim nf (ne _ e), ext a _ e, r.grow g⟩
    | ins n fs => obtain ⟨C, dx, vs, c, e, r⟩ := m; exact ⟨fun f => f.elim nf (ne _ e), C, dx, vs, c, ext a _ e, r.grow g⟩
def vItems (te : TE3) : TE3 := fun δ μ R => te δ μ fun x μ1 => ∃ kvs, dctOf μ1 x = some kvs ∧ R (.lst (kvs.map pairD)) μ1
theorem rps_pairs {K : Kn} {F F' : Addr → Prop} {H H' : Hp} (g : Grow F H F' H') : ∀ {ts : List Addr} {kvs : List (Key × D)} {ks : List (Key × V)}, Rpk K F H kvs ks → (∀ t ∈ ts, F' t) → Paired (fun (t : Addr) (q : Key × V) => H' t = some (.tup [kV q.1, q.2])) ts ks → Rps K F' H' (kvs.map pairD) (ts.map V.ref)
  | _, _, _, .nil, _, h => by cases h; exact .nil
  | _, _, _, .cons (k := k) r t, f, h => by
    cases h with
    | cons h1 h2 => exact .cons (.tup (f _ List.mem_cons_self) h1 (.cons (key_rp k) (.cons (r.grow g) .nil))) (rps_pairs g t (fun t ht => f t (List.mem_cons_of_mem _ ht)) h2)
theorem e_items (hc : X.calm = true) (hm : X.mg "list" = none) (he : E3 X Z e te) (hg : Gl X "list" := by rfl) (hv : bootBuiltins "list" = some (.type "list") := by decide +kernel) (hbase : attributeBase e "items" X.env (eval e X.env) = eval e X.env := by rfl) (hline : (apos.endLine == cpos.line) = true := by rfl)
    (hs : starEach [.Call (.Attribute e "items" apos) [] [] cpos] X.env = (false, eval (.Call (.Attribute e "items" apos) [] [] cpos) X.env) :: starEach [] X.env := by rfl) :
    E3 X Z (.Call (.Name "list" p) [.Call (.Attribute e "items" apos) [] [] cpos] [] pos) (vItems te) := by
  refine ⟨fun pins s σ H Q I rd => ?_⟩
  obtain ⟨F, δ, μ, R, sm, sl, rd, kk⟩ := rd
  refine wpAny_Call_Name_kw (ld_blt I hg hm hv (PyProof.Rows.callWith_type1 ?_ hs rfl))
  rw [hs]
  show wpAny _ _ (spliced ((false, eval (.Call (.Attribute e "items" apos) [] [] cpos) X.env) :: backTo pos (starEach [] X.env))) _ _ s
  refine Calls.spliced_cons (wpAny_Call_method (T := "dict") (id := "dict.items") hbase rfl hline PySem.F.plainAttrs_dict PySem.F.slot_dict_items PySem.F.type_dict_items (thn (he.run pins s σ H _ I (got1 sm sl rd)) fun u s1 ⟨v, H1, I1, rx, F1, d, μ1, g, r1, kvs, ek, q⟩ => ?_))
  obtain ⟨D, ks, rfl, rk, rs⟩ := dct_of g.sim r1 ek
  obtain rfl : u = Value.ref D := rx
  obtain ⟨hz, low, vs, kv, dd⟩ := dk_rd I1.hok rk
  obtain ⟨ep, hat⟩ := dd.dictAt
  have lk : ks.length = vs.length := Paired.length kv
  refine ⟨dd.typeIs, dd.mapOf.noDict, ?_⟩
  show wpAny _ _ (callWith cpos (.builtin "dict.items") [.ref D] [] []) _ X.xe s1
  refine method_meetsIn PySem.F.slot_dict_items PySem.F.entry_dict_items rfl (PySem.evalArgs_none ⟨rfl, dd.typeIs, PySem.F.args_dict_items_1 _, _, meets_dict_items (mixKind X.prog X.w) D low, ⟨vs, dd⟩, Calls.spliced_nil ?_⟩)
  refine PySem.W.kdx_call (knd := mixKind X.prog X.w) (kvs := vs) (ep := ep) (I1.ok.hd hc) ⟨_, Heap.get?_push_size _ rfl, rfl, rfl⟩ (hat.push _) (by omega) fun h' tk acc c as hk hS hl hG hacc => ?_
  have I2 : Inv X pins σ H1 { s1 with heap := s1.heap.push { cls := .type "dict_items", data := .fields #[.ref D] } } := I1.kept (t' := s1.toks) fun _ _ q => Heap.get?_push_of_some _ q
  obtain ⟨H', k1, k2, k3, k4, k5, k6, J⟩ := LiI.items_laid (tk := tk) I2 hz kv hk hS hl hG hacc
  refine ⟨.ref _, H', J, rfl, ?_⟩
  have tt : ∀ {as : List Addr} {ks : List (Key × V)}, Paired (fun (t : Addr) (q : Key × V) => H' t = some (.tup [kV q.1, q.2])) as ks → ∀ t ∈ as, ∃ u, H' t = some u := by
    intro as ks h
    induction h with
    | nil => intro t ht; cases ht
    | cons h1 _ ih =>
      intro t ht
      rcases List.mem_cons.mp ht with rfl | ht
      · exact ⟨_, h1⟩
      · exact ih t ht
  have g2 := g.sim.extS (H' := H') (N := fun b => b = ({ s1 with heap := s1.heap.push { cls := .type "dict_items", data := .fields #[.ref D] } } : Shared).heap.objs.size ∨ b ∈ as) k1 (fun b hb => by
    rcases hb with rfl | hb
    · exact ⟨k2, _, k5⟩
    · exact ⟨k3 b hb, tt k6 b hb⟩)
  exact kk _ _ _ _ μ1 (g.trans g2) (.lst (.inr (.inl rfl)) k5 (rps_pairs g2.grow rs (fun t ht => .inr (.inr ht)) k6)) q
def gIsT : GA := fun ds μ R => ∃ x t ms n b, ds = [x, t] ∧ t = .tup (ms.map D.ty) ∧ tyD μ x = some n ∧ kitsB n ms = some b ∧ R (.bl b) μ
where kitsB (n : String) : List String → Option Bool
  | [] => some false
  | m :: r => match kitB n m with
    | some true => some true
    | some false => kitsB n r
    | none => none
theorem kits_ok {K : PySem.W.Frag} {n : String} : ∀ {ms : List String} {b : Bool}, gIsT.kitsB n ms = some b → PySem.W.kitAny K (.type n) (ms.map Value.type) = some b
  | [], _, h => h
  | m :: r, b, h => by
    unfold gIsT.kitsB at h
    rw [List.map_cons]
    unfold PySem.W.kitAny
    split at h
    · rename_i e; rw [kit_ty e]; exact h
    · rename_i e; rw [kit_ty e]; exact kits_ok h
    · cases h
theorem c_isT : CallL X Z (.builtin "isinstance") gIsT := ⟨_, call_isiT, fun F H μ ds vs R Q s rs q k => by
  obtain ⟨x, t, ms, n, b, rfl, rfl, e1, e2, q⟩ := q
  cases rs with
  | cons r1 t => cases t with
    | cons r2 t =>
      cases t
      cases r2 with
      | tup f e rr =>
        obtain rfl := rps_map (g := V.ty) (fun a v h => by cases h; rfl) rr
        refine ⟨_, _, _, .type n, ms.map Value.type, b, rfl, e, ?_, tyD_ok s r1 e1, kits_ok e2, k F _ H _ μ (Step.refl s) (.bl b) q⟩
        clear e2 rr e
        induction ms with
        | nil => exact .nil
        | cons m r ih => exact .cons (.ty m) ih⟩
def vRev (te : TE3) : TE3 := fun δ μ R => te δ μ fun x μ1 => ∃ xs, rdL μ1 x = some xs ∧ R (.lst xs.reverse) μ1
def vLRg (trk : Bool) (ta : TE3) : TE3 := fun δ μ R => ta δ μ fun x μ1 => ∃ n, x = .int n ∧ 0 ≤ n ∧ n ≤ 16777216 ∧ (if trk then ∀ q, μ1 q = none → R (.ref q) (mset μ1 q (.lst (rgD 0 n.toNat))) else R (.lst (rgD 0 n.toNat)) μ1)
inductive FrSl (μ μ' : Mu) : St3 → St3 → Prop
  | nil : FrSl μ μ' [] []
  | some {d d' : D} {δ δ' : St3} : Fr μ μ' d d' → FrSl μ μ' δ δ' → FrSl μ μ' (some d :: δ) (some d' :: δ')
  | none {o : Option D} {δ δ' : St3} : FrSl μ μ' δ δ' → FrSl μ μ' (o :: δ) (none :: δ')
theorem Sl.frz {K : Kn} {F : Addr → Prop} {H : Hp} {μ μ' : Mu} (s : Sim0 K F H μ) {δ δ' : St3} (f : FrSl μ μ' δ δ') : ∀ {σ : L2.St}, Sl K F H σ δ → Sl K (gone F μ μ') H σ δ' := by
  have key : ∀ {δ δ' : St3}, FrSl μ μ' δ δ' → δ.length = δ'.length ∧ ∀ (i : Nat) (d' : D), δ'[i]? = some (some d') → ∃ d : D, δ[i]? = some (some d) ∧ Fr μ μ' d d' := by
    intro δ δ' f
    induction f with
    | nil => exact ⟨rfl, fun i d' e => by simp at e⟩
    | some h _ ih =>
      refine ⟨by rw [List.length_cons, List.length_cons, ih.1], fun i d' e => ?_⟩
      cases i with
      | zero => simp at e; subst e; exact ⟨_, rfl, h⟩
      | succ i => simpa using ih.2 i d' (by simpa using e)
    | none _ ih =>
      refine ⟨by rw [List.length_cons, List.length_cons, ih.1], fun i d' e => ?_⟩
      cases i with
      | zero => simp at e
      | succ i => simpa using ih.2 i d' (by simpa using e)
  intro σ sl
  obtain ⟨h1, h2⟩ := key f
  refine ⟨by rw [sl.len, h1], fun i d' e => ?_⟩
  obtain ⟨d, e1, fr⟩ := h2 i d' e
  obtain ⟨v, e2, r⟩ := sl.at_ i d e1
  exact ⟨v, e2, Rp.gone s fr r⟩
def sFrz (t : TS3) : TS3 := fun D δ μ => ∃ δ' μ', Le μ' μ ∧ FrSl μ μ' δ δ' ∧ t D δ' μ'
theorem ss_frz {sts : List Stmt} {t : TS3} (h : Ss3 X Z sts t) : Ss3 X Z sts (sFrz t) := PSs.imp h fun D σ H h => by
  obtain ⟨F, δ, μ, D3, s, sl, ⟨δ', μ', l, f, h⟩, k⟩ := h
  have g := s.dropS l
  exact ⟨_, δ', μ', D3, g.sim, sl.frz s.raw f, h, k.st g⟩
end
end L3
namespace L3
open PySem PySem.Spec PyProof.Rows L2
section
variable {X : Cx} {Z : Zn X.kn} {e a b c o o2 kx v : Expr} {es : List Expr} {te ta tb tc to to2 tk tv : TE3} {tr : TA3} {pos p apos cpos : Pos} {x y z : Str} {i j l : Nat} {n f f2 : Str}
def gAttr (K : PySem.W.Frag) (f : Str) (to : TE) : TG := fun v σ H Q => to σ H fun x H1 => ∃ a C dx fs, x = .ref a ∧ H1 a = some (.ins C dx fs) ∧ Cls K C ∧ NoAttr K C f ∧ fs.length < 1000 ∧ Q σ (upd H1 a (.ins C dx (putF f v fs)))
theorem pg_attr {to : TE} (ho : PE X o to) : PG X (.Attribute o f pos) (gAttr X.K f to) := by
  refine ⟨fun pins s σ H v u Q I r h => ?_⟩
  rw [arm_assign_Attribute]
  refine wpAny_bind (wpAny_holding (thn (ho.run pins s σ H _ I h) fun ov s1 ⟨w, H1, I1, r1, a, C, dx, fs, ew, ea, c, nf, hl, q⟩ => ?_))
  subst ew
  obtain rfl : ov = Value.ref a := r1
  refine wpAny_bind (wpAny_standAt (wpAny_bind (wpAny_holding (setattr_ok I1 ea c nf hl r fun s2 I2 => ?_))))
  exact wpAny_release ⟨σ, _, I2, q⟩
def sFld2 (n f f2 : Str) (te to to2 : TE3) : TS3 := fun D δ μ => te δ μ fun d μ1 => ∃ d1 d2, d = .tup [d1, d2] ∧ to δ μ1 fun x μ2 => ∃ a fs, x = .ref a ∧ μ2 a = some (.ins n fs) ∧ fs.length < 1000 ∧
  to2 δ (mset μ2 a (.ins n (putFD f d1 fs))) fun x2 μ3 => ∃ a2 fs2, x2 = .ref a2 ∧ μ3 a2 = some (.ins n fs2) ∧ fs2.length < 1000 ∧ D.nx δ (mset μ3 a2 (.ins n (putFD f2 d2 fs2)))
theorem s_fld2 {p1 p2 pt : Pos} {kt : Nat} (T : Fl3 X.K n f) (T2 : Fl3 X.K n f2) (hc : X.calm = true) (he : E3 X Z e te) (ho : E3 X Z o to) (ho2 : E3 X Z o2 to2)
    (hn : (assignEach [.Attribute o f p1, .Attribute o2 f2 p2] X.env).length = 2 := by rfl) (hst : (assignEach [.Attribute o f p1, .Attribute o2 f2 p2] X.env).findIdx? (·.1) = none := by rfl)
    (h2 : (assignEach [.Attribute o f p1, .Attribute o2 f2 p2] X.env).map (·.2) = assign (.Attribute o f p1) X.env :: (assignEach [.Attribute o2 f2 p2] X.env).map (·.2) := by rfl)
    (h3 : (assignEach [.Attribute o2 f2 p2] X.env).map (·.2) = assign (.Attribute o2 f2 p2) X.env :: (assignEach [] X.env).map (·.2) := by rfl)
    (hs : swapsWithSole [.Tuple [.Attribute o f p1, .Attribute o2 f2 p2] kt pt] e pos.line X.env = pure false := by rfl) (hw : swappedStores [.Tuple [.Attribute o f p1, .Attribute o2 f2 p2] kt pt] e X.env = pure none := by rfl)
    (h1 : (assignEach [.Tuple [.Attribute o f p1, .Attribute o2 f2 p2] kt pt] X.env).map (·.2) = [assign (.Tuple [.Attribute o f p1, .Attribute o2 f2 p2] kt pt) X.env] := by rfl) :
    S3 X Z (.Assign [.Tuple [.Attribute o f p1, .Attribute o2 f2 p2] kt pt] e pos) (sFld2 n f f2 te to to2) := (ps_asg he (pg_tup hc (pgs_cons (pg_attr ho) (pgs_cons (pg_attr ho2) pgs_nil h3) h2) hn hst) hs hw h1).imp fun D σ H h => by
  obtain ⟨F, δ, μ, D3, s, sl, h, k⟩ := h
  refine ⟨F, δ, μ, _, s, sl, h, fun F1 v H1 d μ1 g r1 q1 => ?_⟩
  obtain ⟨d1, d2, rfl, q1⟩ := q1
  cases r1 with
  | @tup _ us t ft et rs =>
    cases rs with
    | @cons _ u1 _ _ ra ts => cases ts with
      | @cons _ u2 _ _ rb ts =>
        cases ts
        refine ⟨t, [u1, u2], rfl, SqT.of et, rfl, u1, [u2], rfl, ?_⟩
        refine ⟨F1, δ, μ1, _, g.sim, sl.st g, q1, fun F2 w H2 x μ2 g2 r2 q2 => ?_⟩
        obtain ⟨a, fs, rfl, ea, hl, q2⟩ := q2
        cases r2
        obtain ⟨C, dx, gs, c, e3, el, g3⟩ := put_fld (f := f) g2.sim ea (ra.st g2)
        obtain ⟨t1, t2⟩ := T.of c
        refine ⟨a, C, dx, gs, rfl, e3, t1, t2, by rw [← el]; exact hl, u2, [], rfl, ?_⟩
        refine ⟨F2, δ, _, _, g3.sim, sl.st ((g.trans g2).trans g3), q2, fun F4 w H4 x μ4 g4 r4 q4 => ?_⟩
        obtain ⟨a', fs', rfl, ea', hl', q4⟩ := q4
        cases r4
        obtain ⟨C', dx', gs', c', e3', el', g5⟩ := put_fld (f := f2) g4.sim ea' (rb.st ((g2.trans g3).trans g4))
        obtain ⟨t1', t2'⟩ := T2.of c'
        have gg := (((g.trans g2).trans g3).trans g4).trans g5
        exact ⟨a', C', dx', gs', rfl, e3', t1', t2', by rw [← el']; exact hl', rfl, k.nx F4 σ _ δ _ gg (sl.st gg) q4⟩
def vDispT (trs : List (TE3 × TE3)) : TE3 := fun δ μ R => vPairs trs δ μ fun ps μ1 => ∃ kvs, keysOf ps = some kvs ∧ kvs.length ≤ 15 ∧ ∀ q, μ1 q = none → R (.ref q) (mset μ1 q (.dct (mergeD [] kvs)))
theorem e_dispT {keys : List (Option Expr)} {values : List Expr} {trs : List (TE3 × TE3)} (h : Ps3 X Z pos keys values trs) (hall : keys.all (·.isSome) = true := by rfl) (hl : keys.length = values.length := by rfl) (h0 : keys ≠ [] := by simp) (h15 : keys.length ≤ 15 := by simp) :
    E3 X Z (.Dict keys values pos) (vDispT trs) := (pe_disp h hall hl h0 h15).imp fun σ H Q h => by
  obtain ⟨F, δ, μ, R, s, sl, h, k⟩ := h
  intro p hp
  have g := s.newS (o := .dK []) hp
  have nF : ¬ F p := fun f => by
    obtain ⟨u, hu⟩ := s.dom p f
    rw [hp] at hu
    cases hu
  refine low_pairs g.sim (sl.st g) h fun F1 vs H1 ds μ1 g1 r1 q1 => ?_
  obtain ⟨n1, e1, f1⟩ := g1.fm p _ upd_same (s.free hp) nF
  obtain ⟨kvs, ek, hz, q1⟩ := q1
  obtain ⟨ks, rfl, rk⟩ := r1.keys ek
  refine ⟨e1, ks, rfl, by rw [← rk.length]; exact hz, ?_⟩
  have gg := (g.trans g1).priv (o := .dK (mergeK [] ks)) s hp f1 n1
  have gp := (g1.sim.raw.priv (o := .dK (mergeK [] ks)) f1 n1).1
  have g2 := gg.trk1 (m := .dct (mergeD [] kvs)) s hp f1 n1 ⟨_, upd_same, (Rpk.merge rk .nil).grow gp⟩
  exact k _ _ _ _ _ g2 (.ref p) (q1 p n1)
end
def Src.own : Src → Bool
  | .dfl _ => false
  | _ => true
theorem picks_own {α : Type} {z : α} {us ws ds ds' : List α} : ∀ {os : List Src}, os.all Src.own = true → picks z os us ws ds = picks z os us ws ds'
  | [], _ => rfl
  | o :: os, h => by
    rw [List.all_cons, Bool.and_eq_true] at h
    unfold picks
    rw [List.map_cons, List.map_cons]
    congr 1
    · cases o with
      | dfl _ => cases h.1
      | _ => rfl
    · exact picks_own h.2
theorem Bd3.drop {K : PySem.W.Frag} {fd : FuncData} {ps : List Str} {n : Nat} {ks : List Str} {os : List Src} {dfl : List V} (h : Bd3 K fd ps n ks os dfl) (ho : os.all Src.own = true := by rfl) : Bd3 K fd ps n ks os [] := by
  obtain ⟨hl, ds, rd, hb⟩ := h
  exact ⟨hl, [], .nil, fun s us ws X l1 l2 => by rw [picks_own (ds' := ds) ho]; exact hb s us ws X l1 l2⟩
section
variable {X : Cx} {Z : Zn X.kn} {X0 : CXT} {e o : Expr} {es : List Expr} {tr : TA3} {to : TE3} {pos apos : Pos} {k : Nat} {sp : Sp3} {lsp : Sp} {E : XK} {j : Nat} {n m : Str}
def vMetA (n m : Str) (cnt : Nat) (sp : Sp3) (to : TE3) (tr : TA3) : TE3 := fun δ μ R => to δ μ fun x μ1 => ∃ fs, insOf μ1 n x = some fs ∧ fs.lookup m = none ∧ tr δ μ1 fun ds μ2 => ds.length = cnt ∧ sp (x :: ds) μ2 R
theorem vMet_all {cnt : Nat} : vMet n m cnt (allPos (cnt + 1)) [] sp to tr = vMetA n m cnt sp to tr := by
  have key : ∀ (x : D) (R : DK), (fun (ds : List D) (μ2 : Mu) => ds.length = cnt ∧ sp (picks .non (allPos (cnt + 1)) (x :: ds) [] []) μ2 R) = fun ds μ2 => ds.length = cnt ∧ sp (x :: ds) μ2 R := fun x R => by
    funext ds μ2
    apply propext
    constructor
    · intro ⟨h1, h2⟩; rw [picks_all (by rw [List.length_cons, h1])] at h2; exact ⟨h1, h2⟩
    · intro ⟨h1, h2⟩; exact ⟨h1, by rw [picks_all (by rw [List.length_cons, h1])]; exact h2⟩
  funext δ μ R
  unfold vMet vMetA
  simp only [key]
theorem e_metA {pl : Sem Bool} {cnt : Nat} (L : Lft X Z X0 (cnt + 1) sp lsp E) (c : Met3 X.prog X.w X.K X.mg X.base X0 k n m cnt [] (allPos (cnt + 1)) [] (cnt + 1) lsp) (hr : RoomG j X.A) (ho : E3 X Z o to) (ha : A3 X Z (e :: es) tr) (hk : k ≤ j := by decide)
    (hst : starEach (e :: es) X.env = (false, eval e X.env) :: starEach es X.env := by rfl) (hpl : (backTo pos (starEach es X.env)).any (·.1) = false := by rfl)
    (ht : eval (.Call (.Attribute o m apos) (e :: es) [] pos) X.env = (do
      let ov ← eval o X.env
      standAt apos.atName
      let (f, first) ← holding [ov] (getMethod ov m pl)
      callWith pos f first (backTo pos (starEach (e :: es) X.env)) (backToKw pos (keywordEach [] X.env))) := by rfl) :
    E3 X Z (.Call (.Attribute o m apos) (e :: es) [] pos) (vMetA n m cnt sp to tr) := by
  rw [← vMet_all]
  exact e_met L c hr ho ha hk hst hpl ht
theorem e_metA0 {pl : Sem Bool} (L : Lft X Z X0 1 sp lsp E) (c : Met3 X.prog X.w X.K X.mg X.base X0 k n m 0 [] (allPos 1) [] 1 lsp) (hr : RoomG j X.A) (ho : E3 X Z o to) (hk : k ≤ j := by decide)
    (ht : eval (.Call (.Attribute o m apos) [] [] pos) X.env = (do
      let ov ← eval o X.env
      standAt apos.atName
      let (f, first) ← holding [ov] (getMethod ov m pl)
      callWith pos f first (backTo pos (starEach [] X.env)) (backToKw pos (keywordEach [] X.env))) := by rfl) :
    E3 X Z (.Call (.Attribute o m apos) [] [] pos) (vMetA n m 0 sp to vNil) := by
  rw [← vMet_all]
  exact e_met0 L c hr ho hk ht
end
end L3
namespace L3
open PySem PySem.Spec PyProof.Rows L2
section
variable {X : Cx} {Z : Zn X.kn}
theorem rpsI_of {K : Kn} {F : Addr → Prop} {H : Hp} : ∀ {ns : List Int} {vs : List V}, Rps K F H (ns.map D.int) vs → vs = ns.map V.int
  | [], _, h => by cases h; rfl
  | n :: r, _, h => by
    cases h with
    | cons a t => cases a; rw [rpsI_of t]; rfl
end
end L3
namespace PySem.SeqAt
open AutoSeq1 (wpAny_loadPart')
open MeetsSeq MeetsSeq2 MeetsSeq3 SeqRoads2
section
variable {prog : Program} {w : World}
theorem ne_loopIn (l b : Addr) (wA wB : Array Value) (n nB : Nat) (dd ddB : Option Addr) (sl slB : Array (Option Value)) (hze : wA.size = wB.size) (e : Nat → Bool) (k : Nat) :
    ∀ i : Nat, wA.size - i = k → MeetsIn prog w (Builtin.«list.__eq__.loop» ⟨[.ref l, .ref b, rawInt i, rawInt 3], []⟩)
      (fun A R s => s.heap.get? l = some { cls := .type "list", dict := dd, data := .seq wA n, slots := sl } ∧ s.heap.get? b = some { cls := .type "list", dict := ddB, data := .seq wB nB, slots := slB } ∧
        (∀ j (h1 : j < wA.size) (h2 : j < wB.size), EqIn prog w A.in1 s wA[j] wB[j] (e j)) ∧
        R (.ok (.ret (.bool (!((List.range wA.size).drop i).all e)))) s) := by
  induction k with
  | zero =>
    intro i hk A R s h
    obtain ⟨hp, g, d, tk, os⟩ := s
    obtain ⟨gA, gB, he, h⟩ := h
    wp_walk using wpAny_loadPart' gA, wpAny_loadPart' gB
    have hi1 : wA[((i : Nat) : Int).toNat]? = none := by simp; omega
    have hi2 : wB[((i : Nat) : Int).toNat]? = none := by simp; omega
    have hd : (List.range wA.size).drop i = [] := by simp; omega
    rw [hd] at h
    rw [hi1, hi2]
    wp_walk using wpAny_loadPart' gA, wpAny_loadPart' gB
    show R (.ok (.ret (.bool (wA.size != wB.size)))) _
    rw [hze]
    simpa using h
  | succ k ih =>
    intro i hk A R s h
    obtain ⟨hp, g, d, tk, os⟩ := s
    obtain ⟨gA, gB, he, h⟩ := h
    wp_walk using wpAny_loadPart' gA, wpAny_loadPart' gB
    have a1 : i < wA.size := by omega
    have a2 : i < wB.size := by omega
    have b1 : wA[((i : Nat) : Int).toNat]? = some wA[i] := by simp [a1]
    have b2 : wB[((i : Nat) : Int).toNat]? = some wB[i] := by simp [a2]
    have hd : (List.range wA.size).drop i = i :: (List.range wA.size).drop (i + 1) := by simp [List.drop_eq_getElem_cons, a1]
    have hc : ((i : Int) + 1) = ((i + 1 : Nat) : Int) := by push_cast; rfl
    rw [hd, List.all_cons] at h
    rw [b1, b2]
    refine wpAny_bind (he i a1 a2 _ _ ?_)
    cases qb : e i with
    | true =>
      rw [qb] at h
      wp_walk
      rw [hc]
      exact ⟨plainId_quiet plain_eq_loop _, codeAny_builtin entry_eq_loop (by
        rw [Around.under_plainId plain_eq_loop _]
        exact ih (i + 1) (by omega) A R _ ⟨gA, gB, he, by simpa using h⟩)⟩
    | false =>
      rw [qb] at h
      wp_walk using wpAny_loadPart' gA, wpAny_loadPart' gB
      rw [b1, b2]
      wp_walk
      simpa using h
theorem list_neIn (l b : Addr) (wA wB : Array Value) (n nB : Nat) (dd ddB : Option Addr) (sl slB : Array (Option Value)) (hze : wA.size = wB.size) (e : Nat → Bool) :
    MeetsIn prog w (Builtin.«list.__ne__» ⟨[.ref l, .ref b], []⟩)
      (fun A R s => s.heap.get? l = some { cls := .type "list", dict := dd, data := .seq wA n, slots := sl } ∧ s.heap.get? b = some { cls := .type "list", dict := ddB, data := .seq wB nB, slots := slB } ∧
        (∀ j (h1 : j < wA.size) (h2 : j < wB.size), EqIn prog w A.in1 s wA[j] wB[j] (e j)) ∧
        R (.ok (.ret (.bool (!(List.range wA.size).all e)))) s) := by
  intro A R s h
  obtain ⟨hp, g, d, tk, os⟩ := s
  obtain ⟨gA, gB, he, h⟩ := h
  have f3 := AutoSeq1.sub_list_list
  have hne : ¬ (wA.size != wB.size) = true := by simp [hze]
  wp_walk using wpAny_loadPart' gA, wpAny_loadPart' gB
  exact ⟨plainId_quiet plain_eq_loop _, codeAny_builtin entry_eq_loop (by
    rw [Around.under_plainId plain_eq_loop _]
    exact ne_loopIn l b wA wB n nB dd ddB sl slB hze e _ 0 rfl A R _ ⟨gA, gB, he, by simpa using h⟩)⟩
theorem rcNeIn_lists {A : Around} {s : Shared} {E : Value → Shared → Prop} {l b : Addr} {wA wB : Array Value} {e : Nat → Bool} {Q : Value → Shared → Prop} (gA : s.heap.IsList l wA) (gB : s.heap.IsList b wB) (hze : wA.size = wB.size) (hu : A.units < cLine)
    (he : ∀ j (h1 : j < wA.size) (h2 : j < wB.size), EqIn prog w A.in1 s wA[j] wB[j] (e j)) (h : Q (.bool (!(List.range wA.size).all e)) s) : wpAny (model prog w) A (richCompare .NotEq (.ref l) (.ref b)) Q E s := by
  obtain ⟨⟨cls, dd, data, sl⟩, ho, hc, n, hd⟩ := id gA
  obtain ⟨⟨clsB, ddB, dataB, slB⟩, oB, cB, nB, dB⟩ := id gB
  simp only at hc hd cB dB
  subst hc hd cB dB
  have ta : s.TypeIs (.ref l) "list" := ⟨_, ho, rfl⟩
  have tb : s.TypeIs (.ref b) "list" := ⟨_, oB, rfl⟩
  exact wpAny_richCompare_same_room (op := .NotEq) ta tb F.slot_list_ne (call_meetsIn F.slot_list_ne ta F.entry_list_ne (F.args_list_ne_2 _ _) (list_neIn l b wA wB n nB dd ddB sl slB hze e)
    ⟨ho, oB, he, show Value.bool (!(List.range wA.size).all e) ≠ Value.notImplemented ∧ Q (.bool (!(List.range wA.size).all e)) s from ⟨(fun x => nomatch x), h⟩⟩) hu
end
end PySem.SeqAt
namespace L3
open PySem PySem.Spec PyProof.Rows L2
inductive Eqs (μ : Mu) : Nat → D → D → Bool → Prop
  | flat {n : Nat} {x y : D} : flatD x = true → flatD y = true → Eqs μ n x y (eqD x y)
  | lstR {n : Nat} {x y : D} {xs ys : List D} {e same : Nat → Bool} : lstOf μ x = some xs → lstOf μ y = some ys → xs.length = ys.length → (∀ j a b, xs[j]? = some a → ys[j]? = some b → same j = false → Eqs μ n a b (e j)) →
      (∀ j a b, xs[j]? = some a → ys[j]? = some b → same j = true → (∃ p, a = .ref p ∧ b = .ref p) ∧ e j = true) → Eqs μ (n + 1) x y ((List.range xs.length).all e)
  | len {n : Nat} {x y : D} {xs ys : List D} : lstOf μ x = some xs → lstOf μ y = some ys → xs.length ≠ ys.length → Eqs μ (n + 1) x y false
  | tup {n : Nat} {xs ys : List D} {e : Nat → Bool} : (∀ j a b, xs[j]? = some a → ys[j]? = some b → Eqs μ n a b (e j)) → Eqs μ (n + 1) (.tup xs) (.tup ys) ((List.range (min xs.length ys.length)).all e && xs.length == ys.length)
  | dct {n : Nat} {x y : D} {ks ls : List (Key × D)} {e : Key → Bool} : dctOf μ x = some ks → dctOf μ y = some ls → (∀ k a b, valD ks k = some a → valD ls k = some b → Eqs μ n a b (e k)) → Eqs μ (n + 1) x y (ks.length == ls.length && ks.all fun p => (valD ls p.1).isSome && e p.1)
theorem Eqs.lst {μ : Mu} {n : Nat} {x y : D} {xs ys : List D} {e : Nat → Bool} (h1 : lstOf μ x = some xs) (h2 : lstOf μ y = some ys) (h3 : xs.length = ys.length) (h4 : ∀ j a b, xs[j]? = some a → ys[j]? = some b → Eqs μ n a b (e j)) : Eqs μ (n + 1) x y ((List.range xs.length).all e) :=
  .lstR (same := fun _ => false) h1 h2 h3 (fun j a b ha hb _ => h4 j a b ha hb) (fun _ _ _ _ _ z => by cases z)
section
variable {K : Kn} {Z : Zn K} {F : Addr → Prop} {H : Hp} {μ : Mu}
theorem eqD_self {x : D} (h : flatD x = true) : eqD x x = true := by
  cases x <;> first | rfl | (cases h; done) | simp [eqD]
theorem flat_inj {x y : D} {v : V} (r : Rp K F H x v) (q : Rp K F H y v) (h : flatD x = true) (h' : flatD y = true) : x = y := by
  cases r <;> first | (cases h; done) | (cases q <;> first | rfl | (cases h'; done))
theorem rd_dK {p : Addr} {vs us : List (Key × V)} (h : Rd H p (.dK vs)) (h' : Rd H p (.dK us)) : vs = us := by
  rcases h with h | ⟨o, h⟩ <;> rcases h' with h' | ⟨o', h'⟩ <;> rw [h] at h' <;> cases h' <;> rfl
theorem Rpk.val' {ds : List (Key × D)} {vs : List (Key × V)} {k : Key} {d : D} (r : Rpk K F H ds vs) (h : valD ds k = some d) : ∃ v, valV vs k = some v ∧ Rp K F H d v := (Rpk.val (k := k) r).1 d h
theorem Rpk.some {ds : List (Key × D)} {vs : List (Key × V)} (r : Rpk K F H ds vs) (k : Key) : (valD ds k).isSome = (valV vs k).isSome := by
  obtain ⟨h1, h2⟩ := Rpk.val (k := k) r
  cases e : valD ds k with
  | none => rw [h2 e]; rfl
  | some d => obtain ⟨v, e2, _⟩ := h1 d e; rw [e2]; rfl
theorem valD_mem {ds : List (Key × D)} {p : Key × D} (h : p ∈ ds) : ∃ d, valD ds p.1 = some d := by
  unfold valD
  cases e : ds.find? fun kv => decide (kv.1 = p.1) with
  | none => rw [List.find?_eq_none] at e; exact absurd (by simp) (e p h)
  | some q => exact ⟨q.2, rfl⟩
theorem Eqs.same (s : Sim Z F H μ) {n : Nat} {x y : D} {b : Bool} (h : Eqs μ n x y b) : ∀ {v : V}, Rp K F H x v → Rp K F H y v → b = true := by
  induction h with
  | flat hx hy => intro v r q; rw [flat_inj r q hx hy]; exact eqD_self hy
  | @lstR n x y xs ys e same ex ey hl _ hs ih =>
    intro v r q
    obtain ⟨p, vs, rfl, e1, r1⟩ := lst_of s r ex
    obtain ⟨p2, us, e0, e2, r2⟩ := lst_of s q ey
    cases e0
    rw [e1] at e2
    cases e2
    refine List.all_eq_true.mpr fun j hj => ?_
    rw [List.mem_range] at hj
    obtain ⟨w, e3, r3⟩ := r1.get (List.getElem?_eq_getElem hj)
    obtain ⟨w2, e4, r4⟩ := r2.get (List.getElem?_eq_getElem (hl ▸ hj))
    rw [e3] at e4
    cases e4
    cases z : same j with
    | true => exact (hs j _ _ (List.getElem?_eq_getElem hj) (List.getElem?_eq_getElem (hl ▸ hj)) z).2
    | false => exact ih j _ _ (List.getElem?_eq_getElem hj) (List.getElem?_eq_getElem (hl ▸ hj)) z r3 r4
  | len ex ey hl =>
    intro v r q
    obtain ⟨p, vs, rfl, e1, r1⟩ := lst_of s r ex
    obtain ⟨p2, us, e0, e2, r2⟩ := lst_of s q ey
    cases e0
    rw [e1] at e2
    cases e2
    exact absurd (r1.length.trans r2.length.symm) hl
  | @tup n xs ys e _ ih =>
    intro v r q
    cases r with
    | tup f e1 r1 =>
      cases q with
      | tup f2 e2 r2 =>
        rw [e1] at e2
        cases e2
        have hl : xs.length = ys.length := r1.length.trans r2.length.symm
        rw [Bool.and_eq_true]
        refine ⟨List.all_eq_true.mpr fun j hj => ?_, by simp [hl]⟩
        rw [List.mem_range] at hj
        have j1 : j < xs.length := by omega
        have j2 : j < ys.length := by omega
        obtain ⟨w, e3, r3⟩ := r1.get (List.getElem?_eq_getElem j1)
        obtain ⟨w2, e4, r4⟩ := r2.get (List.getElem?_eq_getElem j2)
        rw [e3] at e4
        cases e4
        exact ih j _ _ (List.getElem?_eq_getElem j1) (List.getElem?_eq_getElem j2) r3 r4
  | @dct n x y ks ls e ex ey _ ih =>
    intro v r q
    obtain ⟨p, vs, rfl, e1, r1⟩ := dct_of s r ex
    obtain ⟨p2, us, e0, e2, r2⟩ := dct_of s q ey
    cases e0
    have := rd_dK e1 e2
    subst this
    rw [Bool.and_eq_true]
    refine ⟨by simp [r1.length, r2.length], List.all_eq_true.mpr fun kd hk => ?_⟩
    obtain ⟨d, hd⟩ := valD_mem hk
    obtain ⟨w, e3, r3⟩ := r1.val' hd
    have hs : (valD ls kd.1).isSome = true := by rw [r2.some, e3]; rfl
    obtain ⟨d2, hd2⟩ := Option.isSome_iff_exists.mp hs
    obtain ⟨w2, e4, r4⟩ := r2.val' hd2
    rw [e3] at e4
    cases e4
    rw [hs, Bool.true_and]
    exact ih kd.1 d d2 hd hd2 r3 r4
end
section
variable {X : Cx} {Z : Zn X.kn} {F : Addr → Prop} {H : Hp} {μ : Mu} {pins : List (Addr × Obj)} {s : Shared} {σ : L2.St}
theorem flat_tree {x y : D} {vx vy : V} {v u : Value} {n : Nat} (r : Rp X.kn F H x vx) (q : Rp X.kn F H y vy) (h : flatD x = true) (h' : flatD y = true) (rv : RelV vx v) (ru : RelV vy u) (A : Around) : SeqAt.EqAt A s v u (eqD x y) := by
  have flt : ∀ {z : D} {vz : V} {t : Value}, Rp X.kn F H z vz → flatD z = true → RelV vz t → (z = .non ∧ t = .none) ∨ (∃ b, z = .bl b ∧ t = .bool b) ∨ (∃ i k, z = .int i ∧ t = .int i k) ∨ ∃ i k, z = .str i ∧ t = .str i k := by
    intro z vz t rz hz rt
    cases rz <;> first | (cases hz; done) | skip
    · exact .inl ⟨rfl, rt⟩
    · exact .inr (.inl ⟨_, rfl, rt⟩)
    · obtain ⟨k, e⟩ := rt; exact .inr (.inr (.inl ⟨_, k, rfl, e⟩))
    · obtain ⟨k, e⟩ := rt; exact .inr (.inr (.inr ⟨_, k, rfl, e⟩))
  rcases flt r h rv with ⟨rfl, rfl⟩ | ⟨b, rfl, rfl⟩ | ⟨i, k, rfl, rfl⟩ | ⟨i, k, rfl, rfl⟩ <;> rcases flt q h' ru with ⟨rfl, rfl⟩ | ⟨b', rfl, rfl⟩ | ⟨i', k', rfl, rfl⟩ | ⟨i', k', rfl, rfl⟩
  · exact SeqAt.EqAt.same _
  · exact SeqAt.EqAt.none_bool _
  · exact SeqAt.EqAt.none_int _ _
  · exact SeqAt.EqAt.none_str _ _
  · exact SeqAt.EqAt.bool_none _
  · exact SeqAt.EqAt.bool_bool _ _
  · exact SeqAt.EqAt.bool_int _ _ _
  · exact SeqAt.EqAt.bool_str _ _ _
  · exact SeqAt.EqAt.int_none _ _
  · exact SeqAt.EqAt.int_bool _ _ _
  · exact SeqAt.EqAt.int_int _ _ _ _
  · exact SeqAt.EqAt.int_str _ _ _ _
  · exact SeqAt.EqAt.str_none _ _
  · exact SeqAt.EqAt.str_bool _ _ _
  · exact SeqAt.EqAt.str_int _ _ _ _
  · exact SeqAt.EqAt.str_str _ _ _ _
theorem Inv.dic (I : Inv X pins σ H s) {p : Addr} {vs : List (Key × V)} (h : Rd H p (.dK vs)) : (p == sysModules) = false ∧ ∃ us, KV vs us ∧ s.heap.DictOf (mixKind X.prog X.w) p us := by
  rcases h with h | ⟨o, h⟩
  · obtain ⟨_, y, us, r, d⟩ := (show ObjOk X.prog X.w H s.heap p (.dK vs) from I.hok p _ h)
    exact ⟨y, us, r, d⟩
  · obtain ⟨_, _, y, us, r, d⟩ := (show ObjOk X.prog X.w H s.heap p (.frz o (.dK vs)) from I.hok p _ h)
    exact ⟨y, us, r, d⟩
theorem valueAt_mem {α : Type} [DecidableEq α] {us : List (α × Value)} (n : (us.map (·.1)).Nodup) {k : α} {v : Value} (h : (k, v) ∈ us) : valueAt us k = some v := by
  induction us with
  | nil => cases h
  | cons p r ih =>
    rw [List.map_cons, List.nodup_cons] at n
    rcases List.mem_cons.mp h with e | h
    · subst e; simp [valueAt]
    · have ne : p.1 ≠ k := fun e => n.1 (e ▸ List.mem_map_of_mem (f := (·.1)) h)
      have := ih n.2 h
      simpa [valueAt, List.find?_cons, ne] using this
theorem dic_ans {ks ls : List (Key × D)} {e : Key → Bool} {va vb : List (Key × V)} {ua ub : List (Key × Value)} (r1 : Rpk X.kn F H ks va) (r2 : Rpk X.kn F H ls vb) (q1 : KV va ua) (q2 : KV vb ub) :
    (ua.length == ub.length && ua.all fun p => (valueAt ub p.1).isSome && e p.1) = (ks.length == ls.length && ks.all fun p => (valD ls p.1).isSome && e p.1) := by
  have h1 : ua.length = ks.length := by rw [← q1.length, ← r1.length]
  have h2 : ub.length = ls.length := by rw [← q2.length, ← r2.length]
  have hk : ua.map (·.1) = ks.map (·.1) := by rw [← q1.keys, ← r1.keys]
  have h3 : ∀ k, (valueAt ub k).isSome = (valD ls k).isSome := fun k => by rw [← (q2.val k).isSome_eq, r2.some]
  rw [h1, h2]
  congr 1
  have a1 : (ua.all fun p => (valueAt ub p.1).isSome && e p.1) = (ua.map (·.1)).all fun k => (valD ls k).isSome && e k := by rw [List.all_map]; congr 1; funext p; simp [h3]
  have a2 : (ks.all fun p => (valD ls p.1).isSome && e p.1) = (ks.map (·.1)).all fun k => (valD ls k).isSome && e k := by rw [List.all_map]; rfl
  rw [a1, a2, hk]
theorem dic_kid {ks ls : List (Key × D)} {va vb : List (Key × V)} {ua ub : List (Key × Value)} (r1 : Rpk X.kn F H ks va) (r2 : Rpk X.kn F H ls vb) (q1 : KV va ua) (q2 : KV vb ub) (nd : (ua.map (·.1)).Nodup) {k : Key} {v y : Value} (hm : (k, v) ∈ ua) (hy : valueAt ub k = some y) :
    ∃ a b va' vb', valD ks k = some a ∧ valD ls k = some b ∧ Rp X.kn F H a va' ∧ Rp X.kn F H b vb' ∧ RelV va' v ∧ RelV vb' y := by
  have e1 := valueAt_mem nd hm
  have o1 := q1.val k
  have o2 := q2.val k
  rw [e1] at o1
  rw [hy] at o2
  have get : ∀ {ds : List (Key × D)} {vs : List (Key × V)} {z : Value}, Rpk X.kn F H ds vs → RelO (valV vs k) (some z) → ∃ a w, valD ds k = some a ∧ Rp X.kn F H a w ∧ RelV w z := fun {ds vs z} r o => by
    have hs : (valD ds k).isSome = true := by rw [r.some, o.isSome_eq]; rfl
    obtain ⟨a, ha⟩ := Option.isSome_iff_exists.mp hs
    obtain ⟨w, e, rw'⟩ := r.val' ha
    rw [e] at o
    exact ⟨a, w, ha, rw', o⟩
  obtain ⟨a, wa, ea, ra, ta⟩ := get r1 o1
  obtain ⟨b, wb, eb, rb, tb⟩ := get r2 o2
  exact ⟨a, b, wa, wb, ea, eb, ra, rb, ta, tb⟩
theorem Eqs.tree (sm : Sim Z F H μ) (I : Inv X pins σ H s) {n : Nat} {x y : D} {b : Bool} (h : Eqs μ n x y b) : ∀ {vx vy : V} {v u : Value}, Rp X.kn F H x vx → Rp X.kn F H y vy → RelV vx v → RelV vy u → PySem.W.EqTree X.prog X.w s n v u b := by
  have ref : ∀ {a : Addr} {v : Value}, RelV (.ref a) v → v = .ref a := fun h => h
  induction h with
  | flat hx hy => intro vx vy v u r q rv ru; exact .leaf fun A _ => flat_tree (n := 0) r q hx hy rv ru A
  | @lstR n x y xs ys e same ex ey hl hk hs ih =>
    intro vx vy v u r q rv ru
    have sm2 := fun {v : V} => Eqs.same (v := v) sm (Eqs.lstR ex ey hl hk hs)
    obtain ⟨p, vs, rfl, e1, r1⟩ := lst_of sm r ex
    obtain ⟨p2, us, rfl, e2, r2⟩ := lst_of sm q ey
    obtain rfl := ref rv
    obtain rfl := ref ru
    by_cases hne : p = p2
    · subst hne; rw [sm2 r q]; exact .same
    · obtain ⟨ws, t1, p1, _⟩ := I.list (SqL.of e1)
      obtain ⟨zs, t2, pp2, _⟩ := I.list (SqL.of e2)
      have l1 : ws.length = xs.length := by rw [← t1.length, r1.length]
      have l2 : zs.length = ys.length := by rw [← t2.length, r2.length]
      have := PySem.W.EqTree.lists (prog := X.prog) (w := X.w) (n := n) (e := e) hne p1.isList pp2.isList (by simp [l1, l2, hl]) (fun j h1 h2 => by
        have j1 : j < xs.length := by simpa [l1] using h1
        have j2 : j < ys.length := by simpa [l2] using h2
        obtain ⟨w1, c1, d1⟩ := r1.get (List.getElem?_eq_getElem j1)
        obtain ⟨w2, c2, d2⟩ := r2.get (List.getElem?_eq_getElem j2)
        obtain ⟨z1, f1, g1⟩ := t1.get c1
        obtain ⟨z2, f2, g2⟩ := t2.get c2
        have k1 : ws.toArray[j] = z1 := by
          have : ws[j]? = some z1 := f1
          rw [List.getElem?_eq_getElem (by simpa using h1)] at this
          simpa using this
        have k2 : zs.toArray[j] = z2 := by
          have : zs[j]? = some z2 := f2
          rw [List.getElem?_eq_getElem (by simpa using h2)] at this
          simpa using this
        rw [k1, k2]
        cases z : same j with
        | true =>
          obtain ⟨⟨c, ea, eb⟩, ee⟩ := hs j _ _ (List.getElem?_eq_getElem j1) (List.getElem?_eq_getElem j2) z
          rw [ea] at d1
          rw [eb] at d2
          cases d1
          cases d2
          obtain rfl := ref g1
          obtain rfl := ref g2
          rw [ee]
          exact .same
        | false => exact ih j _ _ (List.getElem?_eq_getElem j1) (List.getElem?_eq_getElem j2) z d1 d2 g1 g2)
      rw [List.size_toArray, l1] at this
      exact this
  | @len n x y xs ys ex ey hl =>
    intro vx vy v u r q rv ru
    have sm2 := fun {v : V} => Eqs.same (v := v) sm (Eqs.len (n := n) ex ey hl)
    obtain ⟨p, vs, rfl, e1, r1⟩ := lst_of sm r ex
    obtain ⟨p2, us, rfl, e2, r2⟩ := lst_of sm q ey
    obtain rfl := ref rv
    obtain rfl := ref ru
    by_cases hne : p = p2
    · subst hne; cases sm2 r q
    · obtain ⟨ws, t1, p1, _⟩ := I.list (SqL.of e1)
      obtain ⟨zs, t2, pp2, _⟩ := I.list (SqL.of e2)
      refine .listsLen hne p1.isList pp2.isList ?_
      have l1 : ws.length = xs.length := by rw [← t1.length, r1.length]
      have l2 : zs.length = ys.length := by rw [← t2.length, r2.length]
      simp [l1, l2, hl]
  | @tup n xs ys e hk ih =>
    intro vx vy v u r q rv ru
    have sm2 := fun {v : V} => Eqs.same (v := v) sm (Eqs.tup hk)
    cases r with
    | @tup _ vs p fr e1 r1 =>
      cases q with
      | @tup _ us p2 fr2 e2 r2 =>
        obtain rfl := ref rv
        obtain rfl := ref ru
        by_cases hne : p = p2
        · subst hne; rw [sm2 (.tup fr e1 r1) (.tup fr2 e2 r2)]; exact .same
        · obtain ⟨ws, t1, p1, _⟩ := I.tuple (SqT.of e1)
          obtain ⟨zs, t2, pp2, _⟩ := I.tuple (SqT.of e2)
          have l1 : ws.length = xs.length := by rw [← t1.length, r1.length]
          have l2 : zs.length = ys.length := by rw [← t2.length, r2.length]
          have := PySem.W.EqTree.tuples (prog := X.prog) (w := X.w) (n := n) (e := e) (vs := ws.toArray) (vs' := zs.toArray) hne p1 pp2 (fun j h1 h2 => by
            have j1 : j < xs.length := by simpa [l1] using h1
            have j2 : j < ys.length := by simpa [l2] using h2
            obtain ⟨w1, c1, d1⟩ := r1.get (List.getElem?_eq_getElem j1)
            obtain ⟨w2, c2, d2⟩ := r2.get (List.getElem?_eq_getElem j2)
            obtain ⟨z1, f1, g1⟩ := t1.get c1
            obtain ⟨z2, f2, g2⟩ := t2.get c2
            have k1 : ws.toArray[j] = z1 := by
              have : ws[j]? = some z1 := f1
              rw [List.getElem?_eq_getElem (by simpa using h1)] at this
              simpa using this
            have k2 : zs.toArray[j] = z2 := by
              have : zs[j]? = some z2 := f2
              rw [List.getElem?_eq_getElem (by simpa using h2)] at this
              simpa using this
            rw [k1, k2]
            exact ih j _ _ (List.getElem?_eq_getElem j1) (List.getElem?_eq_getElem j2) d1 d2 g1 g2)
          rw [List.size_toArray, List.size_toArray, l1, l2] at this
          exact this
  | @dct n x y ks ls e ex ey hk ih =>
    intro vx vy v u r q rv ru
    have sm2 := fun {v : V} => Eqs.same (v := v) sm (Eqs.dct ex ey hk)
    obtain ⟨p, vs, rfl, e1, r1⟩ := dct_of sm r ex
    obtain ⟨p2, us, rfl, e2, r2⟩ := dct_of sm q ey
    obtain rfl := ref rv
    obtain rfl := ref ru
    by_cases hne : p = p2
    · subst hne; rw [sm2 r q]; exact .same
    · obtain ⟨m1, ua, q1, D1⟩ := Inv.dic I e1
      obtain ⟨m2, ub, q2, D2⟩ := Inv.dic I e2
      have nd : (ua.map (·.1)).Nodup := by obtain ⟨_, _, _, _, _, _, _, _, nd⟩ := D1; exact nd
      have := PySem.W.EqTree.dicts (prog := X.prog) (w := X.w) (n := n) (e := e) hne m1 m2 D1 D2 (fun k v y hm hv => by
        obtain ⟨a, b, va', vb', ea, eb, ra, rb, ta, tb⟩ := dic_kid r1 r2 q1 q2 nd hm hv
        exact ih k a b ea eb ra rb ta tb)
      rw [dic_ans r1 r2 q1 q2] at this
      exact this
end
end L3
namespace PySem
open Sem (wp)
open PySem.W (KdxIt kdx_alive)
section
variable {prog : Program} {w : World} {A : Around} {E : Value → Shared → Prop} {s : Shared} {z TI TO T i1 i2 : Addr} {fq fr : List Addr} {nq nr i : Nat} {Pq Pr : Nat → Value → Prop} {Sq Sr : Nat → Heap → Prop} {ff : Bool} {oT : Obj}
theorem zipH_item {Q : Value → Shared → Prop} (S : ZipSep2 z TI TO i1 i2 fq fr) (D1 : Draws prog w A i1 fq nq Pq Sq) (D2 : Draws prog w A i2 fr nr Pr Sr)
    (hz : IsZipHeld s.heap z TI TO T ff) (hT : s.heap.get? T = some oT) (hTI : IsTupOf2 s.heap TI (.ref i1) (.ref i2)) (st1 : Sq i s.heap) (st2 : Sr i s.heap) (lq : i < nq) (lr : i < nr)
    (hQ : ∀ xq xr h' tk, Pq i xq → Pr i xr → IsZipHeld h' z TI TO T true → Sq (i + 1) h' → Sr (i + 1) h' → IsTupOf2 h' s.heap.objs.size xq xr → h'.objs.size = s.heap.objs.size + 1 →
      (∀ c o, c ≠ z → c ≠ i1 → c ≠ i2 → s.heap.get? c = some o → h'.get? c = some o) → Q (.ref s.heap.objs.size) { s with heap := h', toks := tk }) :
    wpAny (model prog w) A (Builtin.«zip.__next__» ⟨[.ref z], []⟩) (fun fin s' => ∃ v, fin = .done (.ret v) ∧ Q v s') E s := by
  obtain ⟨hp, g, dd, tk, os⟩ := s
  show wpAny _ _ (field (.ref z) 2 >>= _) _ _ ⟨hp, g, dd, tk, os⟩
  refine wpAny_bind (wpAny_field hz rfl (x := .bool false) rfl ?_)
  show wpAny _ _ (field (.ref z) 3 >>= _) _ _ ⟨hp, g, dd, tk, os⟩
  refine wpAny_bind (wpAny_field hz rfl (x := .ref TI) rfl (wpAny_bind (wpAny_seqItems hTI rfl ?_)))
  show wpAny _ _ (Builtin.SmallTypes.ownedTupleIsFree (.ref z) >>= _) _ _ ⟨hp, g, dd, tk, os⟩
  refine wpAny_bind (wpAny_tupleHeld_zip hz hT fun ha hza hsa => ?_)
  replace hsa : Heap.SameBut z hp ha := hsa
  simp only [Bool.false_eq_true, if_false]
  refine wpAny_bind ?_
  rw [← Array.forIn_toList]
  simp only [List.forIn_cons, List.forIn_nil]
  refine wpAny_bind (wpAny_bind (wpAny_holding ?_))
  show wpAny _ _ (Builtin.SmallTypes.nextOf (.ref i1) >>= _) _ _ ⟨ha, g, dd, tk, os⟩
  refine wpAny_bind (D1.item i _ _ _ lq (D1.over st1 hsa S.zf1) fun xq hb tb pq sb hsb => wpAny_pure ?_)
  replace hsb : Heap.SameBut i1 ha hb := hsb
  refine wpAny_pure ?_
  refine wpAny_bind (wpAny_bind (wpAny_holding ?_))
  show wpAny _ _ (Builtin.SmallTypes.nextOf (.ref i2) >>= _) _ _ ⟨hb, g, dd, tb, os⟩
  refine wpAny_bind (D2.item i _ _ _ lr (D2.over (D2.over st2 hsa S.zf2) hsb S.sep1_2) fun xr hc tc pr sc hsc => wpAny_pure ?_)
  replace hsc : Heap.SameBut i2 hb hc := hsc
  refine wpAny_pure (wpAny_pure ?_)
  show wpAny _ _ (newTuple [xq, xr] >>= _) _ _ ⟨hc, g, dd, tc, os⟩
  refine wpAny_bind (wpAny_newTuple ?_)
  have hN : hc.objs.size = hp.objs.size := by rw [hsc.1, hsb.1, hsa.1]
  have hzc : IsZipHeld hc z TI TO T true := hsc.extBut _ _ S.zi2 (hsb.extBut _ _ S.zi1 hza)
  have keep : ∀ c o, c ≠ z → c ≠ i1 → c ≠ i2 → hp.get? c = some o → hc.get? c = some o := fun c o c1 c2 c3 e => hsc.extBut _ _ c3 (hsb.extBut _ _ c2 (hsa.extBut _ _ c1 e))
  have sq : Sq (i + 1) hc := D1.over sb hsc S.sep2_1
  refine wpAny_pure ⟨_, rfl, ?_⟩
  show Q (.ref hc.objs.size) ⟨hc.push { cls := .type "tuple", data := .seq #[xq, xr] }, g, dd, tc, os⟩
  have hpr : IsTupOf2 (hc.push { cls := .type "tuple", data := .seq #[xq, xr] }) hc.objs.size xq xr := Heap.get?_push_size _ rfl
  have hz4 : (hc.push { cls := .type "tuple", data := .seq #[xq, xr] }).objs.size = hc.objs.size + 1 := Heap.size_push ..
  rw [hN] at hpr hz4 ⊢
  exact hQ xq xr _ tc pq pr (Heap.get?_push_of_some _ hzc) (D1.frame _ _ _ sq fun b _ o e => Heap.get?_push_of_some _ e) (D2.frame _ _ _ sc fun b _ o e => Heap.get?_push_of_some _ e) hpr hz4 fun c o c1 c2 c3 e => Heap.get?_push_of_some _ (keep c o c1 c2 c3 e)
theorem zipH_end {Q : Fin → Shared → Prop} (S : ZipSep2 z TI TO i1 i2 fq fr) (D1 : Draws prog w A i1 fq nq Pq Sq) (D2 : Draws prog w A i2 fr nr Pr Sr)
    (hz : IsZipHeld s.heap z TI TO T ff) (hT : s.heap.get? T = some oT) (hTI : IsTupOf2 s.heap TI (.ref i1) (.ref i2)) (st1 : Sq i s.heap) (st2 : Sr i s.heap) (lq : i ≤ nq) (lr : i ≤ nr) (hend : i = nq ∨ i = nr)
    (hE : ∀ h' tk e, (∀ c o, c ≠ z → c ≠ i1 → c ≠ i2 → s.heap.get? c = some o → h'.get? c = some o) → (∃ o, h'.get? e = some o ∧ o.cls = .type "StopIteration") → E (.ref e) { s with heap := h', toks := tk }) :
    wpAny (model prog w) A (Builtin.«zip.__next__» ⟨[.ref z], []⟩) Q E s := by
  obtain ⟨hp, g, dd, tk, os⟩ := s
  show wpAny _ _ (field (.ref z) 2 >>= _) _ _ ⟨hp, g, dd, tk, os⟩
  refine wpAny_bind (wpAny_field hz rfl (x := .bool false) rfl ?_)
  show wpAny _ _ (field (.ref z) 3 >>= _) _ _ ⟨hp, g, dd, tk, os⟩
  refine wpAny_bind (wpAny_field hz rfl (x := .ref TI) rfl (wpAny_bind (wpAny_seqItems hTI rfl ?_)))
  show wpAny _ _ (Builtin.SmallTypes.ownedTupleIsFree (.ref z) >>= _) _ _ ⟨hp, g, dd, tk, os⟩
  refine wpAny_bind (wpAny_tupleHeld_zip hz hT fun ha hza hsa => ?_)
  replace hsa : Heap.SameBut z hp ha := hsa
  simp only [Bool.false_eq_true, if_false]
  refine wpAny_bind ?_
  rw [← Array.forIn_toList]
  simp only [List.forIn_cons, List.forIn_nil]
  refine wpAny_bind (wpAny_bind (wpAny_holding ?_))
  show wpAny _ _ (Builtin.SmallTypes.nextOf (.ref i1) >>= _) _ _ ⟨ha, g, dd, tk, os⟩
  by_cases l1 : i < nq
  · refine wpAny_bind (D1.item i _ _ _ l1 (D1.over st1 hsa S.zf1) fun xq hb tb pq sb hsb => wpAny_pure ?_)
    replace hsb : Heap.SameBut i1 ha hb := hsb
    have e2 : i = nr := by omega
    refine wpAny_pure ?_
    refine wpAny_bind (wpAny_bind (wpAny_holding ?_))
    show wpAny _ _ (Builtin.SmallTypes.nextOf (.ref i2) >>= _) _ _ ⟨hb, g, dd, tb, os⟩
    refine wpAny_bind (D2.done ⟨hb, g, dd, tb, os⟩ _ _ (by rw [← e2]; exact D2.over (D2.over st2 hsa S.zf2) hsb S.sep1_2) fun q e hq he => ?_)
    exact hE q tb e (fun c o c1 c2 c3 x => hq _ _ c3 (hsb.extBut _ _ c2 (hsa.extBut _ _ c1 x))) he
  · have e1 : i = nq := by omega
    refine wpAny_bind (D1.done ⟨ha, g, dd, tk, os⟩ _ _ (by rw [← e1]; exact D1.over st1 hsa S.zf1) fun q e hq he => ?_)
    exact hE q tk e (fun c o c1 c2 c3 x => hq _ _ c2 (hsa.extBut _ _ c1 x)) he
theorem next_zipH_item {Q : Option Value → Shared → Prop} (S : ZipSep2 z TI TO i1 i2 fq fr) (D1 : Draws prog w A.in1 i1 fq nq Pq Sq) (D2 : Draws prog w A.in1 i2 fr nr Pr Sr)
    (hz : IsZipHeld s.heap z TI TO T ff) (hT : s.heap.get? T = some oT) (hTI : IsTupOf2 s.heap TI (.ref i1) (.ref i2)) (st1 : Sq i s.heap) (st2 : Sr i s.heap) (lq : i < nq) (lr : i < nr)
    (hQ : ∀ xq xr h' tk, Pq i xq → Pr i xr → IsZipHeld h' z TI TO T true → Sq (i + 1) h' → Sr (i + 1) h' → IsTupOf2 h' s.heap.objs.size xq xr → h'.objs.size = s.heap.objs.size + 1 →
      (∀ c o, c ≠ z → c ≠ i1 → c ≠ i2 → s.heap.get? c = some o → h'.get? c = some o) → Q (some (.ref s.heap.objs.size)) { s with heap := h', toks := tk }) : wpAny (model prog w) A (pyNext (.ref z)) Q E s := by
  have ty : s.TypeIs (.ref z) "zip" := ⟨_, hz, rfl⟩
  unfold pyNext
  exact wpAny_bind (wpAny_attempt (wpAny_callSpecial?_slot (name := Str.ofString "__next__") ty F.slot_zip_next (wpAny_call_entry F.slot_zip_next ty F.entry_zip_next
    (zipH_item S D1 D2 hz hT hTI st1 st2 lq lr fun xq xr h' tk pq pr b1 b2 b3 b4 b5 b6 => wpAny_pure (hQ xq xr h' tk pq pr b1 b2 b3 b4 b5 b6)) (F.args_zip_next_1 _))))
theorem next_zipH_end {Q : Option Value → Shared → Prop} (S : ZipSep2 z TI TO i1 i2 fq fr) (D1 : Draws prog w A.in1 i1 fq nq Pq Sq) (D2 : Draws prog w A.in1 i2 fr nr Pr Sr)
    (hz : IsZipHeld s.heap z TI TO T ff) (hT : s.heap.get? T = some oT) (hTI : IsTupOf2 s.heap TI (.ref i1) (.ref i2)) (st1 : Sq i s.heap) (st2 : Sr i s.heap) (lq : i ≤ nq) (lr : i ≤ nr) (hend : i = nq ∨ i = nr)
    (hQ : ∀ h' tk, (∀ c o, c ≠ z → c ≠ i1 → c ≠ i2 → s.heap.get? c = some o → h'.get? c = some o) → Q none { s with heap := h', toks := tk }) : wpAny (model prog w) A (pyNext (.ref z)) Q E s := by
  have ty : s.TypeIs (.ref z) "zip" := ⟨_, hz, rfl⟩
  unfold pyNext
  refine wpAny_bind (wpAny_attempt (wpAny_callSpecial?_slot (name := Str.ofString "__next__") ty F.slot_zip_next (wpAny_call_entry F.slot_zip_next ty F.entry_zip_next
    (zipH_end S D1 D2 hz hT hTI st1 st2 lq lr hend fun h' tk e hk he => ?_) (F.args_zip_next_1 _))))
  obtain ⟨o, ho, hc⟩ := he
  exact wpAny_bind (wpAny_isInstance (T := "StopIteration") (b := true) ⟨o, ho, hc⟩ isSubtype_stop (wpAny_pure (hQ _ _ hk)))
end
theorem PairArg.zipD {prog : Program} {w : World} {z TI TO i1 i2 : Addr} {fq fr : List Addr} {nq nr : Nat} {Pq Pr : Nat → Value → Prop} {Sq Sr : Nat → Heap → Prop} (S : ZipSep2 z TI TO i1 i2 fq fr)
    (DD1 : ∀ A : Around, A.handled = none → Draws prog w A i1 fq nq Pq Sq) (DD2 : ∀ A : Around, A.handled = none → Draws prog w A i2 fr nr Pr Sr) (th1 : ∀ h, Sq 0 h → ∀ b ∈ fq, ∃ o, h.get? b = some o) (th2 : ∀ h, Sr 0 h → ∀ b ∈ fr, ∃ o, h.get? b = some o) (A0 : ∃ A : Around, A.handled = none) :
    PairArg prog w "zip" z (z :: TI :: TO :: (fq ++ fr)) [z, TO, i1, i2] (min nq nr) (fun i k v => Pq i k ∧ Pr i v)
      (fun h => IsZip h z TI TO .none ∧ IsTupOf2 h TI (.ref i1) (.ref i2) ∧ (∃ a b, IsTupOf2 h TO a b) ∧ Sq 0 h ∧ Sr 0 h) where
  type := fun s ok => ⟨_, ok.1, rfl⟩
  notDict := by decide
  keep := fun h h' ok hk => by
    obtain ⟨A, hA⟩ := A0
    obtain ⟨hz, hTI, ⟨a, b, hTO⟩, h1, h2⟩ := ok
    exact ⟨hk _ _ hz, hk _ _ hTI, ⟨a, b, hk _ _ hTO⟩, (DD1 A hA).frame _ _ _ h1 fun b _ o e => hk _ o e, (DD2 A hA).frame _ _ _ h2 fun b _ o e => hk _ o e⟩
  there := fun h ok b hb => by
    obtain ⟨hz, hTI, ⟨a, c, hTO⟩, h1, h2⟩ := ok
    rcases List.mem_cons.mp hb with rfl | hb
    · exact ⟨_, hz⟩
    rcases List.mem_cons.mp hb with rfl | hb
    · exact ⟨_, hTI⟩
    rcases List.mem_cons.mp hb with rfl | hb
    · exact ⟨_, hTO⟩
    rcases List.mem_append.mp hb with hb | hb
    · exact th1 h h1 b hb
    · exact th2 h h2 b hb
  sub := fun b hb => by
    have hb' : b = z ∨ b = TO ∨ b = i1 ∨ b = i2 := by simpa using hb
    rcases hb' with rfl | rfl | rfl | rfl
    · simp
    · simp
    · simp [S.mem1]
    · simp [S.mem2]
  noKeys := fun A s Q E hA ok h => getAttrOr_miss_zip ok.1 rfl rfl rfl zip_no_keys (by decide +kernel) hA h
  iter := fun A s d Q E hA ok hd hdf h => by
    obtain ⟨hz, hTI, ⟨a, b, hTO⟩, h1, h2⟩ := ok
    have D1 := DD1 A.in1 hA
    have D2 := DD2 A.in1 hA
    simp only [List.mem_cons, List.mem_append, not_or] at hdf
    obtain ⟨dz, dTI, dTO, dq, dr⟩ := hdf
    have di1 : d ≠ i1 := fun e => dq (e ▸ S.mem1)
    have di2 : d ≠ i2 := fun e => dr (e ▸ S.mem2)
    refine wpAny_pyIter_zip hz (h z [z, TO, i1, i2] (fun i h => IsTupOf2 h TI (.ref i1) (.ref i2) ∧ Sq i h ∧ Sr i h ∧
      ((IsZip h z TI TO .none ∧ ∃ a b, IsTupOf2 h TO a b) ∨ ∃ T f oT, IsZipHeld h z TI TO T f ∧ h.get? T = some oT ∧ T ≠ z ∧ T ≠ i1 ∧ T ≠ i2 ∧ T ≠ d)) s.heap s.toks ?_
      ⟨hTI, h1, h2, .inl ⟨hz, a, b, hTO⟩⟩ (fun _ _ e => e) fun b hb => .inl hb)
    refine ⟨fun hm => ?_, fun i ha hb st hk => ?_, fun i s₁ Q₁ E₁ hi st hds hQ => ?_, fun s₁ Q₁ E₁ st hQ => ?_⟩
    · have hm' : d = z ∨ d = TO ∨ d = i1 ∨ d = i2 := by simpa using hm
      rcases hm' with e | e | e | e
      · exact dz e
      · exact dTO e
      · exact di1 e
      · exact di2 e
    · obtain ⟨hTI, h1, h2, hz⟩ := st
      refine ⟨hk _ _ (Ne.symm dTI) hTI, D1.frame _ _ _ h1 fun b hb o e => hk _ o (fun q => dq (q ▸ hb)) e, D2.frame _ _ _ h2 fun b hb o e => hk _ o (fun q => dr (q ▸ hb)) e, ?_⟩
      rcases hz with ⟨hz, a, b, hTO⟩ | ⟨T, f, oT, hz, hT, r1, r2, r3, r4⟩
      · exact .inl ⟨hk _ _ (Ne.symm dz) hz, a, b, hk _ _ (Ne.symm dTO) hTO⟩
      · exact .inr ⟨T, f, oT, hk _ _ (Ne.symm dz) hz, hk _ _ r4 hT, r1, r2, r3, r4⟩
    · obtain ⟨hTI, h1, h2, hz⟩ := st
      have lq : i < nq := Nat.lt_of_lt_of_le hi (Nat.min_le_left ..)
      have lr : i < nr := Nat.lt_of_lt_of_le hi (Nat.min_le_right ..)
      have lt : ∀ {c o}, s₁.heap.get? c = some o → s₁.heap.objs.size ≠ c := fun e => Nat.ne_of_gt (Heap.lt_size e)
      have m1 : s₁.heap.objs.size ≠ i1 := let ⟨_, e⟩ := D1.live _ _ h1; lt e
      have m2 : s₁.heap.objs.size ≠ i2 := let ⟨_, e⟩ := D2.live _ _ h2; lt e
      rcases hz with ⟨hz, a, b, hTO⟩ | ⟨T, f, oT, hz, hT, r1, r2, r3, r4⟩
      · refine wpAny_pyNext_zipD2_item S D1 D2 hz hTI hTO h1 h2 lq lr fun xq xr h' tk pq pr b1 b2 b3 b4 b5 b6 hk => ?_
        exact hQ s₁.heap.objs.size _ _ h' tk ⟨pq, pr⟩ (.inl ⟨_, b5, rfl, _, rfl⟩) ⟨hk _ _ S.TIz S.TITO S.TIi1 S.TIi2 hTI, b3, b4, .inr ⟨s₁.heap.objs.size, false, _, b1, b5, lt hz, m1, m2, Nat.ne_of_gt hds⟩⟩
          fun c o hc e => hk c o (fun x => hc (by simp [x])) (fun x => hc (by simp [x])) (fun x => hc (by simp [x])) (fun x => hc (by simp [x])) e
      · refine next_zipH_item S D1 D2 hz hT hTI h1 h2 lq lr fun xq xr h' tk pq pr b1 b3 b4 b5 b6 hk => ?_
        exact hQ s₁.heap.objs.size _ _ h' tk ⟨pq, pr⟩ (.inl ⟨_, b5, rfl, _, rfl⟩) ⟨hk _ _ S.TIz S.TIi1 S.TIi2 hTI, b3, b4, .inr ⟨T, true, oT, b1, hk _ _ r1 r2 r3 hT, r1, r2, r3, r4⟩⟩
          fun c o hc e => hk c o (fun x => hc (by simp [x])) (fun x => hc (by simp [x])) (fun x => hc (by simp [x])) e
    · obtain ⟨hTI, h1, h2, hz⟩ := st
      have hend : min nq nr = nq ∨ min nq nr = nr := by omega
      rcases hz with ⟨hz, a, b, hTO⟩ | ⟨T, f, oT, hz, hT, r1, r2, r3, r4⟩
      · exact wpAny_pyNext_zipD2_end S D1 D2 hz hTI hTO h1 h2 (Nat.min_le_left ..) (Nat.min_le_right ..) hend fun h' tk hk => hQ h' tk fun c o hc e => hk c o (fun x => hc (by simp [x])) (fun x => hc (by simp [x])) (fun x => hc (by simp [x])) (fun x => hc (by simp [x])) e
      · exact next_zipH_end S D1 D2 hz hT hTI h1 h2 (Nat.min_le_left ..) (Nat.min_le_right ..) hend fun h' tk hk => hQ h' tk fun c o hc e => hk c o (fun x => hc (by simp [x])) (fun x => hc (by simp [x])) (fun x => hc (by simp [x])) e
end PySem
namespace L2
open PySem PySem.Spec PyProof.Rows
def tDZip (K : PySem.W.Frag) (ta : TA) : TE := fun σ H Q => ta σ H fun vs H1 => ∃ (a b : Addr) (ks : List Key) (ys : List V), vs = [.ref a, .ref b] ∧ SqL K H1 a (ks.map kV) ∧ (SqL K H1 b ys ∨ SqT K H1 b ys) ∧
  ∀ p, H1 p = none → Q (.ref p) (upd H1 p (.dK (mergeK [] (ks.zip ys))))
section
variable {X : Cx} {pins : List (Addr × Obj)} {s : Shared} {σ : L2.St} {H : Hp}
theorem zip_kv {ks : List Key} {ys : List V} {us ws : List Value} (r1 : Vals (ks.map kV) us) (r2 : Vals ys ws) : KV (ks.zip ys) (ks.zip ws) := by
  induction ks generalizing ys us ws with
  | nil => exact .nil
  | cons k ks ih =>
    cases r2 with
    | nil => exact .nil
    | cons h t =>
      cases r1 with
      | cons h' t' => exact .cons ⟨rfl, h⟩ (ih t' t)
theorem dzip_run {a b : Addr} {ks : List Key} {ys : List V} {us ws : List Value} {o2 : Obj} {H2 : Heap → Prop} {St2 : Nat → Heap → Prop} {E : Value → Shared → Prop} {Q : Value → Shared → Prop} (I : Inv X pins σ H s) (hc : X.calm = true) (hl : s.heap.IsList a us.toArray) (r1 : Vals (ks.map kV) us) (r2 : Vals ys ws) (hz : us.length ≤ sizeLine) (ha : a < s.heap.objs.size) (hb : b < s.heap.objs.size)
    (B2 : Begins (.ref b) o2 H2) (h2 : H2 s.heap) (S2 : ∀ h', h'.get? (s.heap.objs.size + 1) = some o2 → H2 h' → St2 0 h') (D2 : ∀ A : Around, A.handled = none → Draws X.prog X.w A (s.heap.objs.size + 1) [s.heap.objs.size + 1, b] ws.length (fun i v => ws[i]? = some v) St2)
    (th2 : ∀ h, St2 0 h → ∀ c ∈ [s.heap.objs.size + 1, b], ∃ o, h.get? c = some o) (B2k : ∀ h', (∀ c o, s.heap.get? c = some o → h'.get? c = some o) → H2 h')
    (q : ∀ p s', Inv X pins σ (upd H p (.dK (mergeK [] (ks.zip ys)))) s' → H p = none → Q (.ref p) s') :
    wpAny (model X.prog X.w) X.A (call (.type "zip") [.ref a, .ref b]) (fun v s1 => wpAny (model X.prog X.w) X.A (call (.type "dict") [v]) Q E s1) E s := by
  have hh := I.ok.hd hc
  refine zip_begins2 (begins_list a us.toArray) B2 hl h2 fun h' hzp hTI hTO g1 g2 hsz hk => ?_
  have hl' : h'.IsList a us.toArray := hl.at fun o e => hk a o e
  have hne : a ≠ s.heap.objs.size := Nat.ne_of_lt ha
  have P := PairArg.zipD (prog := X.prog) (w := X.w) (fq := [s.heap.objs.size, a]) (fr := [s.heap.objs.size + 1, b]) (Sq := fun i h => h.IsListIter s.heap.objs.size a i ∧ h.IsList a us.toArray)
    (zip_sep2 (N := s.heap.objs.size) (fp1 := [a]) (fp2 := [b]) (by simpa using ha) (by simpa using hb)) (fun A hA => Draws.list hA _ a hne us.toArray) D2
    (fun h st c hc => by
      have hc' : c = s.heap.objs.size ∨ c = a := by simpa using hc
      rcases hc' with rfl | rfl
      · obtain ⟨⟨o, e, _⟩, _⟩ := st; exact ⟨o, e⟩
      · obtain ⟨_, ⟨o, e, _⟩⟩ := st; exact ⟨o, e⟩) th2 ⟨X.A, hh⟩
  have hlen : (ks.zip ws).length = min us.toArray.size ws.length := by
    rw [List.length_zip, List.size_toArray, ← r1.length, List.length_map]
  refine PySem.call_dict_pairs (knd := mixKind X.prog X.w) (kvs := ks.zip ws) P hh ⟨hzp, hTI, ⟨_, _, hTO⟩, ⟨⟨_, g1, rfl, rfl⟩, hl'⟩, S2 h' g2 (B2k h' hk)⟩ ⟨hlen, ?_⟩ (by rw [List.size_toArray]; omega) fun h'' tk hd hk2 => ?_
  · intro i key v hr
    obtain ⟨e1, e2⟩ := hr
    have e1' : us[i]? = some key := by simpa using e1
    obtain ⟨hi, _⟩ := List.getElem?_eq_some_iff.mp e1'
    have hi' : i < ks.length := by have := r1.length; rw [List.length_map] at this; omega
    obtain ⟨u, eu, ru⟩ := r1.get (i := i) (x := kV ks[i]) (by simp [hi'])
    rw [e1'] at eu
    cases eu
    refine ⟨ks[i], ?_, kV_is ru⟩
    rw [List.getElem?_zip_eq_some]
    exact ⟨List.getElem?_eq_getElem hi', e2⟩
  · have big := I.big
    have N1 : h'.objs.size = s.heap.objs.size + 5 := hsz
    have hp : s.heap.objs.size ≤ h'.objs.size := by omega
    have hm : (h'.objs.size == sysModules) = false := beq_eq_false_iff_ne.mpr (Nat.ne_of_gt (Nat.lt_of_lt_of_le big hp))
    have kv := zip_kv r1 r2
    have I2 := I.laid (t' := tk) (h' := h'') (a := h'.objs.size) (o := .dK (mergeK [] (ks.zip ys))) (fun c o e => hk2 c o (fun hm => by
        have lt := Heap.lt_size e
        have hm' : c = s.heap.objs.size + 4 ∨ c = s.heap.objs.size + 3 ∨ c = s.heap.objs.size ∨ c = s.heap.objs.size + 1 := by simpa using hm
        rcases hm' with rfl | rfl | rfl | rfl
        · exact absurd lt (Nat.not_lt.mpr (Nat.le_add_right _ _))
        · exact absurd lt (Nat.not_lt.mpr (Nat.le_add_right _ _))
        · exact absurd lt (Nat.lt_irrefl _)
        · exact absurd lt (Nat.not_lt.mpr (Nat.le_add_right _ _))) (hk c o e)) hp
      (show ObjOk X.prog X.w _ _ _ (.dK (mergeK [] (ks.zip ys))) from ⟨by
        refine Nat.le_trans (length_mergeK _ []) ?_
        rw [List.length_nil, Nat.zero_add, List.length_zip]
        have := r1.length
        rw [List.length_map] at this
        omega, hm, merged [] (ks.zip ws), KV.merge kv .nil, hd⟩)
    exact q _ _ I2 (I.hok.fresh hp)
theorem pe_dzip {e e2 : Expr} {ta : TA} {p p2 pos pos2 : Pos} (hc : X.calm = true) (hg : Gl X "dict") (hm : X.mg "dict" = none) (hg2 : Gl X "zip") (hm2 : X.mg "zip" = none) (ha : PA X [e, e2] ta)
    (hs : starEach [e, e2] X.env = (false, eval e X.env) :: starEach [e2] X.env := by rfl) (hpl : (backTo pos2 (starEach [e2] X.env)).any (·.1) = false := by rfl)
    (na : starEach [.Call (.Name "zip" p2) [e, e2] [] pos2] X.env = (false, eval (.Call (.Name "zip" p2) [e, e2] [] pos2) X.env) :: starEach [] X.env := by rfl) :
    PE X (.Call (.Name "dict" p) [.Call (.Name "zip" p2) [e, e2] [] pos2] [] pos) (tDZip X.K ta) := by
  refine ⟨fun pins s σ H Q I h => ?_⟩
  refine Call_ (ld_blt I hg hm boot_dict (PyProof.Rows.callWith_type1 (PyProof.Rows.args_cons ?_ na) na rfl))
  refine Call_ (ld_blt I hg2 hm2 PyProof.Rows.boot_zip (PyProof.Rows.callWith_type1 (thn (ha.run pos2 pins s σ H _ I h) fun us s1 ⟨vs, H1, I1, r1, q1⟩ => ?_) hs hpl))
  obtain ⟨a, b, ks, ys, ex, hqa, hqb, q1⟩ := q1
  subst ex
  obtain ⟨x1, x2, rfl, rx1, rx2⟩ := r1.two
  obtain rfl : x1 = Value.ref a := rx1
  obtain rfl : x2 = Value.ref b := rx2
  obtain ⟨ua, ra, pa, za⟩ := I1.list hqa
  have hz : ua.length ≤ sizeLine := by rw [← ra.length]; exact za
  have fin : ∀ p s', Inv X pins σ (upd H1 p (.dK (mergeK [] (ks.zip ys)))) s' → H1 p = none → EP X pins σ Q (.ref p) s' := fun p s' I' hp => ⟨.ref p, _, I', rfl, q1 p hp⟩
  have wrap : ∀ {s2 : Shared} {v : Value}, wpAny (model X.prog X.w) X.A (call (.type "dict") [v]) (EP X pins σ Q) X.xe s2 →
      wpAny (model X.prog X.w) X.A (spliced (backTo pos (starEach [] X.env))) (fun vs s2 => wpAny (model X.prog X.w) X.A (call (.type "dict") (v :: vs)) (EP X pins σ Q) X.xe s2) X.xe s2 := fun h => PyProof.Rows.args_nil h
  rcases hqb with hqb | hqb
  · obtain ⟨ub, rb, pb, _⟩ := I1.list hqb
    have nb : b ≠ s1.heap.objs.size + 1 := Nat.ne_of_lt (Nat.lt_succ_of_lt pb.lt)
    refine thn (dzip_run I1 hc pa.isList ra rb hz pa.lt pb.lt (begins_list b ub.toArray) pb.isList (St2 := fun i h => h.IsListIter (s1.heap.objs.size + 1) b i ∧ h.IsList b ub.toArray) (fun h' e hl => ⟨⟨_, e, rfl, rfl⟩, hl⟩)
      (fun A hA => ?_) (fun h st c hc => ?_) (fun h' k => pb.isList.at fun o e => k b o e) fin) ?_
    · have := Draws.list (prog := X.prog) (w := X.w) hA (s1.heap.objs.size + 1) b nb ub.toArray
      simpa using this
    · have hc' : c = s1.heap.objs.size + 1 ∨ c = b := by simpa using hc
      rcases hc' with rfl | rfl
      · obtain ⟨⟨o, e, _⟩, _⟩ := st; exact ⟨o, e⟩
      · obtain ⟨_, ⟨o, e, _⟩⟩ := st; exact ⟨o, e⟩
    · exact fun v s2 h => wrap h
  · obtain ⟨ub, rb, pb, _⟩ := I1.tuple hqb
    have lb : b < s1.heap.objs.size := by obtain ⟨o, e, _⟩ := pb; exact Heap.lt_size e
    have nb : b ≠ s1.heap.objs.size + 1 := Nat.ne_of_lt (Nat.lt_succ_of_lt lb)
    have pt : s1.heap.IsTuple b ub.toArray := pb
    refine thn (dzip_run I1 hc pa.isList ra rb hz pa.lt lb (begins_tuple b ub.toArray) pt (St2 := fun i h => h.IsTupleIter (s1.heap.objs.size + 1) b i ∧ h.IsTuple b ub.toArray) (fun h' e hl => ⟨⟨_, e, rfl, rfl⟩, hl⟩)
      (fun A hA => ?_) (fun h st c hc => ?_) (fun h' k => pt.at fun o e => k b o e) fin) ?_
    · have := Draws.tuple (prog := X.prog) (w := X.w) hA (s1.heap.objs.size + 1) b nb ub.toArray
      simpa using this
    · have hc' : c = s1.heap.objs.size + 1 ∨ c = b := by simpa using hc
      rcases hc' with rfl | rfl
      · obtain ⟨⟨o, e, _⟩, _⟩ := st; exact ⟨o, e⟩
      · obtain ⟨_, ⟨o, e, _⟩⟩ := st; exact ⟨o, e⟩
    · exact fun v s2 h => wrap h
end
end L2
namespace PySem.W
section
open PySem PySem.Spec
variable {prog : Program} {w : World} {κ : Type} [DecidableEq κ] {knd : KeyKind prog w κ} {A : Around} {E : Value → Shared → Prop} {s : Shared}
theorem keq_neIn {a b : Addr} {ka kb : List (κ × Value)} {r : Bool} {Q : Value → Shared → Prop} (ma : (a == sysModules) = false) (mb : (b == sysModules) = false) (da : s.heap.DictOf knd a ka) (db : s.heap.DictOf knd b kb) (hu : A.units < cLine)
    (hits : ka.length = kb.length → KeqHitsIn prog w A.in1 s kb ka r) (h : Q (.bool (!(ka.length == kb.length && r))) s) : wpAny (model prog w) A (compareOp .NotEq (.ref a) (.ref b)) Q E s := by
  refine wpAny_richCompare_same_room (op := .NotEq) da.typeIs db.typeIs PySem.F.slot_dict_ne (wpAny_call_entry PySem.F.slot_dict_ne da.typeIs PySem.F.entry_dict_ne (show wpAny _ _ (Builtin.Dict.dictSlotArgs "__ne__" ⟨[.ref a, .ref b], []⟩ >>= _) _ _ s from wpAny_bind ?_) (PySem.F.args_dict_ne_2 _ _)) hu
  unfold Builtin.Dict.dictSlotArgs
  refine wpAny_bind (wpAny_notOrdered_dict da.typeIs (show wpAny _ _ (pure (Value.ref a, Value.ref b)) _ _ s from wpAny_pure ?_))
  refine wpAny_bind (wpAny_isInstance (T := "dict") db.typeIs PySem.F.sub_dict_dict ?_)
  simp only [Bool.not_true, Bool.false_eq_true, if_false]
  refine wpAny_bind (wpAny_pure (wpAny_bind (wpAny_pure (wpAny_bind (keq_samePairsIn ma mb da db hits (wpAny_pure ⟨_, rfl, ?_, ?_⟩))))))
  · exact fun x => nomatch x
  · simpa using h
end
end PySem.W
namespace L3
open PySem PySem.Spec PyProof.Rows L2
section
variable {X : Cx} {Z : Zn X.kn}
def rEqX (X : Cx) (op : CmpOp) : R2 := fun x y H Q => ∃ b, (∀ pins s σ v u, Inv X pins σ H s → RelV x v → RelV y u → ∀ (E Q' : Value → Shared → Prop), Q' (.bool b) s → wpAny (model X.prog X.w) X.A (compareOp op v u) Q' E s) ∧ Q (.bl b) H
theorem op_X {op : CmpOp} : OpR X (compareOp op) (rEqX X op) := fun pins s σ H x y v u Q I rx ry ⟨b, h, q⟩ => h pins s σ v u I rx ry _ _ ⟨.bl b, H, I, rfl, q⟩
def bigD : D → Bool
  | .tup _ => false
  | x => !flatD x
def gEqX : G2 := fun x y μ R => (∃ b, eqS x y = some b ∧ R (.bl b) μ) ∨ ∃ n b, n ≤ 60 ∧ flatD x = false ∧ Eqs μ n x y b ∧ R (.bl b) μ
def gNeX : G2 := fun x y μ R => (∃ b, eqS x y = some b ∧ R (.bl (!b)) μ) ∨ ∃ n b, n ≤ 60 ∧ bigD x = true ∧ Eqs μ n x y b ∧ R (.bl (!b)) μ
theorem arr_get {us : List Value} {j : Nat} {z : Value} (h : us[j]? = some z) (h1 : j < us.toArray.size) : us.toArray[j] = z := by
  rw [List.getElem?_eq_getElem (by simpa using h1)] at h
  simpa using h
theorem kid_tree {F : Addr → Prop} {H : Hp} {μ : Mu} {n : Nat} {x y : D} {b same : Bool} {vx vy : V} {v u : Value} {pins : List (Addr × Obj)} {s : Shared} {σ : L2.St} (sm : Sim Z F H μ) (I : Inv X pins σ H s) (h : same = false → Eqs μ n x y b) (hs : same = true → (∃ p, x = .ref p ∧ y = .ref p) ∧ b = true)
    (rx : Rp X.kn F H x vx) (ry : Rp X.kn F H y vy) (rv : RelV vx v) (ru : RelV vy u) : PySem.W.EqTree X.prog X.w s n v u b := by
  cases same with
  | false => exact (h rfl).tree sm I rx ry rv ru
  | true =>
    obtain ⟨⟨p, rfl, rfl⟩, rfl⟩ := hs rfl
    cases rx
    cases ry
    obtain rfl : v = Value.ref p := rv
    obtain rfl : u = Value.ref p := ru
    exact .same
theorem eq_run {k : Nat} (hr : RoomG k X.A) {F : Addr → Prop} {H : Hp} {μ : Mu} {n : Nat} {x y : D} {b : Bool} {vx vy : V} {v u : Value} {pins : List (Addr × Obj)} {s : Shared} {σ : L2.St} (sm : Sim Z F H μ) (I : Inv X pins σ H s) (hn : n ≤ 60) (hx : flatD x = false) (h : Eqs μ n x y b)
    (rx : Rp X.kn F H x vx) (ry : Rp X.kn F H y vy) (rv : RelV vx v) (ru : RelV vy u) (E Q : Value → Shared → Prop) (q : Q (.bool b) s) : wpAny (model X.prog X.w) X.A (compareOp .Eq v u) Q E s := by
  have hu : X.A.units + 64 < cLine := by have := hr.rm.un; omega
  have ref : ∀ {a : Addr} {v : Value}, RelV (.ref a) v → v = .ref a := fun h => h
  cases h with
  | flat h1 h2 => rw [hx] at h1; cases h1
  | @lstR m _ _ xs ys e same ex ey hl hk hs =>
    obtain ⟨p, vs, rfl, e1, r1⟩ := lst_of sm rx ex
    obtain ⟨p2, us, rfl, e2, r2⟩ := lst_of sm ry ey
    obtain rfl := ref rv
    obtain rfl := ref ru
    obtain ⟨ws, t1, p1, _⟩ := I.list (SqL.of e1)
    obtain ⟨zs, t2, pp2, _⟩ := I.list (SqL.of e2)
    have l1 : ws.length = xs.length := by rw [← t1.length, r1.length]
    have l2 : zs.length = ys.length := by rw [← t2.length, r2.length]
    refine PySem.W.eq_listsT (n := m) (e := e) p1.isList pp2.isList (by simp [l1, l2, hl]) (fun j h1 h2 => ?_) (by omega) (by rw [List.size_toArray, l1]; exact q)
    have j1 : j < xs.length := by simpa [l1] using h1
    have j2 : j < ys.length := by simpa [l2] using h2
    obtain ⟨w1, c1, d1⟩ := r1.get (List.getElem?_eq_getElem j1)
    obtain ⟨w2, c2, d2⟩ := r2.get (List.getElem?_eq_getElem j2)
    obtain ⟨z1, f1, g1⟩ := t1.get c1
    obtain ⟨z2, f2, g2⟩ := t2.get c2
    rw [arr_get f1 h1, arr_get f2 h2]
    exact kid_tree sm I (hk j _ _ (List.getElem?_eq_getElem j1) (List.getElem?_eq_getElem j2)) (hs j _ _ (List.getElem?_eq_getElem j1) (List.getElem?_eq_getElem j2)) d1 d2 g1 g2
  | @len m _ _ xs ys ex ey hl =>
    obtain ⟨p, vs, rfl, e1, r1⟩ := lst_of sm rx ex
    obtain ⟨p2, us, rfl, e2, r2⟩ := lst_of sm ry ey
    obtain rfl := ref rv
    obtain rfl := ref ru
    obtain ⟨ws, t1, p1, _⟩ := I.list (SqL.of e1)
    obtain ⟨zs, t2, pp2, _⟩ := I.list (SqL.of e2)
    have l1 : ws.length = xs.length := by rw [← t1.length, r1.length]
    have l2 : zs.length = ys.length := by rw [← t2.length, r2.length]
    exact SeqAt.RcAt.lists_lengths p1.isList pp2.isList (by simp [l1, l2, hl]) (by omega) X.prog X.w E Q q
  | @tup m xs ys e hk =>
    cases rx with
    | @tup _ vs p fr e1 r1 =>
      cases ry with
      | @tup _ us p2 fr2 e2 r2 =>
        obtain rfl := ref rv
        obtain rfl := ref ru
        obtain ⟨ws, t1, p1, _⟩ := I.tuple (SqT.of e1)
        obtain ⟨zs, t2, pp2, _⟩ := I.tuple (SqT.of e2)
        have l1 : ws.length = xs.length := by rw [← t1.length, r1.length]
        have l2 : zs.length = ys.length := by rw [← t2.length, r2.length]
        refine PySem.W.eq_tuplesT (n := m) (e := e) (vs := ws.toArray) (vs' := zs.toArray) p1 pp2 (fun j h1 h2 => ?_) (by omega) (by rw [List.size_toArray, List.size_toArray, l1, l2]; exact q)
        have j1 : j < xs.length := by simpa [l1] using h1
        have j2 : j < ys.length := by simpa [l2] using h2
        obtain ⟨w1, c1, d1⟩ := r1.get (List.getElem?_eq_getElem j1)
        obtain ⟨w2, c2, d2⟩ := r2.get (List.getElem?_eq_getElem j2)
        obtain ⟨z1, f1, g1⟩ := t1.get c1
        obtain ⟨z2, f2, g2⟩ := t2.get c2
        rw [arr_get f1 h1, arr_get f2 h2]
        exact (hk j _ _ (List.getElem?_eq_getElem j1) (List.getElem?_eq_getElem j2)).tree sm I d1 d2 g1 g2
  | @dct m _ _ ks ls e ex ey hk =>
    obtain ⟨p, vs, rfl, e1, r1⟩ := dct_of sm rx ex
    obtain ⟨p2, us, rfl, e2, r2⟩ := dct_of sm ry ey
    obtain rfl := ref rv
    obtain rfl := ref ru
    obtain ⟨m1, ua, q1, D1⟩ := L3.Inv.dic I e1
    obtain ⟨m2, ub, q2, D2⟩ := L3.Inv.dic I e2
    have nd : (ua.map (·.1)).Nodup := by obtain ⟨_, _, _, _, _, _, _, _, nd⟩ := D1; exact nd
    refine PySem.W.eq_dictsT (n := m) (e := e) m1 m2 D1 D2 (fun k v y hm hv => ?_) (by omega) (by rw [dic_ans r1 r2 q1 q2]; exact q)
    obtain ⟨a, b, va', vb', ea, eb, ra, rb, ta, tb⟩ := dic_kid r1 r2 q1 q2 nd hm hv
    exact (hk k a b ea eb).tree sm I ra rb ta tb
theorem ne_run {k : Nat} (hr : RoomG k X.A) {F : Addr → Prop} {H : Hp} {μ : Mu} {n : Nat} {x y : D} {b : Bool} {vx vy : V} {v u : Value} {pins : List (Addr × Obj)} {s : Shared} {σ : L2.St} (sm : Sim Z F H μ) (I : Inv X pins σ H s) (hn : n ≤ 60) (hx : bigD x = true) (h : Eqs μ n x y b)
    (rx : Rp X.kn F H x vx) (ry : Rp X.kn F H y vy) (rv : RelV vx v) (ru : RelV vy u) (E Q : Value → Shared → Prop) (q : Q (.bool (!b)) s) : wpAny (model X.prog X.w) X.A (compareOp .NotEq v u) Q E s := by
  have hu : X.A.units + 64 < cLine := by have := hr.rm.un; omega
  have ref : ∀ {a : Addr} {v : Value}, RelV (.ref a) v → v = .ref a := fun h => h
  cases h with
  | flat h1 h2 => cases x <;> first | (cases hx; done) | cases h1
  | @lstR m _ _ xs ys e same ex ey hl hk hs =>
    obtain ⟨p, vs, rfl, e1, r1⟩ := lst_of sm rx ex
    obtain ⟨p2, us, rfl, e2, r2⟩ := lst_of sm ry ey
    obtain rfl := ref rv
    obtain rfl := ref ru
    obtain ⟨ws, t1, p1, _⟩ := I.list (SqL.of e1)
    obtain ⟨zs, t2, pp2, _⟩ := I.list (SqL.of e2)
    have l1 : ws.length = xs.length := by rw [← t1.length, r1.length]
    have l2 : zs.length = ys.length := by rw [← t2.length, r2.length]
    refine SeqAt.rcNeIn_lists (e := e) p1.isList pp2.isList (by simp [l1, l2, hl]) (by omega) (fun j h1 h2 => ?_) (by rw [List.size_toArray, l1]; exact q)
    have j1 : j < xs.length := by simpa [l1] using h1
    have j2 : j < ys.length := by simpa [l2] using h2
    obtain ⟨w1, c1, d1⟩ := r1.get (List.getElem?_eq_getElem j1)
    obtain ⟨w2, c2, d2⟩ := r2.get (List.getElem?_eq_getElem j2)
    obtain ⟨z1, f1, g1⟩ := t1.get c1
    obtain ⟨z2, f2, g2⟩ := t2.get c2
    rw [arr_get f1 h1, arr_get f2 h2]
    exact (kid_tree sm I (hk j _ _ (List.getElem?_eq_getElem j1) (List.getElem?_eq_getElem j2)) (hs j _ _ (List.getElem?_eq_getElem j1) (List.getElem?_eq_getElem j2)) d1 d2 g1 g2).at X.A.in1 (by show X.A.units + 1 + _ < cLine; omega)
  | @len m _ _ xs ys ex ey hl =>
    obtain ⟨p, vs, rfl, e1, r1⟩ := lst_of sm rx ex
    obtain ⟨p2, us, rfl, e2, r2⟩ := lst_of sm ry ey
    obtain rfl := ref rv
    obtain rfl := ref ru
    obtain ⟨ws, t1, p1, _⟩ := I.list (SqL.of e1)
    obtain ⟨zs, t2, pp2, _⟩ := I.list (SqL.of e2)
    have l1 : ws.length = xs.length := by rw [← t1.length, r1.length]
    have l2 : zs.length = ys.length := by rw [← t2.length, r2.length]
    exact SeqAt.RcNeAt.lists_lengths p1.isList pp2.isList (by simp [l1, l2, hl]) (by omega) X.prog X.w E Q q
  | @tup m xs ys e hk => cases hx
  | @dct m _ _ ks ls e ex ey hk =>
    obtain ⟨p, vs, rfl, e1, r1⟩ := dct_of sm rx ex
    obtain ⟨p2, us, rfl, e2, r2⟩ := dct_of sm ry ey
    obtain rfl := ref rv
    obtain rfl := ref ru
    obtain ⟨m1, ua, q1, D1⟩ := L3.Inv.dic I e1
    obtain ⟨m2, ub, q2, D2⟩ := L3.Inv.dic I e2
    have nd : (ua.map (·.1)).Nodup := by obtain ⟨_, _, _, _, _, _, _, _, nd⟩ := D1; exact nd
    refine PySem.W.keq_neIn m1 m2 D1 D2 (by omega) (fun _ => PySem.W.KeqHitsIn.of (e := e) _ fun k v y hm hv => ?_) (by rw [dic_ans r1 r2 q1 q2]; exact q)
    obtain ⟨a, b, va', vb', ea, eb, ra, rb, ta, tb⟩ := dic_kid r1 r2 q1 q2 nd hm hv
    exact ((hk k a b ea eb).tree sm I ra rb ta tb).at X.A.in1 (by show X.A.units + 1 + _ < cLine; omega)
theorem o_eqX {k : Nat} (hr : RoomG k X.A) : OpL X Z (compareOp .Eq) gEqX := by
  have h0 : OpL X Z (compareOp .Eq) (fun x y μ R => ∃ n b, n ≤ 60 ∧ flatD x = false ∧ Eqs μ n x y b ∧ R (.bl b) μ) := ⟨_, op_X, fun F H μ x y vx vy R Q s rx ry q kk => by
    obtain ⟨n, b, hn, hx, h, q⟩ := q
    exact ⟨b, fun pins sh σ v u I rv ru E Q' q' => eq_run hr s I hn hx h rx ry rv ru E Q' q', kk F _ H _ μ (Step.refl s) (.bl b) q⟩⟩
  refine (o_eqS.or h0).imp fun x y μ R h => h.imp (fun ⟨b, e, q⟩ => ?_) id
  unfold gEqS; rw [e]; exact q
theorem o_neX {k : Nat} (hr : RoomG k X.A) : OpL X Z (compareOp .NotEq) gNeX := by
  have h0 : OpL X Z (compareOp .NotEq) (fun x y μ R => ∃ n b, n ≤ 60 ∧ bigD x = true ∧ Eqs μ n x y b ∧ R (.bl (!b)) μ) := ⟨_, op_X, fun F H μ x y vx vy R Q s rx ry q kk => by
    obtain ⟨n, b, hn, hx, h, q⟩ := q
    exact ⟨!b, fun pins sh σ v u I rv ru E Q' q' => ne_run hr s I hn hx h rx ry rv ru E Q' q', kk F _ H _ μ (Step.refl s) (.bl (!b)) q⟩⟩
  refine (o_neS.or h0).imp fun x y μ R h => h.imp (fun ⟨b, e, q⟩ => ?_) id
  unfold gNeS; rw [e]; exact q
theorem rpsS_of {K : Kn} {F : Addr → Prop} {H : Hp} : ∀ {ns : List Str} {vs : List V}, Rps K F H (ns.map D.str) vs → vs = ns.map V.str
  | [], _, .nil => rfl
  | _ :: _, _, .cons h t => by cases h; rw [rpsS_of t]; rfl
def gSorted : GA := fun ds μ R => ∃ (x : D) (xs : List Str), ds = [x] ∧ (rdL μ x = some (xs.map D.str) ∨ ∃ kvs, dctOf μ x = some kvs ∧ kvs.map (·.1) = xs.map Sum.inr) ∧ xs.length < 64 ∧
  ∀ ys : List Str, ys.Perm xs → sortedS ys = true → R (.lst (ys.map D.str)) μ
theorem c_sorted (hc : X.calm = true) : CallL X Z (.builtin "sorted") gSorted := ⟨_, CallR.or cr_sortedS (call_sortedD hc), fun F H μ ds vs R Q s rs q k => by
  obtain ⟨x, xs, rfl, e, h64, q⟩ := q
  obtain ⟨v, rfl, r⟩ := one_of rs
  have fin : ∀ (ys : List Str) (p : Addr), ys.Perm xs → sortedS ys = true → H p = none → Q (.ref p) (upd H p (.lst (ys.map V.str))) := fun ys p hp hs hn => by
    have g := s.frzS (o := .lst (ys.map V.str)) hn
    exact k _ _ _ _ μ g (.lst (.inr rfl) upd_same (rps_strs ys)) (q ys hp hs)
  rcases e with e | ⟨kvs, e, ek⟩
  · obtain ⟨p, us, rfl, sq, rr⟩ := rdl_of s r e
    rw [rpsS_of rr] at sq
    exact .inl ⟨p, xs, rfl, sq, h64, fin⟩
  · obtain ⟨p, ks, rfl, rd, rk⟩ := dct_of s r e
    exact .inr ⟨p, ks, xs, rfl, rd, by rw [← rk.keys]; exact ek, h64, fin⟩⟩
def gMin1 : GA := fun ds μ R => ∃ (x : D) (ns : List Int), ds = [x] ∧ rdL μ x = some (ns.map D.int) ∧ 0 < ns.length ∧ ∀ m, m ∈ ns → (∀ y, y ∈ ns → m ≤ y) → R (.int m) μ
theorem c_min1 (hc : X.calm = true) : CallL X Z (.builtin "min") gMin1 := ⟨_, cr_min hc, fun F H μ ds vs R Q s rs q k => by
  obtain ⟨x, ns, rfl, e, hn, q⟩ := q
  obtain ⟨v, rfl, r⟩ := one_of rs
  obtain ⟨p, us, rfl, sq, rr⟩ := rdl_of s r e
  rw [rpsI_of rr] at sq
  exact ⟨p, ns, rfl, sq, hn, fun m h1 h2 => k F _ H _ μ (Step.refl s) (.int m) (q m h1 h2)⟩⟩
def gDClear : GM := fun x ds μ R => ∃ a kvs, x = .ref a ∧ ds = [] ∧ μ a = some (.dct kvs) ∧ R .non (mset μ a (.dct []))
theorem m_dclear : MtL X Z "dict.clear" "dict" gDClear := ⟨_, mtd_clear, fun F H μ x ds vx vs R Q s rx rs q k => by
  obtain ⟨a, kvs, rfl, rfl, e, q⟩ := q
  cases rx
  cases rs
  obtain ⟨_, ks, e1, _⟩ := s.obj a _ e
  have g := s.putS (o := .dK []) (m := .dct []) e fun _ e' => ⟨[], e', .nil⟩
  exact ⟨a, ks, rfl, rfl, e1, k _ _ _ _ _ g .non q⟩⟩
def vDZip (trk : Bool) (ta : TA3) : TE3 := fun δ μ R => ta δ μ fun ds μ1 => ∃ (x y : D) (ks : List Key) (ys : List D), ds = [x, y] ∧ rdL μ1 x = some (ks.map keyD) ∧ seqOf μ1 y = some ys ∧
  (if trk then ∀ q, μ1 q = none → R (.ref q) (mset μ1 q (.dct (mergeD [] (ks.zip ys)))) else R (.dct (mergeD [] (ks.zip ys))) μ1)
theorem rpsK_of {K : Kn} {F : Addr → Prop} {H : Hp} : ∀ {ks : List Key} {vs : List V}, Rps K F H (ks.map keyD) vs → vs = ks.map kV
  | [], _, .nil => rfl
  | .inl _ :: _, _, .cons h t => by cases h; rw [rpsK_of t]; rfl
  | .inr _ :: _, _, .cons h t => by cases h; rw [rpsK_of t]; rfl
theorem rpk_zip {K : Kn} {F : Addr → Prop} {H : Hp} : ∀ {ks : List Key} {ys : List D} {vs : List V}, Rps K F H ys vs → Rpk K F H (ks.zip ys) (ks.zip vs)
  | [], _, _, _ => .nil
  | _ :: _, _, _, .nil => .nil
  | _ :: _, _, _, .cons h t => .cons h (rpk_zip t)
theorem e_dzip {trk : Bool} {a b : Expr} {ta : TA3} {p p2 pos pos2 : Pos} (hc : X.calm = true) (hm : X.mg "dict" = none) (hm2 : X.mg "zip" = none) (ha : A3 X Z [a, b] ta) (hg : Gl X "dict" := by rfl) (hg2 : Gl X "zip" := by rfl)
    (hs : starEach [a, b] X.env = (false, eval a X.env) :: starEach [b] X.env := by rfl) (hpl : (backTo pos2 (starEach [b] X.env)).any (·.1) = false := by rfl)
    (na : starEach [.Call (.Name "zip" p2) [a, b] [] pos2] X.env = (false, eval (.Call (.Name "zip" p2) [a, b] [] pos2) X.env) :: starEach [] X.env := by rfl) :
    E3 X Z (.Call (.Name "dict" p) [.Call (.Name "zip" p2) [a, b] [] pos2] [] pos) (vDZip trk ta) := (pe_dzip hc hg hm hg2 hm2 ha hs hpl na).imp fun σ H Q h => by
  obtain ⟨F, δ, μ, R, s, sl, h, k⟩ := h
  refine ⟨F, δ, μ, _, s, sl, h, fun F1 vs H1 ds μ1 g r1 q1 => ?_⟩
  obtain ⟨x, y, ks, ys, rfl, ex, ey, q1⟩ := q1
  cases r1 with
  | cons rx r1 => cases r1 with
    | cons ry r1 =>
      cases r1
      obtain ⟨pa, us, rfl, sq, rr⟩ := rdl_of g.sim rx ex
      rw [rpsK_of rr] at sq
      obtain ⟨pb, ws, rfl, sb, rb⟩ := seq_of g.sim ry ey
      have rk : Rpk X.kn F1 H1 (mergeD [] (ks.zip ys)) (mergeK [] (ks.zip ws)) := Rpk.merge (rpk_zip rb) .nil
      refine ⟨pa, pb, ks, ws, rfl, sq, sb, fun q hq => ?_⟩
      cases trk with
      | true =>
        have g2 := g.sim.trkS (o := .dK (mergeK [] (ks.zip ws))) (m := .dct (mergeD [] (ks.zip ys))) hq fun g' e => ⟨_, e, rk.grow g'⟩
        exact k _ _ _ _ _ (g.trans g2) (.ref q) (q1 q (g.sim.free hq))
      | false =>
        have g2 := g.sim.frzS (o := .dK (mergeK [] (ks.zip ws))) hq
        exact k _ _ _ _ μ1 (g.trans g2) (.dct (.inr rfl) (.inl upd_same) (rk.st g2)) q1
end
end L3
namespace L3
open PySem PySem.Spec PyProof.Rows L2
theorem for_ix {Pm : Mu → Prop} {g : TG3} {tb : TS3} {Z : Ends3} (ds : List D) (W : Nat → St3 → Mu → Prop) {δ : St3} {μ : Mu} (w0 : W 0 δ μ) (h0 : ∀ δ μ, W ds.length δ μ → Pm μ ∧ Z.nx δ μ)
    (hs : ∀ k d δ μ, ds[k]? = some d → W k δ μ → Pm μ ∧ ∃ δ', g d δ = some δ' ∧ ∀ N : St3 → Mu → Prop, (∀ δ' μ', W (k + 1) δ' μ' → N δ' μ') → tb { Z with nx := N, ct := N, bk := Z.nx } δ' μ) : forW Pm g tb Z ds δ μ := by
  refine for_ind (W := fun es δ μ => ∃ k, k ≤ ds.length ∧ es = ds.drop k ∧ W k δ μ) ?_ ?_ _ _ _ ⟨0, Nat.zero_le _, rfl, w0⟩
  · rintro δ μ ⟨k, hk, e, w⟩
    have : k = ds.length := by
      have := congrArg List.length e
      rw [List.length_drop] at this
      simp at this
      omega
    subst this
    exact h0 δ μ w
  · rintro d es δ μ ⟨k, hk, e, w⟩
    have hlt : k < ds.length := by
      have := congrArg List.length e
      rw [List.length_drop] at this
      simp at this
      omega
    rw [List.drop_eq_getElem_cons hlt] at e
    obtain ⟨rfl, e2⟩ := List.cons.inj e
    obtain ⟨hP, δ', eg, h⟩ := hs k _ δ μ (List.getElem?_eq_getElem hlt) w
    exact ⟨hP, δ', eg, fun N hN => h N fun δ' μ' w' => hN δ' μ' ⟨k + 1, hlt, e2, w'⟩⟩
theorem for_same {α : Type} {Pm : Mu → Prop} {g : TG3} {tb : TS3} {Z : Ends3} (xs : List α) (e : α → D) (V : St3 → Prop) {δ : St3} {μ : Mu} (hP : Pm μ) (v0 : V δ) (h0 : ∀ δ, V δ → Z.nx δ μ)
    (hs : ∀ x ∈ xs, ∀ δ, V δ → ∃ δ', g (e x) δ = some δ' ∧ ∀ N : St3 → Mu → Prop, (∀ δ', V δ' → N δ' μ) → tb { Z with nx := N, ct := N, bk := Z.nx } δ' μ) : forW Pm g tb Z (xs.map e) δ μ := by
  refine for_ind (W := fun es δ μ' => μ' = μ ∧ V δ ∧ ∃ ys, (∀ y ∈ ys, y ∈ xs) ∧ es = ys.map e) ?_ ?_ _ _ _ ⟨rfl, v0, xs, fun _ h => h, rfl⟩
  · rintro δ μ' ⟨rfl, v, _⟩
    exact ⟨hP, h0 δ v⟩
  · rintro d es δ μ' ⟨rfl, v, ys, hy, e1⟩
    cases ys with
    | nil => cases e1
    | cons y ys =>
      rw [List.map_cons] at e1
      obtain ⟨rfl, rfl⟩ := List.cons.inj e1
      obtain ⟨δ', eg, h⟩ := hs y (hy y List.mem_cons_self) δ v
      exact ⟨hP, δ', eg, fun N hN => h N fun δ' v' => hN δ' _ ⟨rfl, v', ys, fun z hz => hy z (List.mem_cons_of_mem _ hz), rfl⟩⟩
theorem lcg_map {α : Type} {Pm : Mu → Prop} {g : TG3} {te : TE3} {δ : St3} {R : List D → Mu → Prop} {μ : Mu} (e f : α → D) (hP : Pm μ) : ∀ (xs : List α) (acc : List D), (∀ x ∈ xs, ∃ δ', g (e x) δ = some δ' ∧ ∀ R' : DK, R' (f x) μ → te δ' μ R') → acc.length + xs.length ≤ sizeLine → R (acc ++ xs.map f) μ →
    lcW Pm g vYes te δ R (xs.map e) acc μ
  | [], acc, _, _, k => ⟨hP, by simpa using k⟩
  | d :: ds, acc, h, hl, k => by
    rw [List.length_cons] at hl
    obtain ⟨δ', eg, h1⟩ := h d List.mem_cons_self
    refine ⟨hP, by omega, ?_⟩
    rw [eg]
    change (if true = true then te δ' μ (fun y μ2 => lcW Pm g vYes te δ R (ds.map e) (acc ++ [y]) μ2) else lcW Pm g vYes te δ R (ds.map e) acc μ)
    rw [if_pos rfl]
    refine h1 _ (lcg_map e f hP ds (acc ++ [f d]) (fun d' hd => h d' (List.mem_cons_of_mem _ hd)) (by simp; omega) ?_)
    simpa using k
theorem lcg_filter {α : Type} {Pm : Mu → Prop} {g : TG3} {tt : TT3} {te : TE3} {δ : St3} {R : List D → Mu → Prop} {μ : Mu} (p : α → Bool) (e f : α → D) (hP : Pm μ) : ∀ (xs : List α) (acc : List D), (∀ x ∈ xs, ∃ δ', g (e x) δ = some δ' ∧ (∀ R' : Bool → Mu → Prop, R' (p x) μ → tt δ' μ R') ∧
    (p x = true → ∀ R' : DK, R' (f x) μ → te δ' μ R')) → acc.length + xs.length ≤ sizeLine → R (acc ++ (xs.filter p).map f) μ → lcW Pm g tt te δ R (xs.map e) acc μ
  | [], acc, _, _, k => ⟨hP, by simpa using k⟩
  | d :: ds, acc, h, hl, k => by
    rw [List.length_cons] at hl
    obtain ⟨δ', eg, h1, h2⟩ := h d List.mem_cons_self
    refine ⟨hP, by omega, ?_⟩
    rw [eg]
    refine h1 _ ?_
    have h' := fun d' hd => h d' (List.mem_cons_of_mem _ hd)
    cases q : p d with
    | true =>
      rw [if_pos rfl]
      refine h2 q _ (lcg_filter p e f hP ds (acc ++ [f d]) h' (by simp; omega) ?_)
      simpa [List.filter_cons, q] using k
    | false =>
      rw [if_neg Bool.false_ne_true]
      refine lcg_filter p e f hP ds acc h' (by omega) ?_
      simpa [List.filter_cons, q] using k
theorem ty_lst {μ : Mu} {x : D} {xs : List D} (h : lstOf μ x = some xs) : tyD μ x = some "list" := by
  cases x with
  | lst ys => rfl
  | ref a =>
    have h' : (match μ a with
      | some (.lst xs) => some xs
      | _ => none) = some xs := h
    split at h'
    · rename_i e; simp only [tyD, e]
    · cases h'
  | _ => cases h
theorem seq_lst {μ : Mu} {x : D} {xs : List D} (h : lstOf μ x = some xs) : seqOf μ x = some xs := by
  cases x with
  | lst ys => exact h
  | ref a => exact h
  | _ => cases h
theorem lst_ref {μ : Mu} {a : Addr} {xs : List D} (h : μ a = some (.lst xs)) : lstOf μ (.ref a) = some xs := by simp only [lstOf, h]
theorem ref_lst {μ : Mu} {a : Addr} {xs : List D} (h : lstOf μ (.ref a) = some xs) : μ a = some (.lst xs) := by
  have h' : (match μ a with
    | some (.lst xs) => some xs
    | _ => none) = some xs := h
  split at h'
  · rename_i e; cases h'; exact e
  · cases h'
theorem len_lst {μ : Mu} {x : D} {xs : List D} {R : DK} (h : lstOf μ x = some xs) (k : R (.int xs.length) μ) : gLen [x] μ R := gLen_of (seq_lst h) k
theorem sl_lst {μ : Mu} {x : D} {xs : List D} {lo hi : Option Int} {R : DK} (h : lstOf μ x = some xs) (k : R (.lst (cutD xs lo hi)) μ) : gSl x lo hi μ R := by
  cases x with
  | lst ys => exact ⟨_, h, k⟩
  | ref a => exact ⟨_, h, k⟩
  | _ => cases h
theorem enm_lst {μ : Mu} {x : D} {xs : List D} {R : List D → (Mu → Prop) → Mu → Prop} (h : lstOf μ x = some xs) (k : ∀ Pm : Mu → Prop, (∀ μ', lstOf μ' x = some xs → Pm μ') → R (enumD xs) Pm μ) : enmI R μ [x] := by
  cases x with
  | lst ys => cases h; exact k _ fun _ _ => trivial
  | ref a => exact ⟨xs, ref_lst h, k _ fun μ' h' => ref_lst h'⟩
  | _ => cases h
theorem any_lst {μ : Mu} {x : D} {xs : List D} {R : List D → (Mu → Prop) → Mu → Prop} (h : lstOf μ x = some xs) (k : ∀ Pm : Mu → Prop, (∀ μ', lstOf μ' x = some xs → Pm μ') → R xs Pm μ) : anyI R μ x := by
  cases x with
  | lst ys => cases h; exact k _ fun _ _ => trivial
  | ref a => exact ⟨xs, ref_lst h, k _ fun μ' h' => ref_lst h'⟩
  | _ => cases h
theorem Le.mset_new {μ : Mu} {q : Addr} {o : MO} (h : μ q = none) : Le μ (L3.mset μ q o) := (Le.refl μ).mset h
theorem fin_obj {R : DK} {q : Addr} {n : Str} {fs : List (Str × D)} {μ μ' : Mu} (l : Le μ' μ) (e : μ q = some (.ins n fs)) (hn : μ' q = none) (h : R (.obj n fs) μ') : fin R (.ref q) μ := ⟨_, μ', l, .obj e hn (Frf.same fs), h⟩
def sds (l : List Str) : List D := l.map D.str
theorem sds_flat (l : List Str) : (sds l).all flatD = true := by simp [sds, flatD]
theorem in_sds (x : Str) (l : List Str) : inD (.str x) (sds l) = decide (x ∈ l) := by
  induction l with
  | nil => rfl
  | cons a r ih =>
    unfold sds inD at ih ⊢
    rw [List.map_cons, List.any_cons, ih]
    show (a == x || _) = _
    rw [Bool.eq_iff_iff]
    simp only [Bool.or_eq_true, beq_iff_eq, decide_eq_true_eq, List.mem_cons]
    constructor
    · rintro (h | h)
      · exact .inl h.symm
      · exact .inr h
    · rintro (h | h)
      · exact .inl h.symm
      · exact .inr h
theorem sds_get {l : List Str} {i : Nat} {d : D} (h : (sds l)[i]? = some d) : ∃ s, l[i]? = some s ∧ d = .str s := by
  unfold sds at h
  rw [List.getElem?_map] at h
  obtain ⟨s, e, rfl⟩ := Option.map_eq_some_iff.mp h
  exact ⟨s, e, rfl⟩
theorem cut_to {l : List Str} {i : Nat} (h : i ≤ l.length) : cutD (sds l) none (some (i : Int)) = sds (l.take i) := by
  unfold cutD sds
  rw [HT.sIx_none, HT.sIx_nat, List.length_map, Nat.min_eq_left h, Nat.sub_zero, List.drop_zero, List.map_take]
theorem kl_list : gIsT.kitsB "list" ["list", "tuple"] = some true := by
  unfold gIsT.kitsB; rw [kb_list_list]
theorem kl_tuple : gIsT.kitsB "tuple" ["list", "tuple"] = some true := by
  unfold gIsT.kitsB; rw [kb_tuple_list]; show gIsT.kitsB "tuple" ["tuple"] = _; unfold gIsT.kitsB; rw [kb_tuple_tuple]
end L3
namespace C1
open PySem PySem.Spec L2 L3
local macro_rules | `(tactic| walk_at "l3") => `(tactic| simp only [sSeq, sNext, sIf, sRet, sRetN, sSet, sDrop, sSub, sFor, sAsg, sPar2, sPar3, sCont, sFld3, sFld2, sAug, vVar, vC, vNil, vCons, vOp, vB, vChain, vAnd, vOr, vNot, vAndV, vOrV, vNotV, vIf, vUn, vCB, vLst, vTup, vLstT, vCall, vCal, vMak, vMetA, vFld, vSl, vPart, vNoP, vLc, vLcT, vDc, vBM, vBM0, vGet1, vGet2, vItems, vRev, vLRg, vStar, vDZip, iRg1, iRg2, iRgD, iAny, iEnm, iItm, iVal, vDict0, vDict0T, vDict0N, vDisp, vDispT, vPairs,
  List.getElem?_cons_zero, List.getElem?_cons_succ, List.set_cons_zero, List.set_cons_succ, wipe3, endsOf_rt, endsOf_nx, gLt, gLe, gGt, gGe, L3.gSub, gMul, gMod, gDiv, gPow, g2I, g2I0, gN, gT, gGo, Option.bind_some, gAdd_ii, gAdd_ss, gNeg_i, gMax2_ii, gMin2_ii, gLen_s, gEqS_ii, gEqS_ss, gEqS_bb, gNeS_ii, gNeS_ss, gIsN_n, gNotN_n, gSl_s, isNonD, if_true, if_false, Bool.false_eq_true, Bool.not_true, Bool.not_false])
def intD : D → Bool
  | .int _ => true
  | _ => false
def cntD : D → Bool
  | .int i => decide (0 ≤ i)
  | _ => false
def letters : Str := "abcdefghijklmnopqrstuvwxyz"
def nameT (z : Str) : Bool := decide (1 ≤ z.length ∧ z.length ≤ 8) && z.cps.toList.all fun c => decide (c ∈ letters.cps.toList)
def nameD : D → Bool
  | .str z => nameT z
  | _ => false
theorem isi_int {μ : Mu} {x : D} {n : String} (h : tyD μ x = some n) : ∃ b, kitB n "int" = some b ∧ ((∃ i, x = .int i) ∧ b = true ∨ (∃ i, x = .bl i) ∧ b = true ∨ intD x = false ∧ b = false) := by
  cases x with
  | non => cases h; exact ⟨_, kb_NoneType_int, .inr (.inr ⟨rfl, rfl⟩)⟩
  | bl i => cases h; exact ⟨_, kb_bool_int, .inr (.inl ⟨⟨i, rfl⟩, rfl⟩)⟩
  | int i => cases h; exact ⟨_, kb_int_int, .inl ⟨⟨i, rfl⟩, rfl⟩⟩
  | str i => cases h; exact ⟨_, kb_str_int, .inr (.inr ⟨rfl, rfl⟩)⟩
  | tup i => cases h; exact ⟨_, kb_tuple_int, .inr (.inr ⟨rfl, rfl⟩)⟩
  | etp p i => cases h; exact ⟨_, kb_tuple_int, .inr (.inr ⟨rfl, rfl⟩)⟩
  | lst i => cases h; exact ⟨_, kb_list_int, .inr (.inr ⟨rfl, rfl⟩)⟩
  | dct i => cases h; exact ⟨_, kb_dict_int, .inr (.inr ⟨rfl, rfl⟩)⟩
  | ref a =>
    have h' : (match μ a with
      | some (.lst _) => some "list"
      | some (.dct _) => some "dict"
      | _ => none) = some n := h
    split at h'
    · cases h'; exact ⟨_, kb_list_int, .inr (.inr ⟨rfl, rfl⟩)⟩
    · cases h'; exact ⟨_, kb_dict_int, .inr (.inr ⟨rfl, rfl⟩)⟩
    · cases h'
  | _ => cases h
def sp_is_integer : Sp3 := fun ds μ R => ∃ x n, ds = [x] ∧ tyD μ x = some n ∧ R (.bl (intD x)) μ
def t_is_integer : TS3 := (sRet (vAndV (vCB gIsi (vCons (vVar 0) (vCons (vC (.ty "int")) vNil))) (vNotV (vCB gIsi (vCons (vVar 0) (vCons (vC (.ty "bool")) vNil))))))
theorem pure_is_integer (ds : List D) (μ : Mu) (R : DK) (hl : ds.length = 1) (h : sp_is_integer ds μ R) : t_is_integer (endsOf R) (start3 ["value"] ds) μ := by
  obtain ⟨x, n, rfl, ht, h⟩ := h
  show t_is_integer (endsOf R) [some x] μ
  unfold t_is_integer
  walk_at "l3"
  obtain ⟨b, hb, hc⟩ := isi_int ht
  refine ⟨n, b, ht, hb, ?_⟩
  rcases hc with ⟨⟨i, rfl⟩, rfl⟩ | ⟨⟨i, rfl⟩, rfl⟩ | ⟨hi, rfl⟩
  · cases ht
    exact ⟨_, _, rfl, kb_int_bool, fin_now h⟩
  · cases ht
    exact ⟨_, _, rfl, kb_bool_bool, fin_now h⟩
  · rw [hi] at h
    exact fin_now h
def sp_is_count : Sp3 := fun ds μ R => ∃ x n, ds = [x] ∧ tyD μ x = some n ∧ R (.bl (cntD x)) μ
def t_is_count : TS3 := (sRet (vAndV (vCall 1 sp_is_integer (vCons (vVar 0) vNil)) (vOp gGe (vVar 0) (vC (.int 0)))))
theorem pure_is_count (ds : List D) (μ : Mu) (R : DK) (hl : ds.length = 1) (h : sp_is_count ds μ R) : t_is_count (endsOf R) (start3 ["value"] ds) μ := by
  obtain ⟨x, n, rfl, ht, h⟩ := h
  show t_is_count (endsOf R) [some x] μ
  unfold t_is_count
  walk_at "l3"
  refine ⟨rfl, x, n, rfl, ht, ?_⟩
  cases x with
  | int i => exact fin_now h
  | _ => exact fin_now h
theorem isi_str {μ : Mu} {x : D} {n : String} (h : tyD μ x = some n) : ∃ b, kitB n "str" = some b ∧ ((∃ i, x = .str i) ∧ b = true ∨ nameD x = false ∧ b = false) := by
  cases x with
  | non => cases h; exact ⟨_, kb_NoneType_str, .inr ⟨rfl, rfl⟩⟩
  | bl i => cases h; exact ⟨_, kb_bool_str, .inr ⟨rfl, rfl⟩⟩
  | int i => cases h; exact ⟨_, kb_int_str, .inr ⟨rfl, rfl⟩⟩
  | str i => cases h; exact ⟨_, kb_str_str, .inl ⟨⟨i, rfl⟩, rfl⟩⟩
  | tup i => cases h; exact ⟨_, kb_tuple_str, .inr ⟨rfl, rfl⟩⟩
  | etp p i => cases h; exact ⟨_, kb_tuple_str, .inr ⟨rfl, rfl⟩⟩
  | lst i => cases h; exact ⟨_, kb_list_str, .inr ⟨rfl, rfl⟩⟩
  | dct i => cases h; exact ⟨_, kb_dict_str, .inr ⟨rfl, rfl⟩⟩
  | ref a =>
    have h' : (match μ a with
      | some (.lst _) => some "list"
      | some (.dct _) => some "dict"
      | _ => none) = some n := h
    split at h'
    · cases h'; exact ⟨_, kb_list_str, .inr ⟨rfl, rfl⟩⟩
    · cases h'; exact ⟨_, kb_dict_str, .inr ⟨rfl, rfl⟩⟩
    · cases h'
  | _ => cases h
def sp_is_name : Sp3 := fun ds μ R => ∃ x n, ds = [x] ∧ tyD μ x = some n ∧ (∀ z, x = .str z → z.length ≤ 1000) ∧ R (.bl (nameD x)) μ
def t_is_name_1 : TS3 := (sRet (vCB gAll (vCons (vLc (iAny (vVar 0)) (gN 1) vYes (vOp (gIn false) (vVar 1) (vC (.str "abcdefghijklmnopqrstuvwxyz"))) [1]) vNil)))
def t_is_name : TS3 := sSeq (sIf (vOr (vNot (vB (vCB gIsi (vCons (vVar 0) (vCons (vC (.ty "str")) vNil))))) (vNot (vB (vChain gLe gLe (vC (.int 1)) (vCB gLen (vCons (vVar 0) vNil)) (vC (.int 8)))))) (sRet (vC (.bl false))) sNext) t_is_name_1
theorem pure_is_name (ds : List D) (μ : Mu) (R : DK) (hl : ds.length = 1) (h : sp_is_name ds μ R) : t_is_name (endsOf R) (start3 ["value", "sign"] ds) μ := by
  obtain ⟨x, n, rfl, ht, hz, h⟩ := h
  show t_is_name (endsOf R) [some x, none] μ
  unfold t_is_name t_is_name_1
  walk_at "l3"
  obtain ⟨b, hb, hc⟩ := isi_str ht
  refine ⟨n, b, ht, hb, ?_⟩
  rcases hc with ⟨⟨z, rfl⟩, rfl⟩ | ⟨hi, rfl⟩
  · have hz' := hz z rfl
    have hs : z.length ≤ sizeLine := Nat.le_trans hz' (by decide)
    refine ⟨hs, ?_⟩
    walk_at "l3"
    by_cases h1 : (1 : Int) ≤ z.length
    · by_cases h2 : (z.length : Int) ≤ 8
      · simp only [h1, h2, decide_true, if_true, Bool.not_true, Bool.false_eq_true, if_false]
        refine lc_mapOf _ (fun c => .bl (decide (c ∈ letters.cps.toList))) z.cps.toList [] (fun c hc R' hR => ?_) (by simpa [Str.length] using hs) ?_
        · exact in_s hR
        · refine ⟨_, z.cps.toList.map fun c => decide (c ∈ letters.cps.toList), rfl, ?_, fin_now ?_⟩
          · show some _ = some _
            simp
          · have e : nameD (.str z) = (z.cps.toList.map fun c => decide (c ∈ letters.cps.toList)).all id := by
              show nameT z = _
              unfold nameT
              rw [decide_eq_true (show 1 ≤ z.length ∧ z.length ≤ 8 by omega)]
              simp
            rw [← e]
            exact h
      · simp only [h1, h2, decide_true, decide_false, if_true, Bool.not_false]
        have e : nameD (.str z) = false := by
          show nameT z = _
          unfold nameT
          rw [decide_eq_false (show ¬ (1 ≤ z.length ∧ z.length ≤ 8) by omega)]
          rfl
        rw [e] at h
        exact fin_now h
    · simp only [h1, decide_false, Bool.false_eq_true, if_false, Bool.not_false, if_true]
      have e : nameD (.str z) = false := by
        show nameT z = _
        unfold nameT
        rw [decide_eq_false (show ¬ (1 ≤ z.length ∧ z.length ≤ 8) by omega)]
        rfl
      rw [e] at h
      exact fin_now h
  · rw [hi] at h
    exact fin_now h
structure BoxOk (n : Nat) (c0 c1 c2 : Int) : Prop where
  h0 : 0 ≤ c0
  h1 : 0 ≤ c1
  h2 : c1 < 2147483629
  h3 : 0 ≤ c2
  h4 : c2 ≤ n
def Box (μ : Mu) (b : Addr) (n : Nat) : Prop := ∃ c0 c1 c2, μ b = some (.lst [.int c0, .int c1, .int c2]) ∧ BoxOk n c0 c1 c2
def Onl (b : Addr) (μ μ' : Mu) : Prop := ∀ a, a ≠ b → μ' a = μ a
theorem Onl.refl (b : Addr) (μ : Mu) : Onl b μ μ := fun _ _ => rfl
theorem Onl.trans {b : Addr} {μ μ1 μ2 : Mu} (h : Onl b μ μ1) (k : Onl b μ1 μ2) : Onl b μ μ2 := fun a ha => (k a ha).trans (h a ha)
theorem Box.mono {μ : Mu} {b : Addr} {n m : Nat} (h : Box μ b n) (l : n ≤ m) : Box μ b m := by
  obtain ⟨c0, c1, c2, e, k⟩ := h
  exact ⟨c0, c1, c2, e, k.h0, k.h1, k.h2, k.h3, by have := k.h4; omega⟩
def sp__law_cell : Sp3 := fun ds μ R => ∃ (ns : List Int) (k : Nat), ds = [.scr (ns.map D.int), .int k] ∧ k ≤ 100 ∧ ∀ z, R (.int z) μ
def t__law_cell_1 : TS3 := (sRet (vOp gAdd (vOp gMul (vC (.int 7919)) (vVar 1)) (vC (.int 131))))
def t__law_cell : TS3 := sSeq (sIf (vB (vOp gLt (vVar 1) (vCB gLen (vCons (vVar 0) vNil)))) (sRet (vOp gAt (vVar 0) (vVar 1))) sNext) t__law_cell_1
theorem pure__law_cell (ds : List D) (μ : Mu) (R : DK) (hl : ds.length = 2) (h : sp__law_cell ds μ R) : t__law_cell (endsOf R) (start3 ["_law_script", "_law_k"] ds) μ := by
  obtain ⟨ns, k, rfl, hk, h⟩ := h
  show t__law_cell (endsOf R) [some (.scr (ns.map D.int)), some (.int k)] μ
  unfold t__law_cell t__law_cell_1
  walk_at "l3"
  refine ⟨_, rfl, ?_⟩
  walk_at "l3"
  by_cases hlt : (k : Int) < ((ns.map D.int).length : Nat)
  · simp only [hlt, decide_true, if_true]
    have hk2 : k < ns.length := by simpa using hlt
    refine at_q (xs := ns.map D.int) (d := .int ns[k]) rfl ?_ (fin_now (h _))
    unfold atI ixN
    rw [if_pos (by omega), if_pos hlt]
    simp [hk2]
  · simp only [hlt, decide_false, Bool.false_eq_true, if_false]
    refine ⟨?_, fin_now (h _)⟩
    exact wide_mul (a := 20) (b := 20) (by decide) (by omega) (by decide) (by decide) (by decide)
def sp__law_box : Sp3 := fun ds μ R => ∃ z, ds = [.int z] ∧ ∀ b μ', μ b = none → Onl b μ μ' → Box μ' b 0 → R (.ref b) μ'
def t__law_box : TS3 := (sRet (vLstT (vCons (vCB gMax2 (vCons (vC (.int 0)) (vCons (vOp gSub (vVar 0) (vOp gPow (vC (.int 10)) (vC (.int 18)))) vNil))) (vCons (vOp gMod (vVar 0) (vC (.int 2147483629))) (vCons (vC (.int 0)) vNil)))))
theorem pure__law_box (ds : List D) (μ : Mu) (R : DK) (hl : ds.length = 1) (h : sp__law_box ds μ R) : t__law_box (endsOf R) (start3 ["_law_cell_here"] ds) μ := by
  obtain ⟨z, rfl, h⟩ := h
  show t__law_box (endsOf R) [some (.int z)] μ
  unfold t__law_box
  walk_at "l3"
  refine ⟨⟨by decide, by decide, by decide⟩, ?_⟩
  refine ⟨by decide, (by show 3 ≤ sizeLine; decide), fun q hq => fin_now (h q _ hq (fun a ha => mset_ne ha) ⟨_, _, _, mset_same, ?_⟩)⟩
  exact ⟨by omega, by omega, by omega, by decide, by decide⟩
def sp__law_take : Sp3 := fun ds μ R => ∃ b m n, ds = [.ref b, .int m] ∧ Box μ b n ∧ n < 1099511627776 ∧ 0 < m ∧ m < 1606938044258990275541962092341162602522202993782792835301376 ∧ ∀ r μ', 0 ≤ r → r < m → Onl b μ μ' → Box μ' b (n + 1) → R (.int r) μ'
def t__law_take_4 : TS3 := (sRet (vOp gMod (vOp gDiv (vVar 3) (vC (.int 8))) (vVar 1)))
def t__law_take_3 : TS3 := sSeq (sSet 3 (vOp gMod (vOp gPow (vOp gAdd (vVar 3) (vOp gMul (vC (.int 104729)) (vOp gAt (vVar 0) (vC (.int 2))))) (vC (.int 3))) (vC (.int 2147483587)))) t__law_take_4
def t__law_take_2 : TS3 := sSeq (sSet 3 (vOp gMod (vOp gPow (vOp gAdd (vOp gAdd (vOp gAt (vVar 0) (vC (.int 1))) (vOp gMul (vC (.int 7919)) (vOp gAt (vVar 0) (vC (.int 2))))) (vC (.int 43))) (vC (.int 5))) (vC (.int 2147483647)))) t__law_take_3
def t__law_take_1 : TS3 := sSeq (sSub gSet (vOp gAdd (vOp gAt (vVar 0) (vC (.int 2))) (vC (.int 1))) (vVar 0) (vC (.int 2))) t__law_take_2
def t__law_take : TS3 := sSeq (sIf (vB (vOp gGt (vOp gAt (vVar 0) (vC (.int 0))) (vC (.int 0)))) (sSeq (sSet 2 (vOp gMod (vOp gAt (vVar 0) (vC (.int 0))) (vVar 1))) (sSeq (sSub gSet (vOp gDiv (vOp gAt (vVar 0) (vC (.int 0))) (vVar 1)) (vVar 0) (vC (.int 0))) (sRet (vVar 2)))) sNext) t__law_take_1
theorem pure__law_take (ds : List D) (μ : Mu) (R : DK) (hl : ds.length = 2) (h : sp__law_take ds μ R) : t__law_take (endsOf R) (start3 ["_law_box_here", "_law_many", "_law_digit", "_law_number"] ds) μ := by
  obtain ⟨b, m, n, rfl, ⟨c0, c1, c2, e, k⟩, hn, hm, hm2, h⟩ := h
  show t__law_take (endsOf R) [some (.ref b), some (.int m), none, none] μ
  unfold t__law_take t__law_take_1 t__law_take_2 t__law_take_3 t__law_take_4
  walk_at "l3"
  refine at_r e rfl ?_
  walk_at "l3"
  by_cases hp : 0 < c0
  · simp only [hp, decide_true, if_true]
    refine at_r e rfl ⟨hm, ?_⟩
    refine at_r e rfl ⟨⟨hm, ?_⟩, ?_⟩
    · have := PySem.Flt.log2_lt_of (n := m.natAbs) (k := 200) (by decide) (by omega)
      omega
    · refine set_l e rfl (fin_now ?_)
      refine h _ _ (Int.emod_nonneg _ (by omega)) (Int.emod_lt_of_pos _ hm) (fun a ha => mset_ne ha) ⟨_, _, _, mset_same, ?_⟩
      exact ⟨Int.ediv_nonneg k.h0 (by omega), k.h1, k.h2, k.h3, by have := k.h4; omega⟩
  · simp only [hp, decide_false, Bool.false_eq_true, if_false]
    have k4 := k.h4
    have k3 := k.h3
    have k2 := k.h2
    have k1 := k.h1
    refine at_r e rfl ?_
    rw [gAdd_ii]
    refine set_l (i := 2) (j := 2) (v := .int (c2 + 1)) e rfl ?_
    have e1 : (mset μ b (.lst ([.int c0, .int c1, .int c2].set 2 (.int (c2 + 1))))) b = some (.lst [.int c0, .int c1, .int (c2 + 1)]) := mset_same
    refine at_r e1 rfl (at_r e1 rfl ⟨?_, ?_⟩)
    · exact wide_mul (a := 20) (b := 64) (by decide) (by omega) (by decide) (by decide) (by decide)
    refine ⟨⟨by decide, by decide, by omega⟩, ?_⟩
    refine ⟨(by show (0 : Int) < 2147483647; decide), ?_⟩
    refine at_r e1 rfl ⟨?_, ?_⟩
    · exact wide_mul (a := 20) (b := 64) (by decide) (by omega) (by decide) (by decide) (by decide)
    generalize hx : ((c1 + 7919 * (c2 + 1) + 43) ^ (5 : Int).toNat) % 2147483647 = x1
    have hx0 : 0 ≤ x1 := by rw [← hx]; exact Int.emod_nonneg _ (by decide)
    have hx1 : x1 < 2147483647 := by rw [← hx]; exact Int.emod_lt_of_pos _ (by decide)
    refine ⟨⟨by decide, by decide, by omega⟩, ?_⟩
    refine ⟨(by show (0 : Int) < 2147483587; decide), ?_⟩
    refine ⟨⟨by decide, by decide⟩, hm, fin_now ?_⟩
    refine h _ _ (Int.emod_nonneg _ (by omega)) (Int.emod_lt_of_pos _ hm) (fun a ha => mset_ne ha) ⟨_, _, _, mset_same, ?_⟩
    exact ⟨k.h0, k.h1, k.h2, by omega, by omega⟩
def Keeps (b : Addr) (μ μ' : Mu) : Prop := ∀ a o, a ≠ b → μ a = some o → μ' a = some o
theorem Keeps.refl (b : Addr) (μ : Mu) : Keeps b μ μ := fun _ _ _ h => h
theorem Keeps.onl {b : Addr} {μ μ1 μ2 : Mu} (h : Keeps b μ μ1) (o : Onl b μ1 μ2) : Keeps b μ μ2 := fun a x ha e => by rw [o a ha]; exact h a x ha e
theorem Keeps.fresh {b : Addr} {μ μ1 : Mu} {n : Nat} {q : Addr} (h : Keeps b μ μ1) (bx : Box μ1 b n) (hq : μ1 q = none) : μ q = none ∧ q ≠ b := by
  have hb : q ≠ b := fun e => by obtain ⟨_, _, _, e2, _⟩ := bx; rw [e, e2] at hq; cases hq
  refine ⟨?_, hb⟩
  cases e : μ q with
  | none => rfl
  | some o => rw [h q o hb e] at hq; cases hq
theorem Keeps.put {b : Addr} {μ μ1 : Mu} {q : Addr} {o : MO} (h : Keeps b μ μ1) (hq : μ q = none) : Keeps b μ (mset μ1 q o) := fun a x ha e => by
  have : a ≠ q := fun e' => by rw [e', hq] at e; cases e
  rw [mset_ne this]; exact h a x ha e
theorem Box.put {b : Addr} {μ : Mu} {n : Nat} {q : Addr} {o : MO} (h : Box μ b n) (hq : q ≠ b) : Box (mset μ q o) b n := by
  obtain ⟨c0, c1, c2, e, k⟩ := h
  exact ⟨c0, c1, c2, by rw [mset_ne (Ne.symm hq)]; exact e, k⟩
theorem fin_box {b : Addr} {n : Nat} {μ μ' : Mu} {R : DK} {d : D} (s : Keeps b μ μ') (bx : Box μ' b n) (h : ∀ μ2, Onl b μ μ2 → Box μ2 b n → R d μ2) : fin R d μ' := by
  refine fin_same (μ' := fun a => if a = b then μ' b else μ a) (fun a o e => ?_) (h _ (fun a ha => if_neg ha) ?_)
  · by_cases ha : a = b
    · subst ha; simpa using e
    · exact s a o ha (by simpa [ha] using e)
  · obtain ⟨c0, c1, c2, e, k⟩ := bx
    exact ⟨c0, c1, c2, by simp only [if_true]; exact e, k⟩
end C1
namespace C1
open PySem PySem.Spec L2 L3
local macro_rules | `(tactic| walk_at "l3") => `(tactic| simp only [sSeq, sNext, sIf, sRet, sRetN, sSet, sDrop, sSub, sFor, sAsg, sPar2, sPar3, sCont, sFld3, sFld2, sAug, vVar, vC, vNil, vCons, vOp, vB, vChain, vAnd, vOr, vNot, vAndV, vOrV, vNotV, vIf, vUn, vCB, vLst, vTup, vLstT, vCall, vCal, vMak, vMetA, vFld, vSl, vPart, vNoP, vLc, vLcT, vDc, vBM, vBM0, vGet1, vGet2, vItems, vRev, vLRg, vStar, vDZip, iRg1, iRg2, iRgD, iAny, iEnm, iItm, iVal, vDict0, vDict0T, vDict0N, vDisp, vDispT, vPairs,
  List.getElem?_cons_zero, List.getElem?_cons_succ, List.set_cons_zero, List.set_cons_succ, wipe3, endsOf_rt, endsOf_nx, gLt, gLe, gGt, gGe, L3.gSub, gMul, gMod, gDiv, gPow, g2I, g2I0, gN, gT, gGo, Option.bind_some, gAdd_ii, gAdd_ss, gNeg_i, gMax2_ii, gMin2_ii, gLen_s, gEqS_ii, gEqS_ss, gEqS_bb, gNeS_ii, gNeS_ss, gIsN_n, gNotN_n, gSl_s, isNonD, if_true, if_false, Bool.false_eq_true, Bool.not_true, Bool.not_false])
abbrev Tie := Str × Str × Int
abbrev Lims := List (Str × Int)
def tieD (t : Tie) : D := .tup [.str t.1, .str t.2.1, .int t.2.2]
def limK (l : Lims) : List (Key × D) := l.map fun p => (.inr p.1, .int p.2)
structure EvOk (evs : List Str) : Prop where
  pos : 1 ≤ evs.length
  le : evs.length ≤ 8
  nd : evs.Nodup
  nm : ∀ e ∈ evs, nameT e = true
structure TiOk (evs : List Str) (ties : List Tie) : Prop where
  le : ties.length ≤ 60
  a : ∀ t ∈ ties, t.1 ∈ evs
  b : ∀ t ∈ ties, t.2.1 ∈ evs
  c : ∀ t ∈ ties, 0 ≤ t.2.2
structure LiOk (evs : List Str) (lims : Lims) : Prop where
  nd : (lims.map (·.1)).Nodup
  a : ∀ p ∈ lims, p.1 ∈ evs
  c : ∀ p ∈ lims, 0 ≤ p.2
theorem nameT_len {z : Str} (h : nameT z = true) : z.length ≤ 8 := by
  unfold nameT at h
  rw [Bool.and_eq_true] at h
  have := of_decide_eq_true h.1
  exact this.2
def sp_is_list : Sp3 := fun ds μ R => ∃ x n b, ds = [x] ∧ tyD μ x = some n ∧ gIsT.kitsB n ["list", "tuple"] = some b ∧ R (.bl b) μ
def t_is_list : TS3 := (sRet (vCB gIsT (vCons (vVar 0) (vCons (vTup (vCons (vC (.ty "list")) (vCons (vC (.ty "tuple")) vNil))) vNil))))
theorem pure_is_list (ds : List D) (μ : Mu) (R : DK) (hl : ds.length = 1) (h : sp_is_list ds μ R) : t_is_list (endsOf R) (start3 ["value"] ds) μ := by
  obtain ⟨x, n, b, rfl, ht, hk, h⟩ := h
  show t_is_list (endsOf R) [some x] μ
  unfold t_is_list
  walk_at "l3"
  exact ⟨by decide, _, _, ["list", "tuple"], n, b, rfl, rfl, ht, hk, fin_now h⟩
def sp_need_events : Sp3 := fun ds μ R => ∃ x evs, ds = [x] ∧ lstOf μ x = some (sds evs) ∧ EvOk evs ∧ R .non μ
def t_need_events_1 : TS3 := (sFor (iEnm (vCons (vVar 0) vNil)) (gT [(gN 1), (gN 2)]) (sSeq (sIf (vNot (vB (vCall 1 sp_is_name (vCons (vVar 2) vNil)))) sNever sNext) (sIf (vB (vOp (gIn false) (vVar 2) (vSl (vVar 0) vNoP (vPart (vVar 1))))) sNever sNext)))
def t_need_events : TS3 := sSeq (sIf (vOr (vNot (vB (vCall 1 sp_is_list (vCons (vVar 0) vNil)))) (vNot (vB (vChain gLe gLe (vC (.int 1)) (vCB gLen (vCons (vVar 0) vNil)) (vC (.int 8)))))) sNever sNext) t_need_events_1
theorem pure_need_events (ds : List D) (μ : Mu) (R : DK) (hl : ds.length = 1) (h : sp_need_events ds μ R) : t_need_events (endsOf R) (start3 ["events", "at", "event"] ds) μ := by
  obtain ⟨x, evs, rfl, hx, ok, h⟩ := h
  show t_need_events (endsOf R) [some x, none, none] μ
  unfold t_need_events t_need_events_1
  walk_at "l3"
  have hlen : (sds evs).length = evs.length := by simp [sds]
  refine ⟨rfl, x, _, true, rfl, ty_lst hx, kl_list, ?_⟩
  walk_at "l3"
  refine len_lst hx ?_
  walk_at "l3"
  have p := ok.pos
  have l := ok.le
  rw [hlen]
  simp only [show (1 : Int) ≤ (evs.length : Nat) by omega, show ((evs.length : Nat) : Int) ≤ 8 by omega, decide_true, if_true, Bool.not_true, Bool.false_eq_true, if_false]
  refine enm_lst hx fun Pm hP => ?_
  refine for_ix _ (fun k δ μ' => μ' = μ ∧ ∃ y1 y2, δ = [some x, y1, y2]) ⟨rfl, none, none, rfl⟩ ?_ ?_
  · rintro δ μ' ⟨rfl, y1, y2, rfl⟩
    exact ⟨hP _ hx, fin_now h⟩
  · rintro k d δ μ' hd ⟨rfl, y1, y2, rfl⟩
    have hk : k < (sds evs).length := by
      have := (List.getElem?_eq_some_iff.mp hd).1
      rw [enum_len] at this
      exact this
    rw [enum_get (List.getElem?_eq_getElem hk)] at hd
    cases hd
    obtain ⟨s, es, e2⟩ := sds_get (List.getElem?_eq_getElem hk)
    rw [e2]
    have hm : s ∈ evs := List.mem_of_getElem? es
    refine ⟨hP _ hx, _, rfl, fun N hN => ?_⟩
    walk_at "l3"
    refine ⟨rfl, .str s, "str", rfl, rfl, (fun z e => by cases e; have := nameT_len (ok.nm s hm); omega), ?_⟩
    simp only [nameD, ok.nm s hm, Bool.not_true, Bool.false_eq_true, if_false]
    refine sl_lst hx (in_q rfl rfl ?_ ?_)
    · rw [cut_to (by rw [hlen] at hk; omega)]; exact sds_flat _
    · rw [cut_to (by rw [hlen] at hk; omega), in_sds]
      have : s ∉ evs.take k := fun q => by
        have hk' : k < evs.length := by rw [hlen] at hk; exact hk
        obtain ⟨i, hi, e⟩ := List.getElem_of_mem q
        rw [List.getElem_take] at e
        have hi2 : i < k := by simp at hi; omega
        have : evs[i]'(by omega) = evs[k]'hk' := by
          rw [e]
          have := (List.getElem?_eq_some_iff.mp es).2
          exact this.symm
        have := (List.getElem_inj ok.nd).mp this
        omega
      simp only [this, decide_false, Bool.false_eq_true, if_false]
      exact hN _ _ ⟨rfl, _, _, rfl⟩
def sp_need_event : Sp3 := fun ds μ R => ∃ x evs e, ds = [x, .str e] ∧ lstOf μ x = some (sds evs) ∧ EvOk evs ∧ e ∈ evs ∧ R .non μ
def t_need_event : TS3 := (sIf (vOr (vNot (vB (vCall 1 sp_is_name (vCons (vVar 1) vNil)))) (vB (vOp (gIn true) (vVar 1) (vVar 0)))) sNever sNext)
theorem pure_need_event (ds : List D) (μ : Mu) (R : DK) (hl : ds.length = 2) (h : sp_need_event ds μ R) : t_need_event (endsOf R) (start3 ["events", "name"] ds) μ := by
  obtain ⟨x, evs, e, rfl, hx, ok, he, h⟩ := h
  show t_need_event (endsOf R) [some x, some (.str e)] μ
  unfold t_need_event
  walk_at "l3"
  refine ⟨rfl, .str e, "str", rfl, rfl, (fun z q => by cases q; have := nameT_len (ok.nm e he); omega), ?_⟩
  simp only [nameD, ok.nm e he, Bool.not_true, Bool.false_eq_true, if_false]
  refine in_q (seq_lst hx) rfl (sds_flat _) ?_
  rw [in_sds]
  simp only [he, decide_true, Bool.not_true, if_true, Bool.false_eq_true, if_false]
  exact fin_now h
def sp_need_ties : Sp3 := fun ds μ R => ∃ x evs y ties, ds = [x, y] ∧ lstOf μ x = some (sds evs) ∧ EvOk evs ∧ lstOf μ y = some (ties.map tieD) ∧ TiOk evs ties ∧ R .non μ
def t_need_ties_1 : TS3 := (sFor (iAny (vVar 1)) (gN 2) (sSeq (sIf (vOr (vNot (vB (vCB gIsi (vCons (vVar 2) (vCons (vC (.ty "tuple")) vNil))))) (vB (vOp gNeS (vCB gLen (vCons (vVar 2) vNil)) (vC (.int 3))))) sNever sNext) (sSeq (sDrop (vCall 2 sp_need_event (vCons (vVar 0) (vCons (vOp gAt (vVar 2) (vC (.int 0))) vNil)))) (sSeq (sDrop (vCall 2 sp_need_event (vCons (vVar 0) (vCons (vOp gAt (vVar 2) (vC (.int 1))) vNil)))) (sIf (vNot (vB (vCall 1 sp_is_count (vCons (vOp gAt (vVar 2) (vC (.int 2))) vNil)))) sNever sNext)))))
def t_need_ties : TS3 := sSeq (sIf (vOr (vNot (vB (vCall 1 sp_is_list (vCons (vVar 1) vNil)))) (vB (vOp gGt (vCB gLen (vCons (vVar 1) vNil)) (vC (.int 60))))) sNever sNext) t_need_ties_1
theorem pure_need_ties (ds : List D) (μ : Mu) (R : DK) (hl : ds.length = 2) (h : sp_need_ties ds μ R) : t_need_ties (endsOf R) (start3 ["events", "ties", "tie"] ds) μ := by
  obtain ⟨x, evs, y, ties, rfl, hx, ok, hy, tk, h⟩ := h
  show t_need_ties (endsOf R) [some x, some y, none] μ
  unfold t_need_ties t_need_ties_1
  walk_at "l3"
  refine ⟨rfl, y, _, true, rfl, ty_lst hy, kl_list, ?_⟩
  walk_at "l3"
  refine len_lst hy ?_
  walk_at "l3"
  have l := tk.le
  simp only [List.length_map, show ¬ ((60 : Int) < (ties.length : Nat)) by omega, decide_false, Bool.false_eq_true, if_false]
  refine any_lst hy fun Pm hP => ?_
  refine for_same ties tieD (fun δ => ∃ z, δ = [some x, some y, z]) (hP _ hy) ⟨none, rfl⟩ ?_ ?_
  · rintro δ ⟨z, rfl⟩
    exact fin_now h
  · rintro t ht δ ⟨z, rfl⟩
    refine ⟨_, rfl, fun N hN => ?_⟩
    unfold tieD
    walk_at "l3"
    refine ⟨"tuple", true, rfl, kb_tuple_tuple, ?_⟩
    walk_at "l3"
    refine gLen_of rfl ?_
    have e3 : ((([.str t.1, .str t.2.1, .int t.2.2] : List D).length : Nat) : Int) = 3 := rfl
    simp only [gNeS_ii, e3, decide_true, Bool.not_true, Bool.false_eq_true, if_false]
    refine at_t (d := .str t.1) rfl ⟨rfl, x, evs, t.1, rfl, hx, ok, tk.a t ht, ?_⟩
    refine at_t (d := .str t.2.1) rfl ⟨rfl, x, evs, t.2.1, rfl, hx, ok, tk.b t ht, ?_⟩
    refine at_t (d := .int t.2.2) rfl ⟨rfl, _, _, rfl, rfl, ?_⟩
    simp only [cntD, tk.c t ht, decide_true, Bool.not_true, Bool.false_eq_true, if_false]
    exact hN _ ⟨_, rfl⟩
def sp_need_limits : Sp3 := fun ds μ R => ∃ x evs lims, ds = [x, .dct (limK lims)] ∧ lstOf μ x = some (sds evs) ∧ EvOk evs ∧ LiOk evs lims ∧ R .non μ
def t_need_limits_1 : TS3 := (sFor (iItm (vVar 1)) (gT [(gN 2), (gN 3)]) (sIf (vOr (vNot (vB (vCall 1 sp_is_name (vCons (vVar 2) vNil)))) (vOr (vB (vOp (gIn true) (vVar 2) (vVar 0))) (vNot (vB (vCall 1 sp_is_count (vCons (vVar 3) vNil)))))) sNever sNext))
def t_need_limits : TS3 := sSeq (sIf (vNot (vB (vCB gIsi (vCons (vVar 1) (vCons (vC (.ty "dict")) vNil))))) sNever sNext) t_need_limits_1
theorem pure_need_limits (ds : List D) (μ : Mu) (R : DK) (hl : ds.length = 2) (h : sp_need_limits ds μ R) : t_need_limits (endsOf R) (start3 ["events", "limits", "event", "limit"] ds) μ := by
  obtain ⟨x, evs, lims, rfl, hx, ok, lk, h⟩ := h
  show t_need_limits (endsOf R) [some x, some (.dct (limK lims)), none, none] μ
  unfold t_need_limits t_need_limits_1
  walk_at "l3"
  refine ⟨"dict", true, rfl, kb_dict_dict, ?_⟩
  walk_at "l3"
  refine ⟨_, rfl, ?_⟩
  have e1 : (limK lims).map pairD = lims.map fun p => .tup [.str p.1, .int p.2] := by
    unfold limK; rw [List.map_map]; rfl
  rw [e1]
  refine for_same lims _ (fun δ => ∃ z1 z2, δ = [some x, some (.dct (limK lims)), z1, z2]) trivial ⟨none, none, rfl⟩ ?_ ?_
  · rintro δ ⟨z1, z2, rfl⟩
    exact fin_now h
  · rintro p hp δ ⟨z1, z2, rfl⟩
    refine ⟨_, rfl, fun N hN => ?_⟩
    have hm := lk.a p hp
    walk_at "l3"
    refine ⟨rfl, .str p.1, "str", rfl, rfl, (fun z q => by cases q; have := nameT_len (ok.nm p.1 hm); omega), ?_⟩
    simp only [nameD, ok.nm p.1 hm, Bool.not_true, Bool.false_eq_true, if_false]
    refine in_q (seq_lst hx) rfl (sds_flat _) ?_
    rw [in_sds]
    simp only [hm, decide_true, Bool.not_true, if_true, Bool.false_eq_true, if_false]
    refine ⟨rfl, _, _, rfl, rfl, ?_⟩
    simp only [cntD, lk.c p hp, decide_true, Bool.not_true, Bool.false_eq_true, if_false]
    exact hN _ ⟨_, _, rfl⟩
end C1
namespace L3
open PySem PySem.Spec L2
def asc (z : Str) : Prop := ∀ c ∈ z.cps.toList, c < 128
theorem strOk_asc {z : Str} (h : asc z) : PyData.strOk z = true := by
  unfold PyData.strOk
  rw [← Array.all_toList, List.all_eq_true]
  intro c hc
  have := h c hc
  exact decide_eq_true (by omega)
structure Sm (k B : Nat) (p : PyData) : Prop where
  lay : p.canLay0 = true
  itg : p.intsShort 40 = true
  shw : p.showable = true
  dep : p.depth ≤ k
  blk : p.bulk ≤ B
theorem Sm.mono {k B k' B' : Nat} {p : PyData} (h : Sm k B p) (hk : k ≤ k') (hB : B ≤ B') : Sm k' B' p := ⟨h.lay, h.itg, h.shw, Nat.le_trans h.dep hk, Nat.le_trans h.blk hB⟩
theorem Sm.none {k B : Nat} : Sm k B .none := ⟨rfl, rfl, rfl, Nat.zero_le _, Nat.zero_le _⟩
theorem Sm.bool {k B : Nat} (b : Bool) : Sm k B (.bool b) := ⟨rfl, rfl, rfl, Nat.zero_le _, Nat.zero_le _⟩
theorem Sm.str {k B : Nat} {z : Str} (h : asc z) (hl : z.length ≤ B) : Sm k B (.str z) := ⟨strOk_asc h, rfl, rfl, Nat.zero_le _, hl⟩
theorem ext_l {x y : Str} (h : x.cps.toList = y.cps.toList) : x = y := TL.ext_tl h
theorem text_nat (n : Nat) : (Str.ofString (toString ((n : Nat) : Int))).cps.toList = TL.numL n := TL.tl_num n
theorem text_neg {n : Nat} (h : 0 < n) : (Str.ofString (toString (-(n : Int)))).cps.toList = 45 :: TL.numL n := by
  have e : toString (-(n : Int)) = "-" ++ toString ((n : Nat) : Int) := by
    have := PyProof.Rows.toString_neg (n := -(n : Int)) (by omega)
    rw [this]
    congr 2
    omega
  rw [e]
  have e2 : ∀ x y : Str, (x ++ y).cps.toList = x.cps.toList ++ y.cps.toList := fun x y => by
    show (x.cps ++ y.cps).toList = _
    simp
  have : Str.ofString ("-" ++ toString ((n : Nat) : Int)) = Str.ofString "-" ++ Str.ofString (toString ((n : Nat) : Int)) := by
    apply ext_l; rw [e2, Str.ofString_eq_toList, Str.ofString_eq_toList, Str.ofString_eq_toList]; simp [String.toList_append]
  rw [this]
  rw [e2, text_nat]
  rfl
theorem show_int {i : Int} (h : i.natAbs < 10 ^ 31) : (PyData.int i).shown.length ≤ 40 := by
  have e : (PyData.int i).shown = Str.ofString (toString i) := by simp [PyData.shown]
  rw [e]
  have len : ∀ n : Nat, n < 10 ^ 31 → (TL.numL n).length ≤ 31 := fun n hn => TL.numL_len (by decide) hn
  have lz : ∀ x : Str, x.length = x.cps.toList.length := fun x => by simp [Str.length]
  rcases Int.eq_nat_or_neg i with ⟨n, rfl | rfl⟩
  · rw [lz, text_nat]
    have := len n (by simpa using h)
    omega
  · by_cases h0 : 0 < n
    · rw [lz, text_neg h0]
      have := len n (by simpa using h)
      simp only [List.length_cons]
      omega
    · obtain rfl : n = 0 := by omega
      decide +kernel
theorem log_int {i : Int} (h : i.natAbs < 10 ^ 31) : i.natAbs.log2 < 1920 := by
  have := PySem.Flt.log2_lt_of (n := i.natAbs) (k := 110) (by decide) (Nat.lt_trans h (by decide))
  omega
theorem Sm.int {k B : Nat} {i : Int} (h : i.natAbs < 10 ^ 31) : Sm k B (.int i) := ⟨rfl, decide_eq_true (show_int h), decide_eq_true (log_int h), Nat.zero_le _, Nat.zero_le _⟩
theorem sm_all {k B : Nat} : ∀ {ps : List PyData}, (∀ p ∈ ps, Sm k B p) → PyData.canLayAll0 ps = true ∧ PyData.intsShortAll 40 ps = true ∧ PyData.showableAll ps = true ∧ PyData.depthAll ps ≤ k ∧ PyData.bulkAll ps ≤ ps.length * (B + 1)
  | [], _ => ⟨rfl, rfl, rfl, Nat.zero_le _, Nat.zero_le _⟩
  | p :: r, h => by
    obtain ⟨a, b, c, d, e⟩ := sm_all fun q hq => h q (List.mem_cons_of_mem _ hq)
    have s := h p List.mem_cons_self
    refine ⟨by simp [PyData.canLayAll0, a, s.lay], by simp [PyData.intsShortAll, b, s.itg], by simp [PyData.showableAll, c, s.shw], ?_, ?_⟩
    · simp only [PyData.depthAll]; have := s.dep; omega
    · simp only [PyData.bulkAll, List.length_cons, Nat.add_mul]; have := s.blk; omega
theorem Sm.list {k B n : Nat} {ps : List PyData} (h : ∀ p ∈ ps, Sm k B p) (hn : ps.length ≤ n) : Sm (k + 1) (n * (B + 1)) (.list ps) := by
  obtain ⟨a, b, c, d, e⟩ := sm_all h
  exact ⟨a, b, c, by simp only [PyData.depth]; omega, by simp only [PyData.bulk]; exact Nat.le_trans e (Nat.mul_le_mul_right _ hn)⟩
theorem Sm.tuple {k B n : Nat} {ps : List PyData} (h : ∀ p ∈ ps, Sm k B p) (hn : ps.length ≤ n) : Sm (k + 1) (n * (B + 1)) (.tuple ps) := by
  obtain ⟨a, b, c, d, e⟩ := sm_all h
  exact ⟨a, b, c, by simp only [PyData.depth]; omega, by simp only [PyData.bulk]; exact Nat.le_trans e (Nat.mul_le_mul_right _ hn)⟩
theorem Sm.shaped {k B : Nat} {p : PyData} (h : Sm k B p) (hk : k ≤ 64) : SeqAt.shaped p = true := by
  unfold SeqAt.shaped
  rw [h.lay, decide_eq_true (Nat.le_trans h.dep hk)]; rfl
theorem Sm.shown {k B : Nat} {p : PyData} (h : Sm k B p) (hk : k ≤ 64) (hB : B ≤ 300000) : ShowOk p := by
  refine ⟨h.shw, PyData.hasDict_of_canLay p h.lay, Nat.le_trans h.dep (by omega), ?_⟩
  have := PyData.shown_le_bulk 40 (by decide) p (PyData.leavesShort_of_canLay0 40 p h.lay h.itg)
  have e : sizeLine = 16777216 := by decide
  have := h.blk
  omega
theorem sh_sds {μ : Mu} : ∀ l : List Str, Shs μ (sds l) (l.map PyData.str)
  | [] => .nil
  | w :: r => .cons (.str w) (sh_sds r)
theorem sh_lst {μ : Mu} {x : D} {l : List Str} (h : lstOf μ x = some (sds l)) : Sh μ x (.list (l.map PyData.str)) := by
  cases x with
  | lst ys => cases h; exact .lst (sh_sds l)
  | ref a => exact .ref (ref_lst h) (sh_sds l)
  | _ => cases h
theorem eqv_nil (l : List Str) : PyData.eqv (.list (l.map PyData.str)) (.list []) = decide (l = []) := by cases l <;> rfl
theorem eqv_sds : ∀ (l r : List Str), PyData.eqvAll (l.map PyData.str) (r.map PyData.str) = decide (l = r)
  | [], [] => rfl
  | [], _ :: _ => rfl
  | _ :: _, [] => rfl
  | a :: l, b :: r => by
    rw [List.map_cons, List.map_cons, PyData.eqvAll, eqv_sds l r]
    have : PyData.eqv (.str a) (.str b) = decide (a = b) := by
      simp only [PyData.eqv]
      rw [Bool.eq_iff_iff]; simp
    rw [this, Bool.eq_iff_iff]; simp
end L3
namespace C1
open PySem PySem.Spec L2 L3
local macro_rules | `(tactic| walk_at "l3") => `(tactic| simp only [sSeq, sNext, sIf, sRet, sRetN, sSet, sDrop, sSub, sFor, sAsg, sPar2, sPar3, sCont, sFld3, sFld2, sAug, vVar, vC, vNil, vCons, vOp, vB, vChain, vAnd, vOr, vNot, vAndV, vOrV, vNotV, vIf, vUn, vCB, vLst, vTup, vLstT, vCall, vCal, vMak, vMetA, vFld, vSl, vPart, vNoP, vLc, vLcT, vDc, vBM, vBM0, vGet1, vGet2, vItems, vRev, vLRg, vStar, vDZip, iRg1, iRg2, iRgD, iAny, iEnm, iItm, iVal, vDict0, vDict0T, vDict0N, vDisp, vDispT, vPairs,
  List.getElem?_cons_zero, List.getElem?_cons_succ, List.set_cons_zero, List.set_cons_succ, wipe3, endsOf_rt, endsOf_nx, gLt, gLe, gGt, gGe, L3.gSub, gMul, gMod, gDiv, gPow, g2I, g2I0, gN, gT, gGo, Option.bind_some, gAdd_ii, gAdd_ss, gNeg_i, gMax2_ii, gMin2_ii, gLen_s, gEqS_ii, gEqS_ss, gEqS_bb, gNeS_ii, gNeS_ss, gIsN_n, gNotN_n, gSl_s, isNonD, if_true, if_false, Bool.false_eq_true, Bool.not_true, Bool.not_false])
theorem letters_asc : ∀ c ∈ letters.cps.toList, c < 128 := by decide +kernel
theorem nameT_asc {z : Str} (h : nameT z = true) : asc z := fun c hc => by
  unfold nameT at h
  rw [Bool.and_eq_true] at h
  exact letters_asc c (of_decide_eq_true (List.all_eq_true.mp h.2 c hc))
inductive Rch (G : Str → List Str) (b : List Str) : Str → Prop
  | base {z : Str} : z ∈ b → Rch G b z
  | step {y z : Str} : Rch G b y → z ∈ G y → Rch G b z
theorem Rch.in_ {G : Str → List Str} {b evs : List Str} (hb : ∀ z ∈ b, z ∈ evs) (hG : ∀ e ∈ evs, ∀ z ∈ G e, z ∈ evs) : ∀ {z : Str}, Rch G b z → z ∈ evs
  | _, .base h => hb _ h
  | _, .step h k => hG _ (Rch.in_ hb hG h) _ k
def rest (f : Str → Nat) (evs found : List Str) : Nat := ((evs.filter fun e => !decide (e ∈ found)).map f).sum
theorem rest_le (f : Str → Nat) (x : Str) (found : List Str) : ∀ evs : List Str, rest f evs (found ++ [x]) ≤ rest f evs found
  | [] => Nat.le_refl _
  | e :: r => by
    have ih := rest_le f x found r
    unfold rest at ih ⊢
    rw [List.filter_cons, List.filter_cons]
    by_cases h1 : e ∈ found
    · have h2 : e ∈ found ++ [x] := List.mem_append_left _ h1
      simpa [h1, h2] using ih
    · by_cases h2 : e = x
      · subst h2
        simp only [h1, List.mem_append, List.mem_singleton, or_true, decide_true, decide_false, Bool.not_true, Bool.not_false, Bool.false_eq_true, if_false, if_true, List.map_cons, List.sum_cons]
        simp only [List.mem_append, List.mem_singleton] at ih
        omega
      · simp only [h1, h2, List.mem_append, List.mem_singleton, or_self, decide_false, Bool.not_false, if_true, List.map_cons, List.sum_cons]
        simp only [List.mem_append, List.mem_singleton] at ih
        omega
theorem rest_lt (f : Str → Nat) {x : Str} {found : List Str} (hx : x ∉ found) : ∀ {evs : List Str}, x ∈ evs → rest f evs (found ++ [x]) + f x ≤ rest f evs found
  | e :: r, h => by
    have le := rest_le f x found r
    have ih := fun h => rest_lt f hx (evs := r) h
    unfold rest at ih le ⊢
    rw [List.filter_cons, List.filter_cons]
    by_cases h2 : e = x
    · subst h2
      simp only [hx, List.mem_append, List.mem_singleton, or_true, decide_true, decide_false, Bool.not_true, Bool.not_false, Bool.false_eq_true, if_false, if_true, List.map_cons, List.sum_cons]
      simp only [List.mem_append, List.mem_singleton] at le
      omega
    · have h' : x ∈ r := by
        rcases List.mem_cons.mp h with h | h
        · exact absurd h.symm h2
        · exact h
      have ih := ih h'
      by_cases h1 : e ∈ found
      · have h3 : e ∈ found ++ [x] := List.mem_append_left _ h1
        simpa [h1, h3] using ih
      · simp only [h1, h2, List.mem_append, List.mem_singleton, or_self, decide_false, Bool.not_false, if_true, List.map_cons, List.sum_cons]
        simp only [List.mem_append, List.mem_singleton] at ih
        omega
structure GraphAt (μ : Mu) (kd : List (Key × D)) (evs : List Str) (G : Str → List Str) : Prop where
  get : ∀ e ∈ evs, ∃ y, valD kd (.inr e) = some y ∧ lstOf μ y = some (sds (G e))
  in_ : ∀ e ∈ evs, ∀ z ∈ G e, z ∈ evs
theorem lst_le {μ μ' : Mu} (l : Le μ μ') {x : D} {xs : List D} (h : lstOf μ x = some xs) : lstOf μ' x = some xs := by
  cases x with
  | lst ys => exact h
  | ref a => exact lst_ref (l a _ (ref_lst h))
  | _ => cases h
structure RchI (G : Str → List Str) (evs b found wait : List Str) : Prop where
  w : ∀ z ∈ wait, z ∈ evs
  f : ∀ z ∈ found, z ∈ evs
  sf : ∀ z ∈ found, Rch G b z
  sw : ∀ z ∈ wait, Rch G b z
  cb : ∀ z ∈ b, z ∈ found ∨ z ∈ wait
  cs : ∀ y ∈ found, ∀ z ∈ G y, z ∈ found ∨ z ∈ wait
  n : found.length + rest (fun _ => 1) evs found ≤ evs.length
theorem RchI.done {G : Str → List Str} {evs b found : List Str} (h : RchI G evs b found []) (z : Str) : z ∈ found ↔ Rch G b z := by
  refine ⟨h.sf z, fun r => ?_⟩
  induction r with
  | base k => exact (h.cb _ k).elim id (fun k => nomatch k)
  | step _ k ih => exact (h.cs _ ih _ k).elim id (fun k => nomatch k)
theorem RchI.old {G : Str → List Str} {evs b found wait : List Str} {x : Str} (h : RchI G evs b found (wait ++ [x])) (hx : x ∈ found) : RchI G evs b found wait := by
  have spl : ∀ z, z ∈ found ∨ z ∈ wait ++ [x] → z ∈ found ∨ z ∈ wait := fun z k => by
    rcases k with k | k
    · exact .inl k
    · rcases List.mem_append.mp k with k | k
      · exact .inr k
      · rw [List.mem_singleton.mp k]; exact .inl hx
  exact ⟨fun z k => h.w z (List.mem_append_left _ k), h.f, h.sf, fun z k => h.sw z (List.mem_append_left _ k), fun z k => spl z (h.cb z k), fun y hy z k => spl z (h.cs y hy z k), h.n⟩
theorem RchI.new {G : Str → List Str} {evs b found wait : List Str} {x : Str} (h : RchI G evs b found (wait ++ [x])) (hG : ∀ e ∈ evs, ∀ z ∈ G e, z ∈ evs) (hx : x ∉ found) : RchI G evs b (found ++ [x]) (wait ++ G x) := by
  have hxw : x ∈ wait ++ [x] := List.mem_append_right _ (List.mem_singleton.mpr rfl)
  have hxe := h.w x hxw
  have spl : ∀ z, z ∈ found ∨ z ∈ wait ++ [x] → z ∈ found ++ [x] ∨ z ∈ wait ++ G x := fun z k => by
    rcases k with k | k
    · exact .inl (List.mem_append_left _ k)
    · rcases List.mem_append.mp k with k | k
      · exact .inr (List.mem_append_left _ k)
      · exact .inl (List.mem_append_right _ k)
  refine ⟨fun z k => ?_, fun z k => ?_, fun z k => ?_, fun z k => ?_, fun z k => spl z (h.cb z k), fun y hy z k => ?_, ?_⟩
  · rcases List.mem_append.mp k with k | k
    · exact h.w z (List.mem_append_left _ k)
    · exact hG x hxe z k
  · rcases List.mem_append.mp k with k | k
    · exact h.f z k
    · rw [List.mem_singleton.mp k]; exact hxe
  · rcases List.mem_append.mp k with k | k
    · exact h.sf z k
    · rw [List.mem_singleton.mp k]; exact h.sw x hxw
  · rcases List.mem_append.mp k with k | k
    · exact h.sw z (List.mem_append_left _ k)
    · exact .step (h.sw x hxw) k
  · rcases List.mem_append.mp hy with hy | hy
    · exact spl z (h.cs y hy z k)
    · rw [List.mem_singleton.mp hy] at k
      exact .inr (List.mem_append_right _ k)
  · have := rest_lt (fun _ => 1) hx hxe
    have := h.n
    simp only [List.length_append, List.length_cons, List.length_nil]
    omega
def sp_reached : Sp3 := fun ds μ R => ∃ kd y evs G b, ds = [.dct kd, y] ∧ EvOk evs ∧ GraphAt μ kd evs G ∧ seqOf μ y = some (sds b) ∧ (∀ z ∈ b, z ∈ evs) ∧ b.length + rest (fun e => (G e).length) evs [] ≤ 100000 ∧ ∀ found : List Str, (∀ z, z ∈ found ↔ Rch G b z) → R (.lst (sds found)) μ
def t_reached_3 : TS3 := (sRet (vVar 2))
def t_reached_2 : TS3 := sSeq (sWhile (vB (vOp gNeD (vVar 3) (vLst vNil))) (sSeq (sSet 4 (vBM0 "list" gPop (vVar 3))) (sIf (vB (vOp (gIn true) (vVar 4) (vVar 2))) (sSeq (sDrop (vBM "list" gApp (vVar 2) (vCons (vVar 4) vNil))) (sDrop (vBM "list" gExt (vVar 3) (vCons (vOp gAt (vVar 0) (vVar 4)) vNil)))) sNext))) t_reached_3
def t_reached_1 : TS3 := sSeq (sSet 3 (vCB gListT (vCons (vVar 1) vNil))) t_reached_2
def t_reached : TS3 := sSeq (sSet 2 (vLstT vNil)) t_reached_1
theorem reached_loop {R : DK} {μ : Mu} {kd : List (Key × D)} {y : D} {evs b : List Str} {G : Str → List Str} {q1 q2 : Addr} (ok : EvOk evs) (g : GraphAt μ kd evs G) (h : ∀ found : List Str, (∀ z, z ∈ found ↔ Rch G b z) → R (.lst (sds found)) μ) (n1 : μ q1 = none) (n2 : μ q2 = none) (ne : q1 ≠ q2) :
    ∀ (n : Nat) (found wait : List Str) (μ' : Mu) (x : Option D), RchI G evs b found wait → Le μ μ' → μ' q1 = some (.lst (sds found)) → μ' q2 = some (.lst (sds wait)) → wait.length + rest (fun e => (G e).length) evs found < n → wait.length + rest (fun e => (G e).length) evs found ≤ 100000 →
    whileW (vB (vOp gNeD (vVar 3) (vLst vNil))) (sSeq (sSet 4 (vBM0 "list" gPop (vVar 3))) (sIf (vB (vOp (gIn true) (vVar 4) (vVar 2))) (sSeq (sDrop (vBM "list" gApp (vVar 2) (vCons (vVar 4) vNil))) (sDrop (vBM "list" gExt (vVar 3) (vCons (vOp gAt (vVar 0) (vVar 4)) vNil)))) sNext))
      { endsOf R with nx := t_reached_3 (endsOf R) } n [some (.dct kd), some y, some (.ref q1), some (.ref q2), x] μ'
  | 0, _, _, _, _, _, _, _, _, hn, _ => absurd hn (Nat.not_lt_zero _)
  | n + 1, found, wait, μ', x, I, l, e1, e2, hn, hB => by
    have hsl : sizeLine = 16777216 := by decide
    unfold whileW
    walk_at "l3"
    refine ⟨Nat.zero_le _, _, _, sh_lst (lst_ref e2), .lst .nil, ?_, rfl, ?_⟩
    · exact (Sm.list (k := 0) (B := 8) (n := wait.length) (fun p hp => by
        obtain ⟨w, hw, rfl⟩ := List.mem_map.mp hp
        have := ok.nm w (I.w w hw)
        exact Sm.str (nameT_asc this) (nameT_len this)) (by simp)).shaped (by decide)
    rw [eqv_nil]
    rcases List.eq_nil_or_concat wait with rfl | ⟨w0, z, rfl⟩
    · simp only [decide_true, Bool.not_true, Bool.false_eq_true, if_false]
      unfold t_reached_3
      walk_at "l3"
      exact fin_lst l e1 n1 (h _ I.done)
    · rw [List.concat_eq_append] at *
      have hne : w0 ++ [z] ≠ [] := by simp
      simp only [hne, decide_false, Bool.not_false, if_true]
      have e2' : μ' q2 = some (.lst (sds w0 ++ [.str z])) := by rw [e2]; simp [sds]
      refine ⟨.inl ⟨rfl, _, e2'⟩, q2, _, .str z, rfl, rfl, e2', by simp, ?_⟩
      rw [List.dropLast_concat]
      walk_at "l3"
      refine in_q (xs := sds found) (by simp only [seqOf]; rw [mset_ne ne, e1]) rfl (sds_flat _) ?_
      rw [in_sds]
      have hz : z ∈ evs := I.w z (List.mem_append_right _ (List.mem_singleton.mpr rfl))
      by_cases hf : z ∈ found
      · simp only [hf, decide_true, Bool.not_true, Bool.false_eq_true, if_false, if_true]
        refine reached_loop ok g h n1 n2 ne n found w0 _ _ (I.old hf) (l.mset n2) (by rw [mset_ne ne, e1]) mset_same ?_ ?_
        · simp only [List.length_append, List.length_cons, List.length_nil] at hn; omega
        · simp only [List.length_append, List.length_cons, List.length_nil] at hB; omega
      · simp only [hf, decide_false, Bool.not_false, if_true]
        have hlen := I.n
        have hle := ok.le
        refine ⟨.inl ⟨rfl, sds found, by rw [mset_ne ne, e1]⟩, q1, sds found, _, rfl, rfl, by rw [mset_ne ne, e1], by simp only [sds, List.length_map]; omega, ?_⟩
        obtain ⟨yg, eg, lg⟩ := g.get z hz
        refine ⟨.inl ⟨rfl, sds w0, by rw [mset_ne (Ne.symm ne), mset_same]⟩, ?_⟩
        refine at_d (c := .k kd) rfl (by show some _ = some _; rw [eg]) ?_
        have hr := rest_lt (fun e => (G e).length) hf hz
        simp only [List.length_append, List.length_cons, List.length_nil] at hn hB
        refine ⟨q2, sds w0, yg, sds (G z), rfl, rfl, by rw [mset_ne (Ne.symm ne), mset_same], lst_le ((l.mset n2).mset n1) lg, by simp only [sds, List.length_map]; omega, ?_⟩
        refine reached_loop ok g h n1 n2 ne n (found ++ [z]) (w0 ++ G z) _ _ (I.new g.in_ hf) (((l.mset n2).mset n1).mset n2) ?_ ?_ ?_ ?_
        · rw [mset_ne ne, mset_same]; simp [sds]
        · rw [mset_same]; simp [sds]
        · simp only [List.length_append]; omega
        · simp only [List.length_append]; omega
theorem pure_reached (ds : List D) (μ : Mu) (R : DK) (hl : ds.length = 2) (h : sp_reached ds μ R) : t_reached (endsOf R) (start3 ["behind", "begin", "found", "waiting", "event"] ds) μ := by
  obtain ⟨kd, y, evs, G, b, rfl, ok, g, hb, hbe, hB, h⟩ := h
  show t_reached (endsOf R) [some (.dct kd), some y, none, none, none] μ
  unfold t_reached t_reached_1 t_reached_2
  walk_at "l3"
  refine ⟨Nat.zero_le _, fun q1 n1 => ⟨y, sds b, rfl, ?_, fun q2 n2' => ?_⟩⟩
  · cases y with
    | ref a =>
      have ha : a ≠ q1 := by
        rintro rfl
        simp only [seqOf, n1] at hb
        cases hb
      simp only [seqOf]; rw [mset_ne ha]; exact hb
    | _ => exact hb
  have ne : q1 ≠ q2 := by
    rintro rfl
    rw [mset_same] at n2'
    cases n2'
  have n2 : μ q2 = none := by rw [mset_ne (Ne.symm ne)] at n2'; exact n2'
  refine ⟨100001, reached_loop ok g h n1 n2 ne 100001 [] b _ none ⟨hbe, (fun z k => nomatch k), (fun z k => nomatch k), fun z k => .base k, fun z k => .inr k, (fun y k => nomatch k), ?_⟩ (((Le.refl μ).mset n1).mset n2) ?_ mset_same (by omega) hB⟩
  · have : ∀ l : List Str, ((l.filter fun e => !decide (e ∈ ([] : List Str))).map fun _ => 1).sum ≤ l.length := fun l => by
      induction l with
      | nil => exact Nat.le_refl _
      | cons a r ih => simp at ih ⊢; omega
    have := this evs
    simpa [rest] using this
  · rw [mset_ne ne, mset_same]; rfl
end C1
namespace C1
open PySem PySem.Spec L2 L3
local macro_rules | `(tactic| walk_at "l3") => `(tactic| simp only [sSeq, sNext, sIf, sRet, sRetN, sSet, sDrop, sSub, sFor, sAsg, sPar2, sPar3, sCont, sFld3, sFld2, sAug, vVar, vC, vNil, vCons, vOp, vB, vChain, vAnd, vOr, vNot, vAndV, vOrV, vNotV, vIf, vUn, vCB, vLst, vTup, vLstT, vCall, vCal, vMak, vMetA, vFld, vSl, vPart, vNoP, vLc, vLcT, vDc, vBM, vBM0, vGet1, vGet2, vItems, vRev, vLRg, vStar, vDZip, iRg1, iRg2, iRgD, iAny, iEnm, iItm, iVal, vDict0, vDict0T, vDict0N, vDisp, vDispT, vPairs,
  List.getElem?_cons_zero, List.getElem?_cons_succ, List.set_cons_zero, List.set_cons_succ, wipe3, endsOf_rt, endsOf_nx, gLt, gLe, gGt, gGe, L3.gSub, gMul, gMod, gDiv, gPow, g2I, g2I0, gN, gT, gGo, Option.bind_some, gAdd_ii, gAdd_ss, gNeg_i, gMax2_ii, gMin2_ii, gLen_s, gEqS_ii, gEqS_ss, gEqS_bb, gNeS_ii, gNeS_ss, gIsN_n, gNotN_n, gSl_s, isNonD, if_true, if_false, Bool.false_eq_true, Bool.not_true, Bool.not_false])
def bk (ad : Str → Addr) (evs : List Str) : List (Key × D) := evs.map fun e => (.inr e, .ref (ad e))
structure Bh (μ μ' : Mu) (evs : List Str) (ad : Str → Addr) (G : Str → List Str) : Prop where
  le : Le μ μ'
  new : ∀ e ∈ evs, μ (ad e) = none
  at_ : ∀ e ∈ evs, μ' (ad e) = some (.lst (sds (G e)))
  inj : ∀ e ∈ evs, ∀ f ∈ evs, ad e = ad f → e = f
theorem val_bk {ad : Str → Addr} {e : Str} : ∀ {evs : List Str}, e ∈ evs → valD (bk ad evs) (.inr e) = some (.ref (ad e))
  | a :: r, h => by
    by_cases q : a = e
    · subst q; simp [bk, valD]
    · have h' : e ∈ r := by
        rcases List.mem_cons.mp h with h | h
        · exact absurd h.symm q
        · exact h
      have := val_bk (ad := ad) h'
      have ne : (Sum.inr a : Key) ≠ .inr e := fun h => q (Sum.inr.inj h)
      unfold bk valD at this ⊢
      rw [List.map_cons, List.find?_cons]
      simp only [ne, decide_false]
      exact this
theorem put_bk {ad : Str → Addr} {e : Str} {v : D} {evs : List Str} (h : e ∉ evs) : putD (bk ad evs) (.inr e) v = bk ad evs ++ [(.inr e, v)] := by
  unfold putD
  rw [if_neg]
  intro k
  rw [List.any_eq_true] at k
  obtain ⟨p, hp, q⟩ := k
  obtain ⟨a, ha, rfl⟩ := List.mem_map.mp hp
  have : a = e := Sum.inr.inj (of_decide_eq_true q)
  exact h (this ▸ ha)
theorem bh_dc {Pm : Mu → Prop} {μ : Mu} {i : Nat} {δ : St3} {R : Dic → Mu → Prop} (hi : i < δ.length) (hP : ∀ μ', Le μ μ' → Pm μ') : ∀ (todo done : List Str) (ad : Str → Addr) (μ' : Mu), Bh μ μ' done ad (fun _ => []) → (done ++ todo).Nodup → (done ++ todo).length ≤ 100 →
    (∀ ad μ', Bh μ μ' (done ++ todo) ad (fun _ => []) → R (.k (bk ad (done ++ todo))) μ') → dcW Pm (gN i) vYes (vVar i) (vLstT vNil) δ R (sds todo) (.k (bk ad done)) μ'
  | [], done, ad, μ', b, _, _, k => ⟨hP _ b.le, by simpa using k ad μ' (by simpa using b)⟩
  | e :: r, done, ad, μ', b, nd, hl, k => by
    have hsl : sizeLine = 16777216 := by decide
    refine ⟨hP _ b.le, ?_, ?_⟩
    · show (bk ad done).length < _
      simp only [bk, List.length_map]
      simp only [List.length_append] at hl
      omega
    have e1 : (δ.set i (some (.str e)))[i]? = some (some (.str e)) := by simp [hi]
    simp only [gN, vYes, if_true, vVar, e1]
    refine ⟨Nat.zero_le _, fun q hq => ?_⟩
    have ne : e ∉ done := by
      rw [List.nodup_append] at nd
      exact fun h => nd.2.2 e h e List.mem_cons_self rfl
    refine ⟨.k (putD (bk ad done) (.inr e) (.ref q)), rfl, ?_⟩
    rw [show putD (bk ad done) (.inr e) (.ref q) = bk (fun z => if z = e then q else ad z) (done ++ [e]) by
      rw [put_bk ne]
      unfold bk
      rw [List.map_append]
      congr 1
      · refine List.map_congr_left fun a ha => ?_
        have : a ≠ e := fun h => ne (h ▸ ha)
        simp [this]
      · simp]
    have ha : ∀ a ∈ done, ad a ≠ q := fun a ha h => by
      have := b.at_ a ha
      rw [h, hq] at this
      cases this
    have hne : ∀ a ∈ done, a ≠ e := fun a ha h => ne (h ▸ ha)
    have hμq : μ q = none := by
      cases z : μ q with
      | none => rfl
      | some o => have := b.le q o z; rw [hq] at this; cases this
    refine bh_dc hi hP r (done ++ [e]) _ _ ⟨b.le.mset hμq, fun a h => ?_, fun a h => ?_, fun a h f hf => ?_⟩ (by simpa using nd) (by simpa using hl) (fun ad μ' h => by simpa using k ad μ' (by simpa using h))
    · rcases List.mem_append.mp h with h | h
      · simp only [hne a h, if_false]; exact b.new a h
      · simp only [List.mem_singleton.mp h, if_true]; exact hμq
    · rcases List.mem_append.mp h with h | h
      · simp only [hne a h, if_false]; rw [mset_ne (ha a h)]; exact b.at_ a h
      · simp only [List.mem_singleton.mp h, if_true]; rw [mset_same]; rfl
    · rcases List.mem_append.mp h with h | h <;> rcases List.mem_append.mp hf with hf | hf
      · simp only [hne a h, hne f hf, if_false]; exact b.inj a h f hf
      · simp only [hne a h, List.mem_singleton.mp hf, if_false, if_true]; exact fun z => absurd z (ha a h)
      · simp only [hne f hf, List.mem_singleton.mp h, if_false, if_true]; exact fun z => absurd z.symm (ha f hf)
      · intro _; rw [List.mem_singleton.mp h, List.mem_singleton.mp hf]
theorem Bh.app {μ μ' : Mu} {evs : List Str} {ad : Str → Addr} {G G' : Str → List Str} {e : Str} (b : Bh μ μ' evs ad G) (he : e ∈ evs) (h : ∀ z, z ≠ e → G' z = G z) : Bh μ (mset μ' (ad e) (.lst (sds (G' e)))) evs ad G' := by
  refine ⟨b.le.mset (b.new e he), b.new, fun a ha => ?_, b.inj⟩
  by_cases q : a = e
  · subst q; exact mset_same
  · rw [mset_ne fun z => q (b.inj a ha e he z), b.at_ a ha, h a q]
theorem Bh.graph {μ μ' : Mu} {evs : List Str} {ad : Str → Addr} {G : Str → List Str} (b : Bh μ μ' evs ad G) (h : ∀ e ∈ evs, ∀ z ∈ G e, z ∈ evs) : GraphAt μ' (bk ad evs) evs G :=
  ⟨fun e he => ⟨_, val_bk he, lst_ref (b.at_ e he)⟩, h⟩
def adj (p : Tie → Bool) (s t : Tie → Str) (ts : List Tie) (e : Str) : List Str := (ts.filter fun c => p c && decide (s c = e)).map t
theorem adj_len (p : Tie → Bool) (s t : Tie → Str) (ts : List Tie) (e : Str) : (adj p s t ts e).length ≤ ts.length := by
  unfold adj; rw [List.length_map]; exact List.length_filter_le _ _
theorem adj_snoc {p : Tie → Bool} {s t : Tie → Str} {ts : List Tie} {c : Tie} {e : Str} : adj p s t (ts ++ [c]) e = if p c = true ∧ s c = e then adj p s t ts e ++ [t c] else adj p s t ts e := by
  unfold adj
  rw [List.filter_append, List.map_append]
  by_cases h : p c = true ∧ s c = e
  · rw [if_pos h]; simp [h.1, h.2]
  · rw [if_neg h]
    have : (p c && decide (s c = e)) = false := by
      cases q : p c with
      | false => rfl
      | true => simp only [Bool.true_and]; exact decide_eq_false fun z => h ⟨q, z⟩
    simp [this]
theorem mem_adj {p : Tie → Bool} {s t : Tie → Str} {ts : List Tie} {e z : Str} : z ∈ adj p s t ts e ↔ ∃ c ∈ ts, p c = true ∧ s c = e ∧ t c = z := by
  unfold adj
  simp only [List.mem_map, List.mem_filter, Bool.and_eq_true, decide_eq_true_eq]
  constructor
  · rintro ⟨c, ⟨h1, h2, h3⟩, h4⟩; exact ⟨c, h1, h2, h3, h4⟩
  · rintro ⟨c, h1, h2, h3, h4⟩; exact ⟨c, ⟨h1, h2, h3⟩, h4⟩
theorem rest_all {f : Str → Nat} {B : Nat} {found : List Str} (h : ∀ e, f e ≤ B) : ∀ evs : List Str, rest f evs found ≤ evs.length * B
  | [] => Nat.zero_le _
  | e :: r => by
    have ih := rest_all h r (found := found)
    unfold rest at ih ⊢
    rw [List.filter_cons, List.length_cons, Nat.succ_mul]
    have := h e
    split
    · rw [List.map_cons, List.sum_cons]; omega
    · omega
def adj0 := adj (fun t => decide (t.2.2 = 0)) (·.1) (·.2.1)
def NoRing (evs : List Str) (ties : List Tie) : Prop := ∀ e ∈ evs, ¬ Rch (adj0 ties) (adj0 ties e) e
theorem NoRing.of_rank {evs : List Str} {ties : List Tie} (rk : Str → Nat) (h : ∀ t ∈ ties, t.2.2 = 0 → rk t.1 < rk t.2.1) : NoRing evs ties := fun e _ r => by
  have key : ∀ z, Rch (adj0 ties) (adj0 ties e) z → rk e < rk z := fun z r => by
    induction r with
    | base k =>
      obtain ⟨c, hc, h1, h2, h3⟩ := mem_adj.mp k
      have := h c hc (of_decide_eq_true h1)
      rw [h2, h3] at this
      exact this
    | step _ k ih =>
      obtain ⟨c, hc, h1, h2, h3⟩ := mem_adj.mp k
      have := h c hc (of_decide_eq_true h1)
      rw [h2, h3] at this
      omega
  exact Nat.lt_irrefl _ (key e r)
def sp_need_no_ring : Sp3 := fun ds μ R => ∃ x evs y ties, ds = [x, y] ∧ lstOf μ x = some (sds evs) ∧ EvOk evs ∧ lstOf μ y = some (ties.map tieD) ∧ TiOk evs ties ∧ NoRing evs ties ∧ R .non μ
def t_need_no_ring_3 : TS3 := (sIf (vB (vOp gGt (vCB gLen (vCons (vVar 7) vNil)) (vC (.int 0)))) sNever sNext)
def t_need_no_ring_2 : TS3 := sSeq (sSet 7 (vLc (iAny (vVar 0)) (gN 3) (vB (vOp (gIn false) (vVar 3) (vCall 2 sp_reached (vCons (vVar 2) (vCons (vOp gAt (vVar 2) (vVar 3)) vNil))))) (vVar 3) [3])) t_need_no_ring_3
def t_need_no_ring_1 : TS3 := sSeq (sFor (iAny (vVar 1)) (gT [(gN 4), (gN 5), (gN 6)]) (sIf (vB (vOp gEqS (vVar 6) (vC (.int 0)))) (sDrop (vBM "list" gApp (vOp gAt (vVar 2) (vVar 4)) (vCons (vVar 5) vNil))) sNext)) t_need_no_ring_2
def t_need_no_ring : TS3 := sSeq (sSet 2 (vDc false false (iAny (vVar 0)) (gN 3) vYes (vVar 3) (vLstT vNil) [3])) t_need_no_ring_1
theorem pure_need_no_ring (ds : List D) (μ : Mu) (R : DK) (hl : ds.length = 2) (h : sp_need_no_ring ds μ R) : t_need_no_ring (endsOf R) (start3 ["events", "ties", "behind", "event", "earlier", "later", "lag", "found"] ds) μ := by
  obtain ⟨x, evs, y, ties, rfl, hx, ok, hy, tk, nr, h⟩ := h
  show t_need_no_ring (endsOf R) [some x, some y, none, none, none, none, none, none] μ
  have hsl : sizeLine = 16777216 := by decide
  have hle := ok.le
  have hte := tk.le
  have gin : ∀ e ∈ evs, ∀ z ∈ adj0 ties e, z ∈ evs := fun e he z hz => by
    obtain ⟨c, hc, h1, h2, rfl⟩ := mem_adj.mp hz
    exact tk.b c hc
  unfold t_need_no_ring t_need_no_ring_1
  walk_at "l3"
  refine any_lst hx fun Pm hP => ?_
  refine bh_dc (i := 3) (by show 3 < 8; decide) (fun μ' l => hP μ' (lst_le l hx)) evs [] (fun _ => 0) μ ⟨Le.refl μ, (fun e h => nomatch h), (fun e h => nomatch h), (fun e h => nomatch h)⟩ (by simpa using ok.nd) (by simp; omega) fun ad μ1 b => ?_
  rw [List.nil_append] at b ⊢
  refine any_lst (lst_le b.le hy) fun Pm hP => ?_
  refine for_ix (ties.map tieD) (fun k δ μ' => Bh μ μ' evs ad (adj0 (ties.take k)) ∧ ∃ y1 y2 y3, δ = [some x, some y, some (.dct (bk ad evs)), none, y1, y2, y3, none]) ⟨b, none, none, none, rfl⟩ ?_ ?_
  · rintro δ μ2 ⟨b2, y1, y2, y3, rfl⟩
    rw [List.length_map, List.take_length] at b2
    refine ⟨hP _ (lst_le b2.le hy), ?_⟩
    unfold t_need_no_ring_2
    walk_at "l3"
    refine any_lst (lst_le b2.le hx) fun Pm hP => ?_
    have key : lcW Pm (gN 3) (vB (vOp (gIn false) (vVar 3) (vCall 2 sp_reached (vCons (vVar 2) (vCons (vOp gAt (vVar 2) (vVar 3)) vNil))))) (vVar 3) [some x, some y, some (.dct (bk ad evs)), none, y1, y2, y3, none]
        (fun out μ2 => t_need_no_ring_3 (endsOf R) [some x, some y, some (.dct (bk ad evs)), none, y1, y2, y3, some (.lst out)] μ2) (sds evs) [] μ2 := by
      refine lcg_filter (fun _ => false) D.str D.str (hP _ (lst_le b2.le hx)) evs [] (fun e he => ⟨_, rfl, fun R' hR => ?_, fun z => nomatch z⟩) (by simp; omega) ?_
      · walk_at "l3"
        refine at_d (c := .k (bk ad evs)) rfl (by show some _ = some _; rw [val_bk he]) ⟨rfl, _, _, evs, adj0 ties, adj0 ties e, rfl, ok, b2.graph gin, seq_lst (lst_ref (b2.at_ e he)), gin e he, ?_, fun found hf => ?_⟩
        · have h1 := adj_len (fun t => decide (t.2.2 = 0)) (·.1) (·.2.1) ties e
          have h2 := rest_all (f := fun e => (adj0 ties e).length) (B := 60) (found := []) (fun e => Nat.le_trans (adj_len _ _ _ ties e) hte) evs
          unfold adj0 at h2 ⊢
          omega
        · refine in_q (xs := sds found) rfl rfl (sds_flat _) ?_
          rw [in_sds]
          have : ¬ e ∈ found := fun z => nr e he ((hf e).mp z)
          simp only [this, decide_false, Bool.false_eq_true, if_false]
          exact hR
      · unfold t_need_no_ring_3
        walk_at "l3"
        refine gLen_of (xs := []) (by simp [seqOf]) ?_
        walk_at "l3"
        simp
        exact fin_same b2.le h
    exact key
  · rintro k d δ μ2 hd ⟨b2, y1, y2, y3, rfl⟩
    rw [List.getElem?_map] at hd
    obtain ⟨t, et, rfl⟩ := Option.map_eq_some_iff.mp hd
    have htm : t ∈ ties := List.mem_of_getElem? et
    have hk : k < ties.length := (List.getElem?_eq_some_iff.mp et).1
    have etk : ties.take (k + 1) = ties.take k ++ [t] := by rw [List.take_succ, et]; rfl
    refine ⟨hP _ (lst_le b2.le hy), _, rfl, fun N hN => ?_⟩
    walk_at "l3"
    by_cases h0 : t.2.2 = 0
    · simp only [h0, decide_true, if_true]
      have ha := tk.a t htm
      have e2 : adj0 (ties.take (k + 1)) t.1 = adj0 (ties.take k) t.1 ++ [t.2.1] := by
        rw [etk]; unfold adj0; rw [adj_snoc, if_pos ⟨decide_eq_true h0, rfl⟩]
      refine at_d (c := .k (bk ad evs)) (d := .ref (ad t.1)) rfl (by show some _ = some _; rw [val_bk ha]) ⟨Or.inl ⟨rfl, _, b2.at_ _ ha⟩, ?_⟩
      refine ⟨_, _, _, rfl, rfl, b2.at_ _ ha, ?_, ?_⟩
      · have := adj_len (fun t => decide (t.2.2 = 0)) (·.1) (·.2.1) (ties.take k) t.1
        rw [List.length_take] at this
        simp only [sds, List.length_map]
        unfold adj0
        omega
      · refine hN _ _ ⟨?_, _, _, _, rfl⟩
        have := b2.app (G' := adj0 (ties.take (k + 1))) ha (fun z hz => by
          rw [etk]; unfold adj0; rw [adj_snoc, if_neg fun q => hz q.2.symm])
        rw [e2] at this
        have e3 : sds (adj0 (ties.take k) t.1 ++ [t.2.1]) = sds (adj0 (ties.take k) t.1) ++ [.str t.2.1] := by simp [sds]
        rw [e3] at this
        exact this
    · simp only [h0, decide_false, Bool.false_eq_true, if_false]
      refine hN _ _ ⟨?_, _, _, _, rfl⟩
      have : adj0 (ties.take (k + 1)) = adj0 (ties.take k) := by
        funext z
        rw [etk]; unfold adj0; rw [adj_snoc, if_neg fun q => h0 (of_decide_eq_true q.1)]
      rw [this]
      exact b2
end C1
namespace C1
open PySem PySem.Spec L2 L3
local macro_rules | `(tactic| walk_at "l3") => `(tactic| simp only [sSeq, sNext, sIf, sRet, sRetN, sSet, sDrop, sSub, sFor, sAsg, sPar2, sPar3, sCont, sFld3, sFld2, sAug, vVar, vC, vNil, vCons, vOp, vB, vChain, vAnd, vOr, vNot, vAndV, vOrV, vNotV, vIf, vUn, vCB, vLst, vTup, vLstT, vCall, vCal, vMak, vMetA, vFld, vSl, vPart, vNoP, vLc, vLcT, vDc, vBM, vBM0, vGet1, vGet2, vItems, vRev, vLRg, vStar, vDZip, iRg1, iRg2, iRgD, iAny, iEnm, iItm, iVal, vDict0, vDict0T, vDict0N, vDisp, vDispT, vPairs,
  List.getElem?_cons_zero, List.getElem?_cons_succ, List.set_cons_zero, List.set_cons_succ, wipe3, endsOf_rt, endsOf_nx, gLt, gLe, gGt, gGe, L3.gSub, gMul, gMod, gDiv, gPow, g2I, g2I0, gN, gT, gGo, Option.bind_some, gAdd_ii, gAdd_ss, gNeg_i, gMax2_ii, gMin2_ii, gLen_s, gEqS_ii, gEqS_ss, gEqS_bb, gNeS_ii, gNeS_ss, gIsN_n, gNotN_n, gSl_s, isNonD, if_true, if_false, Bool.false_eq_true, Bool.not_true, Bool.not_false])
theorem mset_mset {μ : Mu} {a : Addr} {o o' : MO} : mset (mset μ a o) a o' = mset μ a o' := by
  funext b
  by_cases h : b = a
  · rw [h, mset_same, mset_same]
  · rw [mset_ne h, mset_ne h, mset_ne h]
theorem lst_ins {μ : Mu} {x : D} {xs : List D} {q : Addr} {n : Str} {fs : List (Str × D)} {o : MO} (h : lstOf μ x = some xs) (hq : μ q = some (.ins n fs)) : lstOf (mset μ q o) x = some xs := by
  cases x with
  | lst ys => exact h
  | ref a =>
    have := ref_lst h
    refine lst_ref ?_
    rw [mset_ne, this]
    rintro rfl
    rw [hq] at this
    cases this
  | _ => cases h
theorem putFD_len (f : Str) (v : D) : ∀ fs : List (Str × D), (putFD f v fs).length ≤ fs.length + 1
  | [] => Nat.le_refl _
  | (g, x) :: r => by
    unfold putFD
    have := putFD_len f v r
    split
    · simp
    · simp; omega
def limV : Option Lims → D
  | none => .non
  | some l => .dct (limK l)
def limsOf (evs : List Str) (lims : Lims) : Lims := evs.filterMap fun e => (lims.lookup e).map fun v => (e, v)
def planF (evs : List Str) (ties : List Tie) (lims : Lims) : List (Str × D) := [("own_events", .lst (sds evs)), ("own_ties", .lst (ties.map tieD)), ("own_limits", .dct (limK lims))]
def planD (evs : List Str) (ties : List Tie) (lims : Lims) : D := .obj "Plan" (planF evs ties lims)
structure PlOk (evs : List Str) (ties : List Tie) (lims : Lims) : Prop where
  e : EvOk evs
  t : TiOk evs ties
  l : LiOk evs lims
  r : NoRing evs ties
theorem val_lim {e : Str} : ∀ lims : Lims, valD (limK lims) (.inr e) = (lims.lookup e).map D.int
  | [] => rfl
  | (a, v) :: r => by
    have ih := val_lim (e := e) r
    unfold limK valD at ih ⊢
    rw [List.map_cons, List.find?_cons, List.lookup_cons]
    by_cases h : a = e
    · subst h; simp
    · have ne : (Sum.inr a : Key) ≠ .inr e := fun q => h (Sum.inr.inj q)
      have ne2 : (e == a) = false := by simpa using fun q : e = a => h q.symm
      simp only [ne, decide_false, ne2]
      exact ih
theorem look_mem {e : Str} {v : Int} : ∀ {lims : Lims}, lims.lookup e = some v → (e, v) ∈ lims
  | (a, w) :: r, h => by
    rw [List.lookup_cons] at h
    by_cases q : e = a
    · subst q; simp at h; subst h; exact List.mem_cons_self
    · have : (e == a) = false := by simpa using q
      rw [this] at h
      exact List.mem_cons_of_mem _ (look_mem h)
theorem limsOf_keys {evs : List Str} {lims : Lims} : (limsOf evs lims).map (·.1) = evs.filter fun e => (lims.lookup e).isSome := by
  unfold limsOf
  induction evs with
  | nil => rfl
  | cons e r ih =>
    rw [List.filterMap_cons, List.filter_cons]
    cases h : lims.lookup e with
    | none => simpa [h] using ih
    | some v => simp [ih]
theorem limsOf_ok {evs : List Str} {lims : Lims} (ok : EvOk evs) (lk : LiOk evs lims) : LiOk evs (limsOf evs lims) := by
  refine ⟨?_, fun p hp => ?_, fun p hp => ?_⟩
  · rw [limsOf_keys]; exact List.Pairwise.filter _ ok.nd
  · obtain ⟨e, he, h⟩ := List.mem_filterMap.mp hp
    obtain ⟨v, hv, rfl⟩ := Option.map_eq_some_iff.mp h
    exact he
  · obtain ⟨e, he, h⟩ := List.mem_filterMap.mp hp
    obtain ⟨v, hv, rfl⟩ := Option.map_eq_some_iff.mp h
    exact lk.c _ (look_mem hv)
def sp_Plan___init__ : Sp3 := fun ds μ R => ∃ q x evs y ties lo, ds = [.ref q, x, y, limV lo] ∧ μ q = some (.ins "Plan" []) ∧ lstOf μ x = some (sds evs) ∧ lstOf μ y = some (ties.map tieD) ∧ PlOk evs ties (lo.getD []) ∧
  R .non (mset μ q (.ins "Plan" (planF evs ties (limsOf evs (lo.getD [])))))
def t_Plan___init___6 : TS3 := (sFld3 "Plan" "own_limits" (vDc false false (iAny (vVar 1)) (gN 4) (vAnd (vB (vOp gNotN (vVar 3) (vC .non))) (vB (vOp (gIn false) (vVar 4) (vVar 3)))) (vVar 4) (vOp gAt (vVar 3) (vVar 4)) [4]) (vVar 0))
def t_Plan___init___5 : TS3 := sSeq (sFld3 "Plan" "own_ties" (vCB gList (vCons (vVar 2) vNil)) (vVar 0)) t_Plan___init___6
def t_Plan___init___4 : TS3 := sSeq (sFld3 "Plan" "own_events" (vCB gList (vCons (vVar 1) vNil)) (vVar 0)) t_Plan___init___5
def t_Plan___init___3 : TS3 := sSeq (sDrop (vCall 2 sp_need_no_ring (vCons (vVar 1) (vCons (vVar 2) vNil)))) t_Plan___init___4
def t_Plan___init___2 : TS3 := sSeq (sIf (vB (vOp gNotN (vVar 3) (vC .non))) (sDrop (vCall 2 sp_need_limits (vCons (vVar 1) (vCons (vVar 3) vNil)))) sNext) t_Plan___init___3
def t_Plan___init___1 : TS3 := sSeq (sDrop (vCall 2 sp_need_ties (vCons (vVar 1) (vCons (vVar 2) vNil)))) t_Plan___init___2
def t_Plan___init__ : TS3 := sSeq (sDrop (vCall 1 sp_need_events (vCons (vVar 1) vNil))) t_Plan___init___1
theorem lim_dc {Pm : Mu → Prop} {μ : Mu} {δ : St3} {R : Dic → Mu → Prop} {lo : Option Lims} (hP : Pm μ) (h3 : δ[3]? = some (some (limV lo))) (hl : 4 < δ.length) : ∀ (todo done : List Str), (done ++ todo).Nodup → (done ++ todo).length ≤ 100 →
    R (.k (limK (limsOf (done ++ todo) (lo.getD [])))) μ →
    dcW Pm (gN 4) (vAnd (vB (vOp gNotN (vVar 3) (vC .non))) (vB (vOp (gIn false) (vVar 4) (vVar 3)))) (vVar 4) (vOp gAt (vVar 3) (vVar 4)) δ R (sds todo) (.k (limK (limsOf done (lo.getD [])))) μ
  | [], done, _, _, k => ⟨hP, by simpa using k⟩
  | e :: r, done, nd, hn, k => by
    have hsl : sizeLine = 16777216 := by decide
    have ne : e ∉ done := by
      rw [List.nodup_append] at nd
      exact fun h => nd.2.2 e h e List.mem_cons_self rfl
    refine ⟨hP, ?_, ?_⟩
    · show (limK _).length < _
      have : (limsOf done (lo.getD [])).length ≤ done.length := List.length_filterMap_le _ _
      simp only [limK, List.length_map]
      simp only [List.length_append] at hn
      omega
    have e1 : (δ.set 4 (some (D.str e)))[4]? = some (some (.str e)) := by simp [hl]
    have e2 : (δ.set 4 (some (D.str e)))[3]? = some (some (limV lo)) := by rw [List.getElem?_set_ne (by decide)]; exact h3
    have ap : limsOf (done ++ [e]) (lo.getD []) = limsOf done (lo.getD []) ++ ((lo.getD []).lookup e).toList.map fun v => (e, v) := by
      unfold limsOf
      rw [List.filterMap_append]
      congr 1
      cases h : (lo.getD []).lookup e <;> simp [h]
    have rec_ := lim_dc hP h3 hl r (done ++ [e]) (by simpa using nd) (by simpa using hn) (by simpa using k)
    rw [ap] at rec_
    simp only [gN, vAnd, vB, vOp, vVar, vC, e1, e2]
    cases lo with
    | none =>
      simp only [limV, gNotN, isNonD, Bool.not_true, Bool.false_eq_true, if_false]
      simpa [sds] using rec_
    | some l =>
      simp only [limV, gNotN, isNonD, Bool.not_false, if_true]
      refine in_d (c := .k (limK l)) (r := (l.lookup e).map D.int) rfl (by show some _ = some _; rw [val_lim]) ?_
      cases hv : l.lookup e with
      | none =>
        simp only [Option.map_none, Option.isSome_none, Bool.false_eq_true, if_false]
        simpa [hv, sds] using rec_
      | some v =>
        simp only [Option.map_some, Option.isSome_some, Bool.false_eq_true, if_false, if_true]
        refine at_d (c := .k (limK l)) (d := .int v) rfl (by show some _ = some _; rw [val_lim, hv]; rfl) ⟨.k (putD (limK (limsOf done l)) (.inr e) (.int v)), rfl, ?_⟩
        have : putD (limK (limsOf done l)) (.inr e) (.int v) = limK (limsOf done l ++ [(e, v)]) := by
          unfold putD
          rw [if_neg]
          · unfold limK; rw [List.map_append]; rfl
          · intro q
            rw [List.any_eq_true] at q
            obtain ⟨p, hp, q⟩ := q
            obtain ⟨a, ha, rfl⟩ := List.mem_map.mp hp
            have ea : a.1 = e := Sum.inr.inj (of_decide_eq_true q)
            have : a.1 ∈ (limsOf done l).map (·.1) := List.mem_map.mpr ⟨a, ha, rfl⟩
            rw [limsOf_keys] at this
            exact ne (ea ▸ (List.mem_filter.mp this).1)
        rw [this]
        simpa [hv, sds] using rec_
theorem pure_Plan___init__ (ds : List D) (μ : Mu) (R : DK) (hl : ds.length = 4) (h : sp_Plan___init__ ds μ R) : t_Plan___init__ (endsOf R) (start3 ["self", "events", "ties", "limits", "event"] ds) μ := by
  obtain ⟨q, x, evs, y, ties, lo, rfl, hq, hx, hy, ok, h⟩ := h
  show t_Plan___init__ (endsOf R) [some (.ref q), some x, some y, some (limV lo), none] μ
  unfold t_Plan___init__ t_Plan___init___1 t_Plan___init___2
  walk_at "l3"
  refine ⟨rfl, x, evs, rfl, hx, ok.e, rfl, x, evs, y, ties, rfl, hx, ok.e, hy, ok.t, ?_⟩
  have tail : t_Plan___init___3 (endsOf R) [some (.ref q), some x, some y, some (limV lo), none] μ := by
    unfold t_Plan___init___3 t_Plan___init___4 t_Plan___init___5
    walk_at "l3"
    refine ⟨rfl, x, evs, y, ties, rfl, hx, ok.e, hy, ok.t, ok.r, x, _, rfl, seq_lst hx, q, _, rfl, hq, by decide, ?_⟩
    refine ⟨y, _, rfl, seq_lst (lst_ins hy hq), q, _, rfl, mset_same, Nat.lt_of_le_of_lt (putFD_len _ _ _) (by decide), ?_⟩
    rw [mset_mset]
    unfold t_Plan___init___6
    walk_at "l3"
    refine any_lst (lst_ins hx hq) fun Pm hP => ?_
    refine lim_dc (lo := lo) (hP _ (lst_ins hx hq)) rfl (by show 4 < 5; decide) evs [] (by simpa using ok.e.nd) (by have := ok.e.le; simp; omega) ?_
    refine ⟨q, _, rfl, mset_same, Nat.lt_of_le_of_lt (putFD_len _ _ _) (Nat.lt_of_le_of_lt (Nat.succ_le_succ (putFD_len _ _ _)) (by decide)), ?_⟩
    rw [mset_mset]
    exact fin_now h
  cases lo with
  | none =>
    simp only [limV, gNotN, isNonD, Bool.not_true, Bool.false_eq_true, if_false]
    exact tail
  | some l =>
    simp only [limV, gNotN, isNonD, Bool.not_false, if_true]
    exact ⟨rfl, x, evs, l, rfl, hx, ok.e, ok.l, tail⟩
end C1
namespace C2
section
variable {N : Type} [DecidableEq N]
inductive Wk (rows : List (N × N × Int)) : N → N → Int → Nat → Prop
  | nil (a : N) : Wk rows a a 0 0
  | cons {a b c : N} {w v : Int} {k : Nat} : (a, b, w) ∈ rows → Wk rows b c v k → Wk rows a c (w + v) (k + 1)
theorem Wk.app {rows : List (N × N × Int)} {a b c : N} {w v : Int} {k j : Nat} (h : Wk rows a b w k) (g : Wk rows b c v j) : Wk rows a c (w + v) (k + j) := by
  induction h with
  | nil a => simpa using g
  | cons e _ ih =>
    have := Wk.cons e (ih g)
    rw [Int.add_assoc, Nat.add_right_comm]
    exact this
theorem Wk.one {rows : List (N × N × Int)} {a b : N} {w : Int} (h : (a, b, w) ∈ rows) : Wk rows a b w 1 := by
  simpa using Wk.cons h (.nil b)
theorem Wk.pos {rows : List (N × N × Int)} (hp : ∀ r ∈ rows, 0 ≤ r.2.2) {a b : N} {w : Int} {k : Nat} (h : Wk rows a b w k) : 0 ≤ w := by
  induction h with
  | nil a => exact Int.le_refl 0
  | cons e _ ih => have := hp _ e; simp only at this; omega
theorem Wk.mono {rows rows' : List (N × N × Int)} (hs : ∀ r ∈ rows, r ∈ rows') {a b : N} {w : Int} {k : Nat} (h : Wk rows a b w k) : Wk rows' a b w k := by
  induction h with
  | nil a => exact .nil a
  | cons e _ ih => exact .cons (hs _ e) ih
def leO (o : Option Int) (w : Int) : Prop := ∃ v, o = some v ∧ v ≤ w
theorem leO.mono {o : Option Int} {w w' : Int} (h : leO o w) (hw : w ≤ w') : leO o w' := by
  obtain ⟨v, e, h⟩ := h
  exact ⟨v, e, Int.le_trans h hw⟩
structure IsD (rows : List (N × N × Int)) (a b : N) (o : Option Int) : Prop where
  sound : ∀ v, o = some v → ∃ k, Wk rows a b v k
  least : ∀ w k, Wk rows a b w k → leO o w
theorem IsD.uniq {rows : List (N × N × Int)} {a b : N} {o o' : Option Int} (h : IsD rows a b o) (h' : IsD rows a b o') : o = o' := by
  cases o with
  | none =>
    cases o' with
    | none => rfl
    | some v =>
      obtain ⟨k, w⟩ := h'.sound v rfl
      obtain ⟨u, e, _⟩ := h.least v k w
      cases e
  | some v =>
    obtain ⟨k, w⟩ := h.sound v rfl
    obtain ⟨u, rfl, l1⟩ := h'.least v k w
    obtain ⟨k', w'⟩ := h'.sound u rfl
    obtain ⟨z, e, l2⟩ := h.least u k' w'
    cases e
    rw [Int.le_antisymm l2 l1]
inductive Wi (rows : List (N × N × Int)) (S : List N) : N → N → Int → Prop
  | edge {a b : N} {w : Int} : (a, b, w) ∈ rows → Wi rows S a b w
  | cons {a m b : N} {w v : Int} : (a, m, w) ∈ rows → m ∈ S → Wi rows S m b v → Wi rows S a b (w + v)
theorem Wi.pos {rows : List (N × N × Int)} {S : List N} (hp : ∀ r ∈ rows, 0 ≤ r.2.2) {a b : N} {w : Int} (h : Wi rows S a b w) : 0 ≤ w := by
  induction h with
  | edge e => exact hp _ e
  | cons e _ _ ih => have := hp _ e; simp only at this; omega
theorem Wi.split {rows : List (N × N × Int)} {S : List N} {m : N} (hp : ∀ r ∈ rows, 0 ≤ r.2.2) {a b : N} {w : Int} (h : Wi rows (S ++ [m]) a b w) : Wi rows S a b w ∨ ∃ w1 w2, Wi rows S a m w1 ∧ Wi rows S m b w2 ∧ w1 + w2 ≤ w := by
  induction h with
  | edge e => exact .inl (.edge e)
  | cons e hm h ih =>
    rcases List.mem_append.mp hm with hm | hm
    · rcases ih with ih | ⟨w1, w2, i1, i2, l⟩
      · exact .inl (.cons e hm ih)
      · exact .inr ⟨_, w2, .cons e hm i1, i2, by omega⟩
    · rw [List.mem_singleton] at hm
      subst hm
      rcases ih with ih | ⟨w1, w2, i1, i2, l⟩
      · exact .inr ⟨_, _, .edge e, ih, Int.le_refl _⟩
      · have := Wi.pos hp i1
        exact .inr ⟨_, w2, .edge e, i2, by omega⟩
theorem Wi.of {rows : List (N × N × Int)} {S : List N} (hS : ∀ r ∈ rows, r.1 ∈ S ∧ r.2.1 ∈ S) {a b : N} {w : Int} {k : Nat} (h : Wk rows a b w k) : (a = b ∧ w = 0) ∨ Wi rows S a b w := by
  induction h with
  | nil a => exact .inl ⟨rfl, rfl⟩
  | cons e _ ih =>
    rcases ih with ⟨rfl, rfl⟩ | ih
    · rw [Int.add_zero]; exact .inr (.edge e)
    · exact .inr (.cons e (hS _ e).2 ih)
structure LS (N Y : Type) where
  L : N → N → Option Int
  S : N → N → Option Y
variable {Y : Type}
def bet (o : Option Int) (w : Int) : Bool := match o with
  | none => true
  | some v => decide (w < v)
def rlx (s : LS N Y) (a b : N) (w : Int) (y : Y) : LS N Y := if bet (s.L a b) w = true then ⟨fun x z => if x = a ∧ z = b then some w else s.L x z, fun x z => if x = a ∧ z = b then some y else s.S x z⟩ else s
def fwS (ym : N → Y) (m : N) (s : LS N Y) (a b : N) : LS N Y := match s.L a m, s.L m b with
  | some u, some v => rlx s a b (u + v) (ym m)
  | _, _ => s
def Mn (s s' : LS N Y) : Prop := ∀ a b w, leO (s.L a b) w → leO (s'.L a b) w
theorem Mn.refl (s : LS N Y) : Mn s s := fun _ _ _ h => h
theorem Mn.trans {s s' s'' : LS N Y} (h : Mn s s') (g : Mn s' s'') : Mn s s'' := fun a b w k => g a b w (h a b w k)
theorem rlx_mn (s : LS N Y) (a b : N) (w : Int) (y : Y) : Mn s (rlx s a b w y) := fun x z v h => by
  unfold rlx
  split
  · rename_i q
    by_cases e : x = a ∧ z = b
    · simp only [e, and_self, if_true]
      obtain ⟨rfl, rfl⟩ := e
      obtain ⟨u, e, l⟩ := h
      unfold bet at q
      rw [e] at q
      have := of_decide_eq_true q
      exact ⟨w, rfl, by omega⟩
    · simp only [e, if_false]; exact h
  · exact h
theorem rlx_hit (s : LS N Y) (a b : N) (w : Int) (y : Y) : leO ((rlx s a b w y).L a b) w := by
  unfold rlx
  split
  · simp only [and_self, if_true]; exact ⟨w, rfl, Int.le_refl _⟩
  · rename_i q
    unfold bet at q
    cases e : s.L a b with
    | none => rw [e] at q; exact absurd rfl q
    | some v =>
      rw [e] at q
      exact ⟨v, rfl, by simpa using q⟩
theorem fwS_mn (ym : N → Y) (m : N) (s : LS N Y) (a b : N) : Mn s (fwS ym m s a b) := by
  unfold fwS
  split
  · exact rlx_mn _ _ _ _ _
  · exact Mn.refl s
theorem fwS_hit {ym : N → Y} {m : N} {s : LS N Y} {a b : N} {u v : Int} (h1 : leO (s.L a m) u) (h2 : leO (s.L m b) v) : leO ((fwS ym m s a b).L a b) (u + v) := by
  obtain ⟨u', e1, l1⟩ := h1
  obtain ⟨v', e2, l2⟩ := h2
  unfold fwS
  rw [e1, e2]
  exact (rlx_hit _ _ _ _ _).mono (by omega)
def Snd (rows : List (N × N × Int)) (s : LS N Y) : Prop := ∀ a b v, s.L a b = some v → ∃ k, Wk rows a b v k
theorem rlx_snd {rows : List (N × N × Int)} {s : LS N Y} {a b : N} {w : Int} {y : Y} {k : Nat} (h : Snd rows s) (g : Wk rows a b w k) : Snd rows (rlx s a b w y) := fun x z v e => by
  unfold rlx at e
  split at e
  · by_cases q : x = a ∧ z = b
    · simp only [q, and_self, if_true] at e
      obtain ⟨rfl, rfl⟩ := q
      cases e
      exact ⟨k, g⟩
    · simp only [q, if_false] at e; exact h x z v e
  · exact h x z v e
theorem fwS_snd {rows : List (N × N × Int)} {ym : N → Y} {m : N} {s : LS N Y} {a b : N} (h : Snd rows s) : Snd rows (fwS ym m s a b) := by
  unfold fwS
  split
  · rename_i u v e1 e2
    obtain ⟨k1, w1⟩ := h _ _ _ e1
    obtain ⟨k2, w2⟩ := h _ _ _ e2
    exact rlx_snd h (w1.app w2)
  · exact h
def fwB (ym : N → Y) (m a : N) (bs : List N) (s : LS N Y) : LS N Y := bs.foldl (fun s b => fwS ym m s a b) s
def fwA (ym : N → Y) (m : N) (nodes as : List N) (s : LS N Y) : LS N Y := as.foldl (fun s a => fwB ym m a nodes s) s
def fwM (ym : N → Y) (nodes ms : List N) (s : LS N Y) : LS N Y := ms.foldl (fun s m => fwA ym m nodes nodes s) s
theorem fwB_all (rows : List (N × N × Int)) {ym : N → Y} {m a : N} {s0 : LS N Y} : ∀ (bs : List N) (s : LS N Y), Mn s0 s → (Snd rows s → Snd rows (fwB ym m a bs s)) ∧ Mn s (fwB ym m a bs s) ∧ ∀ b ∈ bs, ∀ u v, leO (s0.L a m) u → leO (s0.L m b) v → leO ((fwB ym m a bs s).L a b) (u + v)
  | [], s, _ => ⟨id, Mn.refl s, fun b h => nomatch h⟩
  | b :: r, s, h => by
    obtain ⟨i1, i2, i3⟩ := fwB_all rows (ym := ym) (m := m) (a := a) r (fwS ym m s a b) (h.trans (fwS_mn ym m s a b))
    refine ⟨fun k => i1 (fwS_snd k), (fwS_mn ym m s a b).trans i2, fun c hc u v h1 h2 => ?_⟩
    rcases List.mem_cons.mp hc with rfl | hc
    · exact i2 _ _ _ (fwS_hit (h _ _ _ h1) (h _ _ _ h2))
    · exact i3 c hc u v h1 h2
theorem fwA_all (rows : List (N × N × Int)) {ym : N → Y} {m : N} {nodes : List N} {s0 : LS N Y} : ∀ (as : List N) (s : LS N Y), Mn s0 s → (Snd rows s → Snd rows (fwA ym m nodes as s)) ∧ Mn s (fwA ym m nodes as s) ∧ ∀ a ∈ as, ∀ b ∈ nodes, ∀ u v, leO (s0.L a m) u → leO (s0.L m b) v → leO ((fwA ym m nodes as s).L a b) (u + v)
  | [], s, _ => ⟨id, Mn.refl s, fun b h => nomatch h⟩
  | a :: r, s, h => by
    obtain ⟨j1, j2, j3⟩ := fwB_all rows (ym := ym) (m := m) (a := a) (s0 := s0) nodes s h
    obtain ⟨i1, i2, i3⟩ := fwA_all rows (ym := ym) (m := m) (nodes := nodes) r (fwB ym m a nodes s) (h.trans j2)
    refine ⟨fun k => i1 (j1 k), j2.trans i2, fun c hc b hb u v h1 h2 => ?_⟩
    rcases List.mem_cons.mp hc with rfl | hc
    · exact i2 _ _ _ (j3 b hb u v h1 h2)
    · exact i3 c hc b hb u v h1 h2
def Cmp (rows : List (N × N × Int)) (nodes S : List N) (s : LS N Y) : Prop := ∀ a ∈ nodes, ∀ b ∈ nodes, ∀ w, Wi rows S a b w → leO (s.L a b) w
theorem fwM_all {rows : List (N × N × Int)} {ym : N → Y} {nodes : List N} (hp : ∀ r ∈ rows, 0 ≤ r.2.2) : ∀ (ms S : List N) (s : LS N Y), (∀ m ∈ ms, m ∈ nodes) → Snd rows s → Cmp rows nodes S s → Snd rows (fwM ym nodes ms s) ∧ Mn s (fwM ym nodes ms s) ∧ Cmp rows nodes (S ++ ms) (fwM ym nodes ms s)
  | [], S, s, _, h1, h2 => ⟨h1, Mn.refl s, by rw [List.append_nil]; exact h2⟩
  | m :: r, S, s, hm, h1, h2 => by
    obtain ⟨j1, j2, j3⟩ := fwA_all rows (ym := ym) (m := m) (nodes := nodes) (s0 := s) nodes s (Mn.refl s)
    have hmn := hm m List.mem_cons_self
    obtain ⟨i1, i2, i3⟩ := fwM_all (ym := ym) hp r (S ++ [m]) (fwA ym m nodes nodes s) (fun x hx => hm x (List.mem_cons_of_mem _ hx)) (j1 h1) (fun a ha b hb w q => by
      rcases q.split hp with q | ⟨w1, w2, q1, q2, l⟩
      · exact j2 _ _ _ (h2 a ha b hb w q)
      · exact (j3 a ha b hb w1 w2 (h2 a ha m hmn w1 q1) (h2 m hmn b hb w2 q2)).mono l)
    refine ⟨i1, j2.trans i2, ?_⟩
    rw [List.append_assoc] at i3
    exact i3
def row0 (nodes : List N) : LS N Y := ⟨fun a b => if a = b ∧ a ∈ nodes then some 0 else none, fun _ _ => none⟩
def rlxR (rows : List ((N × N × Int) × Y)) (s : LS N Y) : LS N Y := rows.foldl (fun s r => rlx s r.1.1 r.1.2.1 r.1.2.2 r.2) s
theorem rlxR_all (all : List (N × N × Int)) : ∀ (rows : List ((N × N × Int) × Y)) (s : LS N Y), (∀ r ∈ rows, r.1 ∈ all) → Snd all s → Snd all (rlxR rows s) ∧ Mn s (rlxR rows s) ∧ ∀ r ∈ rows, leO ((rlxR rows s).L r.1.1 r.1.2.1) r.1.2.2
  | [], s, _, h => ⟨h, Mn.refl s, fun r h => nomatch h⟩
  | r :: t, s, ha, h => by
    obtain ⟨i1, i2, i3⟩ := rlxR_all all t (rlx s r.1.1 r.1.2.1 r.1.2.2 r.2) (fun x hx => ha x (List.mem_cons_of_mem _ hx)) (rlx_snd h (Wk.one (ha r List.mem_cons_self)))
    refine ⟨i1, (rlx_mn _ _ _ _ _).trans i2, fun x hx => ?_⟩
    rcases List.mem_cons.mp hx with rfl | hx
    · exact i2 _ _ _ (rlx_hit _ _ _ _ _)
    · exact i3 x hx
def fw (ym : N → Y) (nodes : List N) (rows : List ((N × N × Int) × Y)) : LS N Y := fwM ym nodes nodes (rlxR rows (row0 nodes))
theorem fw_isD {ym : N → Y} {nodes : List N} {rows : List ((N × N × Int) × Y)} (hp : ∀ r ∈ rows, 0 ≤ r.1.2.2) (hn : ∀ r ∈ rows, r.1.1 ∈ nodes ∧ r.1.2.1 ∈ nodes) {a b : N} (ha : a ∈ nodes) (hb : b ∈ nodes) : IsD (rows.map (·.1)) a b ((fw ym nodes rows).L a b) := by
  have hp' : ∀ r ∈ rows.map (·.1), 0 ≤ r.2.2 := fun r hr => by
    obtain ⟨x, hx, rfl⟩ := List.mem_map.mp hr
    exact hp x hx
  have hn' : ∀ r ∈ rows.map (·.1), r.1 ∈ nodes ∧ r.2.1 ∈ nodes := fun r hr => by
    obtain ⟨x, hx, rfl⟩ := List.mem_map.mp hr
    exact hn x hx
  have s0 : Snd (rows.map (·.1)) (row0 nodes : LS N Y) := fun a b v e => by
    have e' : (if a = b ∧ a ∈ nodes then some (0 : Int) else none) = some v := e
    split at e'
    · rename_i q; cases e'; rw [q.1]; exact ⟨0, .nil b⟩
    · cases e'
  obtain ⟨i1, i2, i3⟩ := rlxR_all (rows.map (·.1)) rows (row0 nodes) (fun r hr => List.mem_map.mpr ⟨r, hr, rfl⟩) s0
  obtain ⟨j1, j2, j3⟩ := fwM_all (ym := ym) hp' nodes [] (rlxR rows (row0 nodes)) (fun _ h => h) i1 (fun a _ b _ w q => by
    cases q with
    | edge e =>
      obtain ⟨x, hx, e2⟩ := List.mem_map.mp e
      have := i3 x hx
      rw [e2] at this
      exact this
    | cons _ h _ => cases h)
  refine ⟨fun v e => j1 a b v e, fun w k q => ?_⟩
  rcases Wi.of hn' q with ⟨rfl, rfl⟩ | q
  · refine j2 _ _ _ (i2 _ _ _ ⟨0, ?_, Int.le_refl _⟩)
    show (if a = a ∧ a ∈ nodes then some (0 : Int) else none) = some 0
    rw [if_pos ⟨rfl, ha⟩]
  · exact j3 a ha b hb w (by simpa using q)
def rlF (f : N → Option Int) (r : N × N × Int) : N → Option Int := fun x => match f r.1 with
  | none => f x
  | some u => if bet (f r.2.1) (u + r.2.2) = true ∧ x = r.2.1 then some (u + r.2.2) else f x
def turnF (rows : List (N × N × Int)) (f : N → Option Int) : N → Option Int := rows.foldl rlF f
def farF (rows : List (N × N × Int)) : Nat → (N → Option Int) → N → Option Int
  | 0, f => f
  | n + 1, f => turnF rows (farF rows n f)
def MnF (f g : N → Option Int) : Prop := ∀ x w, leO (f x) w → leO (g x) w
theorem rlF_mn (f : N → Option Int) (r : N × N × Int) : MnF f (rlF f r) := fun x w h => by
  unfold rlF
  split
  · exact h
  · split
    · rename_i u e q
      obtain ⟨q, rfl⟩ := q
      obtain ⟨v, e2, l⟩ := h
      unfold bet at q
      rw [e2] at q
      have := of_decide_eq_true q
      exact ⟨_, rfl, by omega⟩
    · exact h
theorem rlF_hit {f : N → Option Int} {r : N × N × Int} {u : Int} (h : leO (f r.1) u) : leO (rlF f r r.2.1) (u + r.2.2) := by
  obtain ⟨v, e, l⟩ := h
  unfold rlF
  rw [e]
  simp only
  split
  · exact ⟨_, rfl, by omega⟩
  · rename_i q
    unfold bet at q
    cases e2 : f r.2.1 with
    | none => rw [e2] at q; exact absurd ⟨rfl, trivial⟩ q
    | some z =>
      rw [e2] at q
      refine ⟨z, rfl, ?_⟩
      have : ¬ (v + r.2.2 < z) := fun k => q ⟨decide_eq_true k, trivial⟩
      omega
def SndF (rows : List (N × N × Int)) (a : N) (f : N → Option Int) : Prop := ∀ x v, f x = some v → ∃ k, Wk rows a x v k
theorem rlF_snd {rows : List (N × N × Int)} {a : N} {f : N → Option Int} {r : N × N × Int} (h : SndF rows a f) (hr : r ∈ rows) : SndF rows a (rlF f r) := fun x v e => by
  unfold rlF at e
  split at e
  · exact h x v e
  · split at e
    · rename_i u e1 q
      obtain ⟨q, rfl⟩ := q
      cases e
      obtain ⟨k, w⟩ := h _ _ e1
      exact ⟨_, w.app (Wk.one hr)⟩
    · exact h x v e
theorem turnF_all (all : List (N × N × Int)) {a : N} {f0 : N → Option Int} : ∀ (rows : List (N × N × Int)) (f : N → Option Int), MnF f0 f → (∀ r ∈ rows, r ∈ all) → (SndF all a f → SndF all a (turnF rows f)) ∧ MnF f (turnF rows f) ∧ ∀ r ∈ rows, ∀ u, leO (f0 r.1) u → leO (turnF rows f r.2.1) (u + r.2.2)
  | [], f, _, _ => ⟨id, fun _ _ h => h, fun r h => nomatch h⟩
  | r :: t, f, hm, ha => by
    obtain ⟨i1, i2, i3⟩ := turnF_all all (a := a) (f0 := f0) t (rlF f r) (fun x w h => rlF_mn f r x w (hm x w h)) (fun x hx => ha x (List.mem_cons_of_mem _ hx))
    refine ⟨fun k => i1 (rlF_snd k (ha r List.mem_cons_self)), fun x w h => i2 x w (rlF_mn f r x w h), fun x hx u hu => ?_⟩
    rcases List.mem_cons.mp hx with rfl | hx
    · exact i2 _ _ (rlF_hit (hm _ _ hu))
    · exact i3 x hx u hu
theorem Wk.snoc {rows : List (N × N × Int)} {a c : N} {w : Int} {k : Nat} (h : Wk rows a c w (k + 1)) : ∃ b v u, Wk rows a b v k ∧ (b, c, u) ∈ rows ∧ w = v + u := by
  induction k generalizing a w with
  | zero =>
    cases h with
    | cons e h =>
      cases h with
      | nil => exact ⟨_, 0, _, .nil _, e, by omega⟩
  | succ k ih =>
    cases h with
    | cons e h =>
      obtain ⟨b, v, u, h1, h2, rfl⟩ := ih h
      exact ⟨b, _, u, .cons e h1, h2, by omega⟩
theorem farF_all {rows : List (N × N × Int)} {a : N} {f : N → Option Int} (h0 : f a = some 0) (hs : SndF rows a f) : ∀ n, SndF rows a (farF rows n f) ∧ ∀ x w k, k ≤ n → Wk rows a x w k → leO (farF rows n f x) w
  | 0 => ⟨hs, fun x w k hk h => by
    cases h with
    | nil => exact ⟨0, h0, Int.le_refl _⟩
    | cons _ _ => omega⟩
  | n + 1 => by
    obtain ⟨i1, i2⟩ := farF_all h0 hs n
    obtain ⟨j1, j2, j3⟩ := turnF_all rows (a := a) (f0 := farF rows n f) rows (farF rows n f) (fun _ _ h => h) (fun _ h => h)
    refine ⟨j1 i1, fun x w k hk h => ?_⟩
    by_cases q : k ≤ n
    · exact j2 _ _ (i2 x w k q h)
    · obtain rfl : k = n + 1 := by omega
      obtain ⟨b, v, u, h1, h2, rfl⟩ := h.snoc
      exact j3 _ h2 v (i2 b v n (Nat.le_refl _) h1)
inductive Wn (rows : List (N × N × Int)) : N → N → Int → List N → Prop
  | nil (a : N) : Wn rows a a 0 []
  | cons {a b c : N} {w v : Int} {l : List N} : (a, b, w) ∈ rows → Wn rows b c v l → Wn rows a c (w + v) (a :: l)
theorem Wn.of {rows : List (N × N × Int)} {a b : N} {w : Int} {k : Nat} (h : Wk rows a b w k) : ∃ l, Wn rows a b w l ∧ l.length = k := by
  induction h with
  | nil a => exact ⟨[], .nil a, rfl⟩
  | cons e _ ih =>
    obtain ⟨l, h, hl⟩ := ih
    exact ⟨_, .cons e h, by rw [List.length_cons, hl]⟩
theorem Wn.to {rows : List (N × N × Int)} {a b : N} {w : Int} {l : List N} (h : Wn rows a b w l) : Wk rows a b w l.length := by
  induction h with
  | nil a => exact .nil a
  | cons e _ ih => exact .cons e ih
theorem Wn.pos {rows : List (N × N × Int)} (hp : ∀ r ∈ rows, 0 ≤ r.2.2) {a b : N} {w : Int} {l : List N} (h : Wn rows a b w l) : 0 ≤ w := by
  induction h with
  | nil a => exact Int.le_refl 0
  | cons e _ ih => have := hp _ e; simp only at this; omega
theorem Wn.tail {rows : List (N × N × Int)} (hp : ∀ r ∈ rows, 0 ≤ r.2.2) {a b x : N} {w : Int} {l : List N} (h : Wn rows a b w l) (hx : x ∈ l) : ∃ v l', Wn rows x b v (x :: l') ∧ v ≤ w ∧ ∃ p, l = p ++ x :: l' := by
  induction h with
  | nil a => cases hx
  | cons e h ih =>
    rename_i a b c w v l
    by_cases q : x = a
    · subst q; exact ⟨_, l, .cons e h, Int.le_refl _, [], rfl⟩
    · have hx' : x ∈ l := by
        rcases List.mem_cons.mp hx with h | h
        · exact absurd h q
        · exact h
      obtain ⟨v', l', h', lv, p, rfl⟩ := ih hx'
      have := hp _ e
      simp only at this
      exact ⟨v', l', h', by omega, a :: p, rfl⟩
theorem Wn.plain {rows : List (N × N × Int)} (hp : ∀ r ∈ rows, 0 ≤ r.2.2) {a b : N} {w : Int} {l : List N} (h : Wn rows a b w l) : ∃ v l', Wn rows a b v l' ∧ v ≤ w ∧ l'.Nodup ∧ ∀ x ∈ l', x ∈ l := by
  induction h with
  | nil a => exact ⟨0, [], .nil a, Int.le_refl _, List.nodup_nil, fun _ h => h⟩
  | cons e h ih =>
    rename_i a b c w v l
    obtain ⟨v', l', h', lv, nd, sub⟩ := ih
    by_cases q : a ∈ l'
    · obtain ⟨v2, l2, h2, lv2, p, rfl⟩ := h'.tail hp q
      have := hp _ e
      simp only at this
      rw [List.nodup_append] at nd
      exact ⟨v2, a :: l2, h2, by omega, nd.2.1, fun x hx => List.mem_cons_of_mem _ (sub x (List.mem_append_right _ hx))⟩
    · exact ⟨w + v', a :: l', .cons e h', by omega, List.nodup_cons.mpr ⟨q, nd⟩, fun x hx => by
        rcases List.mem_cons.mp hx with rfl | hx
        · exact List.mem_cons_self
        · exact List.mem_cons_of_mem _ (sub x hx)⟩
theorem Wn.src {rows : List (N × N × Int)} {a b : N} {w : Int} {l : List N} (h : Wn rows a b w l) : ∀ x ∈ l, ∃ r ∈ rows, r.1 = x := by
  induction h with
  | nil a => exact fun x h => nomatch h
  | cons e _ ih =>
    intro x hx
    rcases List.mem_cons.mp hx with rfl | hx
    · exact ⟨_, e, rfl⟩
    · exact ih x hx
theorem nodup_len : ∀ {l m : List N}, l.Nodup → (∀ x ∈ l, x ∈ m) → l.length ≤ m.length
  | [], m, _, _ => Nat.zero_le _
  | a :: l, m, nd, h => by
    obtain ⟨n1, n2⟩ := List.nodup_cons.mp nd
    have ha := h a List.mem_cons_self
    have := nodup_len (l := l) (m := m.erase a) n2 fun x hx => by
      have hne : x ≠ a := fun q => n1 (q ▸ hx)
      exact (List.mem_erase_of_ne hne).mpr (h x (List.mem_cons_of_mem _ hx))
    rw [List.length_erase_of_mem ha] at this
    have : 0 < m.length := List.length_pos_of_mem ha
    rw [List.length_cons]
    omega
theorem farF_isD {rows : List (N × N × Int)} {nodes : List N} {a : N} {f : N → Option Int} {n : Nat} (hp : ∀ r ∈ rows, 0 ≤ r.2.2) (hn : ∀ r ∈ rows, r.1 ∈ nodes) (hl : nodes.length ≤ n) (h0 : f a = some 0) (hs : SndF rows a f) (b : N) : IsD rows a b (farF rows n f b) := by
  obtain ⟨i1, i2⟩ := farF_all h0 hs n
  refine ⟨fun v e => i1 b v e, fun w k h => ?_⟩
  obtain ⟨l, hh, rfl⟩ := Wn.of h
  obtain ⟨v, l', h', lv, nd, _⟩ := hh.plain hp
  have : l'.length ≤ nodes.length := nodup_len nd fun x hx => by
    obtain ⟨r, hr, rfl⟩ := h'.src x hx
    exact hn r hr
  exact (i2 b v _ (by omega) h'.to).mono lv
end
end C2
namespace C1
open PySem PySem.Spec L2 L3 C2
local macro_rules | `(tactic| walk_at "l3") => `(tactic| simp only [sSeq, sNext, sIf, sRet, sRetN, sSet, sDrop, sSub, sFor, sAsg, sPar2, sPar3, sCont, sFld3, sFld2, sAug, vVar, vC, vNil, vCons, vOp, vB, vChain, vAnd, vOr, vNot, vAndV, vOrV, vNotV, vIf, vUn, vCB, vLst, vTup, vLstT, vCall, vCal, vMak, vMetA, vFld, vSl, vPart, vNoP, vLc, vLcT, vDc, vBM, vBM0, vGet1, vGet2, vItems, vRev, vLRg, vStar, vDZip, iRg1, iRg2, iRgD, iAny, iEnm, iItm, iVal, vDict0, vDict0T, vDict0N, vDisp, vDispT, vPairs,
  List.getElem?_cons_zero, List.getElem?_cons_succ, List.set_cons_zero, List.set_cons_succ, wipe3, endsOf_rt, endsOf_nx, gLt, gLe, gGt, gGe, L3.gSub, gMul, gMod, gDiv, gPow, g2I, g2I0, gN, gT, gGo, Option.bind_some, gAdd_ii, gAdd_ss, gNeg_i, gMax2_ii, gMin2_ii, gLen_s, gEqS_ii, gEqS_ss, gEqS_bb, gNeS_ii, gNeS_ss, gIsN_n, gNotN_n, gSl_s, isNonD, if_true, if_false, Bool.false_eq_true, Bool.not_true, Bool.not_false])
def sp_Plan_events : Sp3 := fun ds μ R => ∃ evs ties lims, ds = [planD evs ties lims] ∧ R (.lst (sds evs)) μ
def t_Plan_events : TS3 := (sRet (vCB gList (vCons (vFld "Plan" "own_events" (vVar 0)) vNil)))
theorem pure_Plan_events (ds : List D) (μ : Mu) (R : DK) (hl : ds.length = 1) (h : sp_Plan_events ds μ R) : t_Plan_events (endsOf R) (start3 ["self"] ds) μ := by
  obtain ⟨evs, ties, lims, rfl, h⟩ := h
  show t_Plan_events (endsOf R) [some (planD evs ties lims)] μ
  unfold t_Plan_events
  walk_at "l3"
  exact ⟨planF evs ties lims, _, rfl, rfl, _, _, rfl, rfl, fin_now h⟩
def sp_Plan_ties : Sp3 := fun ds μ R => ∃ evs ties lims, ds = [planD evs ties lims] ∧ R (.lst (ties.map tieD)) μ
def t_Plan_ties : TS3 := (sRet (vCB gList (vCons (vFld "Plan" "own_ties" (vVar 0)) vNil)))
theorem pure_Plan_ties (ds : List D) (μ : Mu) (R : DK) (hl : ds.length = 1) (h : sp_Plan_ties ds μ R) : t_Plan_ties (endsOf R) (start3 ["self"] ds) μ := by
  obtain ⟨evs, ties, lims, rfl, h⟩ := h
  show t_Plan_ties (endsOf R) [some (planD evs ties lims)] μ
  unfold t_Plan_ties
  walk_at "l3"
  exact ⟨planF evs ties lims, _, rfl, rfl, _, _, rfl, rfl, fin_now h⟩
def sp_Plan_limits : Sp3 := fun ds μ R => ∃ evs ties lims, ds = [planD evs ties lims] ∧ R (.dct (limK lims)) μ
def t_Plan_limits : TS3 := (sRet (vCB (gDict false) (vCons (vFld "Plan" "own_limits" (vVar 0)) vNil)))
theorem pure_Plan_limits (ds : List D) (μ : Mu) (R : DK) (hl : ds.length = 1) (h : sp_Plan_limits ds μ R) : t_Plan_limits (endsOf R) (start3 ["self"] ds) μ := by
  obtain ⟨evs, ties, lims, rfl, h⟩ := h
  show t_Plan_limits (endsOf R) [some (planD evs ties lims)] μ
  unfold t_Plan_limits
  walk_at "l3"
  exact ⟨planF evs ties lims, _, rfl, rfl, _, _, rfl, .inl rfl, fin_now h⟩
def sp_need_plan : Sp3 := fun ds μ R => ∃ evs ties lims, ds = [planD evs ties lims] ∧ R .non μ
def t_need_plan : TS3 := (sIf (vNot (vB (vCB (gIsC "Plan" []) (vCons (vVar 0) (vCons (vC (.cls "Plan")) vNil))))) sNever sNext)
theorem pure_need_plan (ds : List D) (μ : Mu) (R : DK) (hl : ds.length = 1) (h : sp_need_plan ds μ R) : t_need_plan (endsOf R) (start3 ["value"] ds) μ := by
  obtain ⟨evs, ties, lims, rfl, h⟩ := h
  show t_need_plan (endsOf R) [some (planD evs ties lims)] μ
  unfold t_need_plan
  walk_at "l3"
  refine ⟨_, some "Plan", rfl, rfl, (fun n e => .inl (by cases e; rfl)), ?_⟩
  simp only [decide_true, Bool.not_true, Bool.false_eq_true, if_false]
  exact fin_now h
abbrev Nd := Option Str
def nodeD : Nd → D
  | none => .non
  | some e => .str e
def leafN : Nd → Leaf
  | none => .none
  | some e => .text e
def lk2 (a b : Nd) : LK := [leafN a, leafN b]
theorem leafN_inj {a b : Nd} (h : leafN a = leafN b) : a = b := by
  cases a <;> cases b <;> cases h <;> rfl
theorem lk2_inj {a b c d : Nd} (h : lk2 a b = lk2 c d) : a = c ∧ b = d := by
  unfold lk2 at h
  obtain ⟨h1, h2⟩ := List.cons.inj h
  exact ⟨leafN_inj h1, leafN_inj (List.cons.inj h2).1⟩
theorem leafOf_node (a : Nd) : leafOf (nodeD a) = some (leafN a) := by cases a <;> rfl
theorem lkOf_node (a b : Nd) : lkOf (.tup [nodeD a, nodeD b]) = some (lk2 a b) := by
  show leavesOf [nodeD a, nodeD b] = _
  simp only [leavesOf, leafOf_node]; rfl
abbrev RowT := (Nd × Nd × Int) × D
def rowD (r : RowT) : D := .tup [nodeD r.1.1, nodeD r.1.2.1, .int r.1.2.2, r.2]
def tieR (p : Tie × Nat) : RowT := ((some p.1.1, some p.1.2.1, p.1.2.2), .tup [.str "tie", .int (p.2 : Nat)])
def limR (p : Str × Int) : RowT := ((none, some p.1, p.2), .tup [.str "limit", .str p.1])
def endR (e : Str) : RowT := ((some e, none, 0), .tup [.str "none", .str e])
def planRows (evs : List Str) (ties : List Tie) (lims : Lims) : List RowT := ties.zipIdx.map tieR ++ lims.map limR ++ evs.map endR
theorem enum_map {α : Type} (f : α → D) (xs : List α) : enumD (xs.map f) = xs.zipIdx.map fun p => .tup [.int (p.2 : Nat), f p.1] := by
  apply List.ext_getElem?
  intro i
  rw [List.getElem?_map, List.getElem?_zipIdx]
  cases h : xs[i]? with
  | none =>
    have h1 : xs.length ≤ i := List.getElem?_eq_none_iff.mp h
    simp only [Option.map_none]
    apply List.getElem?_eq_none
    rw [enum_len, List.length_map]
    exact h1
  | some x =>
    rw [enum_get (d := f x) (by rw [List.getElem?_map, h]; rfl)]
    simp
def sp_rows_of : Sp3 := fun ds μ R => ∃ evs ties lims, ds = [planD evs ties lims] ∧ PlOk evs ties lims ∧ R (.lst ((planRows evs ties lims).map rowD)) μ
theorem lims_len {evs : List Str} {lims : Lims} (h : LiOk evs lims) : lims.length ≤ evs.length := by
  have := nodup_len h.nd (m := evs) fun x hx => by
    obtain ⟨p, hp, rfl⟩ := List.mem_map.mp hx
    exact h.a p hp
  simpa using this
def t_rows_of_2 : TS3 := (sRet (vOp gAdd (vVar 1) (vLc (iAny (vMetA "Plan" "events" 0 sp_Plan_events (vVar 0) vNil)) (gN 6) vYes (vTup (vCons (vVar 6) (vCons (vC .non) (vCons (vC (.int 0)) (vCons (vTup (vCons (vC (.str "none")) (vCons (vVar 6) vNil))) vNil))))) [6])))
def t_rows_of_1 : TS3 := sSeq (sAug 1 (vLc (iItm (vMetA "Plan" "limits" 0 sp_Plan_limits (vVar 0) vNil)) (gT [(gN 6), (gN 7)]) vYes (vTup (vCons (vC .non) (vCons (vVar 6) (vCons (vVar 7) (vCons (vTup (vCons (vC (.str "limit")) (vCons (vVar 6) vNil))) vNil))))) [6, 7]) gIAdd) t_rows_of_2
def t_rows_of : TS3 := sSeq (sSet 1 (vLcT (iEnm (vCons (vMetA "Plan" "ties" 0 sp_Plan_ties (vVar 0) vNil) vNil)) (gT [(gN 2), (gT [(gN 3), (gN 4), (gN 5)])]) vYes (vTup (vCons (vVar 3) (vCons (vVar 4) (vCons (vVar 5) (vCons (vTup (vCons (vC (.str "tie")) (vCons (vVar 2) vNil))) vNil))))) [2, 3, 4, 5])) t_rows_of_1
theorem pure_rows_of (ds : List D) (μ : Mu) (R : DK) (hl : ds.length = 1) (h : sp_rows_of ds μ R) : t_rows_of (endsOf R) (start3 ["plan", "found", "index", "earlier", "later", "lag", "event", "limit"] ds) μ := by
  obtain ⟨evs, ties, lims, rfl, ok, h⟩ := h
  have hsl : sizeLine = 16777216 := by decide
  have h1 := ok.e.le
  have h2 := ok.t.le
  have h3 := lims_len ok.l
  show t_rows_of (endsOf R) [some (planD evs ties lims), none, none, none, none, none, none, none] μ
  unfold t_rows_of t_rows_of_1
  walk_at "l3"
  refine ⟨planF evs ties lims, rfl, rfl, rfl, evs, ties, lims, rfl, ?_⟩
  show lcW _ _ _ _ _ _ (enumD (ties.map tieD)) _ _
  rw [enum_map]
  refine lcg_map _ (fun p => rowD (tieR p)) trivial ties.zipIdx [] (fun p hp => ⟨_, rfl, fun R' hR => ?_⟩) (by rw [List.length_zipIdx]; simp; omega) fun q hq => ?_
  · walk_at "l3"
    exact ⟨by show 2 ≤ sizeLine; omega, by show 4 ≤ sizeLine; omega, hR⟩
  refine ⟨planF evs ties lims, rfl, rfl, rfl, evs, ties, lims, rfl, _, rfl, ?_⟩
  have e1 : (limK lims).map pairD = lims.map fun p => .tup [.str p.1, .int p.2] := by
    unfold limK; rw [List.map_map]; rfl
  rw [e1]
  refine lcg_map _ (fun p => rowD (limR p)) trivial lims [] (fun p hp => ⟨_, rfl, fun R' hR => ?_⟩) (by simp; omega) ?_
  · walk_at "l3"
    exact ⟨by show 2 ≤ sizeLine; omega, by show 4 ≤ sizeLine; omega, hR⟩
  refine ⟨_, _, mset_same, rfl, by simp; omega, ?_⟩
  unfold t_rows_of_2
  walk_at "l3"
  refine ⟨planF evs ties lims, rfl, rfl, rfl, evs, ties, lims, rfl, ?_⟩
  refine lcg_map _ (fun e => rowD (endR e)) trivial evs [] (fun p hp => ⟨_, rfl, fun R' hR => ?_⟩) (by simp; omega) ?_
  · walk_at "l3"
    exact ⟨by show 2 ≤ sizeLine; omega, by show 4 ≤ sizeLine; omega, hR⟩
  refine ⟨_, _, lst_ref mset_same, rfl, by simp; omega, fin_same (((Le.refl μ).mset hq).mset hq) ?_⟩
  have : (planRows evs ties lims).map rowD = [] ++ ties.zipIdx.map (fun p => rowD (tieR p)) ++ ([] ++ lims.map fun p => rowD (limR p)) ++ ([] ++ evs.map fun e => rowD (endR e)) := by
    unfold planRows
    simp
    rfl
  rw [← this]
  exact h
end C1
namespace C1
open PySem PySem.Spec L2 L3 C2
local macro_rules | `(tactic| walk_at "l3") => `(tactic| simp only [sSeq, sNext, sIf, sRet, sRetN, sSet, sDrop, sSub, sFor, sAsg, sPar2, sPar3, sCont, sFld3, sFld2, sAug, vVar, vC, vNil, vCons, vOp, vB, vChain, vAnd, vOr, vNot, vAndV, vOrV, vNotV, vIf, vUn, vCB, vLst, vTup, vLstT, vCall, vCal, vMak, vMetA, vFld, vSl, vPart, vNoP, vLc, vLcT, vDc, vBM, vBM0, vGet1, vGet2, vItems, vRev, vLRg, vStar, vDZip, iRg1, iRg2, iRgD, iAny, iEnm, iItm, iVal, vDict0, vDict0T, vDict0N, vDisp, vDispT, vPairs,
  List.getElem?_cons_zero, List.getElem?_cons_succ, List.set_cons_zero, List.set_cons_succ, wipe3, endsOf_rt, endsOf_nx, gLt, gLe, gGt, gGe, L3.gSub, gMul, gMod, gDiv, gPow, g2I, g2I0, gN, gT, gGo, Option.bind_some, gAdd_ii, gAdd_ss, gNeg_i, gMax2_ii, gMin2_ii, gLen_s, gEqS_ii, gEqS_ss, gEqS_bb, gNeS_ii, gNeS_ss, gIsN_n, gNotN_n, gSl_s, isNonD, if_true, if_false, Bool.false_eq_true, Bool.not_true, Bool.not_false])
theorem valN_map {k k' : LK} {v : D} : ∀ kvs : List (LK × D), valN (kvs.map fun kv => if kv.1 = k then (kv.1, v) else kv) k' = if k' = k then (valN kvs k).map (fun _ => v) else valN kvs k'
  | [] => by simp [valN]
  | (x, y) :: r => by
    have ih := valN_map (k := k) (k' := k') (v := v) r
    unfold valN at ih ⊢
    rw [List.map_cons, List.find?_cons, List.find?_cons, List.find?_cons]
    by_cases h1 : x = k
    · subst h1
      by_cases h2 : k' = x
      · subst h2; simp
      · have h3 : ¬ x = k' := fun z => h2 z.symm
        simp only [if_true, h3, h2, decide_false, if_false]
        rw [ih, if_neg h2]
    · by_cases h2 : x = k'
      · subst h2
        simp [h1]
      · simp only [h1, h2, if_false, decide_false]
        rw [ih]
theorem valN_put {kvs : List (LK × D)} {k k' : LK} {v : D} : valN (putN kvs k v) k' = if k' = k then some v else valN kvs k' := by
  unfold putN
  split
  · rename_i h
    rw [valN_map]
    obtain ⟨w, e⟩ := Option.isSome_iff_exists.mp h
    rw [e]; rfl
  · rename_i h
    unfold valN at h ⊢
    rw [List.find?_append]
    by_cases q : k' = k
    · subst q
      cases e : kvs.find? fun kv => decide (kv.1 = k') with
      | none => simp
      | some z => rw [e] at h; exact absurd rfl h
    · rw [if_neg q]
      have : ¬ k = k' := fun z => q z.symm
      simp [this]
theorem putN_len {kvs : List (LK × D)} {k : LK} {v : D} : (putN kvs k v).length ≤ kvs.length + 1 := by
  unfold putN
  split
  · rw [List.length_map]; omega
  · rw [List.length_append]; exact Nat.le_refl _
theorem putN_mem {kvs : List (LK × D)} {k : LK} {v : D} {p : LK × D} (h : p ∈ putN kvs k v) : p ∈ kvs ∨ p = (k, v) := by
  unfold putN at h
  split at h
  · obtain ⟨q, hq, e⟩ := List.mem_map.mp h
    split at e
    · rename_i z; subst e; exact .inr (by rw [z])
    · subst e; exact .inl hq
  · exact (List.mem_append.mp h).imp id fun h => List.mem_singleton.mp h
theorem putN_nd {kvs : List (LK × D)} {k : LK} {v : D} (h : (kvs.map (·.1)).Nodup) : ((putN kvs k v).map (·.1)).Nodup := by
  unfold putN
  split
  · have e : (kvs.map fun kv => if kv.1 = k then (kv.1, v) else kv).map (·.1) = kvs.map (·.1) := by
      rw [List.map_map]
      refine List.map_congr_left fun p _ => ?_
      show (if p.1 = k then (p.1, v) else p).1 = p.1
      split <;> rfl
    rw [e]; exact h
  · rename_i q
    rw [List.map_append, List.nodup_append]
    refine ⟨h, by simp, fun a ha b hb => ?_⟩
    rw [List.map_cons, List.map_nil, List.mem_singleton] at hb
    subst hb
    rintro rfl
    obtain ⟨p, hp, e⟩ := List.mem_map.mp ha
    refine q ?_
    unfold valN
    rw [Option.isSome_map, List.find?_isSome]
    exact ⟨p, hp, decide_eq_true e⟩
structure RepG (kvs : List (LK × D)) (f : Nd → Nd → Option D) : Prop where
  v : ∀ a b, valN kvs (lk2 a b) = f a b
  k : ∀ p ∈ kvs, ∃ a b, p.1 = lk2 a b
  n : (kvs.map (·.1)).Nodup
instance {kvs : List (LK × D)} {f : Nd → Nd → Option D} : CoeFun (RepG kvs f) fun _ => ∀ a b, valN kvs (lk2 a b) = f a b := ⟨RepG.v⟩
theorem RepG.put {kvs : List (LK × D)} {f : Nd → Nd → Option D} (h : RepG kvs f) (a b : Nd) (d : D) : RepG (putN kvs (lk2 a b) d) (fun x z => if x = a ∧ z = b then some d else f x z) := by
  refine ⟨fun x z => ?_, fun p hp => (putN_mem hp).elim (h.k p) fun e => ⟨a, b, by rw [e]⟩, putN_nd h.n⟩
  rw [valN_put]
  by_cases q : x = a ∧ z = b
  · obtain ⟨rfl, rfl⟩ := q; simp
  · rw [if_neg fun e => q (lk2_inj e)]
    show _ = if x = a ∧ z = b then some d else f x z
    rw [if_neg q]; exact h x z
abbrev LST := LS Nd D
def RepL (kvs : List (LK × D)) (L : Nd → Nd → Option Int) : Prop := RepG kvs fun a b => (L a b).map D.int
structure LsAt (μ0 μ : Mu) (q1 q2 : Addr) (s : LST) (n : Nat) : Prop where
  le : Le μ0 μ
  n1 : μ0 q1 = none
  n2 : μ0 q2 = none
  ne : q1 ≠ q2
  ex : ∃ kl ks, μ q1 = some (.dcn kl) ∧ μ q2 = some (.dcn ks) ∧ RepL kl s.L ∧ RepG ks s.S ∧ kl.length ≤ n ∧ ks.length ≤ n
theorem LsAt.mono {μ0 μ : Mu} {q1 q2 : Addr} {s : LST} {n m : Nat} (h : LsAt μ0 μ q1 q2 s n) (l : n ≤ m) : LsAt μ0 μ q1 q2 s m := by
  obtain ⟨kl, ks, e1, e2, r1, r2, l1, l2⟩ := h.ex
  exact ⟨h.le, h.n1, h.n2, h.ne, kl, ks, e1, e2, r1, r2, Nat.le_trans l1 l, Nat.le_trans l2 l⟩
theorem dic_n {μ : Mu} {q : Addr} {kvs : List (LK × D)} (h : μ q = some (.dcn kvs)) : dicOf μ (.ref q) = some (.n kvs) := by simp only [dicOf, h]
theorem get_n {kl : List (LK × D)} {f : Nd → Nd → Option D} (r : RepG kl f) (a b : Nd) : (Dic.n kl).get (.tup [nodeD a, nodeD b]) = some (f a b) := by
  show (lkOf _).map _ = _
  rw [lkOf_node]
  show some (valN kl (lk2 a b)) = _
  rw [r a b]
theorem relax {Z : Ends3} {δ : St3} {μ0 μ : Mu} {q1 q2 : Addr} {s : LST} {n i j : Nat} {a b : Nd} {w : Int} {y : D} (h : LsAt μ0 μ q1 q2 s n) (hn : n < 100000) (h2 : δ[2]? = some (some (.ref q1))) (h4 : δ[4]? = some (some (.ref q2))) (h5 : δ[5]? = some (some (nodeD a))) (h6 : δ[6]? = some (some (nodeD b)))
    (hi : δ[i]? = some (some (.int w))) (hj : δ[j]? = some (some y)) (k : ∀ μ', LsAt μ0 μ' q1 q2 (rlx s a b w y) (n + 1) → Z.nx δ μ') :
    sIf (vOr (vB (vOp (gIn true) (vTup (vCons (vVar 5) (vCons (vVar 6) vNil))) (vVar 2))) (vB (vOp gLt (vVar i) (vOp gAt (vVar 2) (vTup (vCons (vVar 5) (vCons (vVar 6) vNil))))))) (sSeq (sSub gSet (vVar i) (vVar 2) (vTup (vCons (vVar 5) (vCons (vVar 6) vNil)))) (sSub gSet (vVar j) (vVar 4) (vTup (vCons (vVar 5) (vCons (vVar 6) vNil))))) sNext Z δ μ := by
  have hsl : sizeLine = 16777216 := by decide
  have z2 : ([nodeD a, nodeD b] : List D).length ≤ sizeLine := by rw [hsl]; show 2 ≤ _; decide
  obtain ⟨kl, ks, e1, e2, r1, r2, l1, l2⟩ := h.ex
  have thn : bet (s.L a b) w = true → (sSeq (sSub gSet (vVar i) (vVar 2) (vTup (vCons (vVar 5) (vCons (vVar 6) vNil)))) (sSub gSet (vVar j) (vVar 4) (vTup (vCons (vVar 5) (vCons (vVar 6) vNil))))) Z δ μ := fun hb => by
    simp only [sSeq, sSub, vVar, vTup, vCons, vNil, h2, h4, h5, h6, hi, hj]
    refine ⟨z2, set_n e1 (by omega) (lkOf_node a b) ⟨z2, set_n (by rw [mset_ne (Ne.symm h.ne)]; exact e2) (by omega) (lkOf_node a b) (k _ ?_)⟩⟩
    refine ⟨(h.le.mset h.n1).mset h.n2, h.n1, h.n2, h.ne, _, _, by rw [mset_ne h.ne, mset_same], mset_same, ?_, ?_, Nat.le_trans putN_len (by omega), Nat.le_trans putN_len (by omega)⟩
    · have := RepG.put r1 a b (.int w)
      refine ⟨fun x z => ?_, this.k, this.n⟩
      rw [this x z]
      unfold rlx
      rw [if_pos hb]
      simp only
      split <;> rfl
    · have := r2.put a b y
      refine ⟨fun x z => ?_, this.k, this.n⟩
      rw [this x z]
      unfold rlx
      rw [if_pos hb]
  have els : bet (s.L a b) w = false → Z.nx δ μ := fun hb => k μ (by
    have : rlx s a b w y = s := by unfold rlx; rw [if_neg (by rw [hb]; exact Bool.false_ne_true)]
    rw [this]
    exact h.mono (Nat.le_succ n))
  unfold sIf
  simp only [vOr, vB, vOp, vVar, vTup, vCons, vNil, h2, h5, h6, hi, sNext]
  refine ⟨z2, in_d (dic_n e1) (get_n r1 a b) ?_⟩
  cases hL : s.L a b with
  | none =>
    simp only [Option.map_none, Option.isSome_none, Bool.not_false, if_true]
    exact thn (by rw [hL]; rfl)
  | some v =>
    simp only [Option.map_some, Option.isSome_some, Bool.not_true, if_true, Bool.false_eq_true, if_false]
    refine ⟨z2, at_d (d := .int v) (dic_n e1) (by rw [get_n r1 a b]; simp only [hL]; rfl) ?_⟩
    simp only [gLt, g2I, g2I0]
    by_cases hw : w < v
    · simp only [hw, decide_true, if_true]
      exact thn (by rw [hL]; exact decide_eq_true hw)
    · simp only [hw, decide_false, Bool.false_eq_true, if_false]
      exact els (by rw [hL]; exact decide_eq_false hw)
def fwP (nodes : List Nd) (rows : List RowT) : LST := fw nodeD nodes rows
def sp_leads_of : Sp3 := fun ds μ R => ∃ nodes rows, ds = [.lst (nodes.map nodeD), .lst (rows.map rowD)] ∧ nodes.length ≤ 9 ∧ nodes.Nodup ∧ rows.length ≤ 100 ∧ ∀ kl ks, RepL kl (fwP nodes rows).L → RepG ks (fwP nodes rows).S → R (.tup [.dcn kl, .dcn ks]) μ
def t_leads_of_4 : TS3 := (sRet (vTup (vCons (vVar 2) (vCons (vVar 4) vNil))))
def t_leads_of_3 : TS3 := sSeq (sFor (iAny (vVar 0)) (gN 9) (sFor (iAny (vVar 0)) (gN 5) (sFor (iAny (vVar 0)) (gN 6) (sIf (vAnd (vB (vOp (gIn false) (vTup (vCons (vVar 5) (vCons (vVar 9) vNil))) (vVar 2))) (vB (vOp (gIn false) (vTup (vCons (vVar 9) (vCons (vVar 6) vNil))) (vVar 2)))) (sSeq (sSet 10 (vOp gAdd (vOp gAt (vVar 2) (vTup (vCons (vVar 5) (vCons (vVar 9) vNil)))) (vOp gAt (vVar 2) (vTup (vCons (vVar 9) (vCons (vVar 6) vNil)))))) (sIf (vOr (vB (vOp (gIn true) (vTup (vCons (vVar 5) (vCons (vVar 6) vNil))) (vVar 2))) (vB (vOp gLt (vVar 10) (vOp gAt (vVar 2) (vTup (vCons (vVar 5) (vCons (vVar 6) vNil))))))) (sSeq (sSub gSet (vVar 10) (vVar 2) (vTup (vCons (vVar 5) (vCons (vVar 6) vNil)))) (sSub gSet (vVar 9) (vVar 4) (vTup (vCons (vVar 5) (vCons (vVar 6) vNil))))) sNext)) sNext)))) t_leads_of_4
def t_leads_of_2 : TS3 := sSeq (sFor (iAny (vVar 1)) (gT [(gN 5), (gN 6), (gN 7), (gN 8)]) (sIf (vOr (vB (vOp (gIn true) (vTup (vCons (vVar 5) (vCons (vVar 6) vNil))) (vVar 2))) (vB (vOp gLt (vVar 7) (vOp gAt (vVar 2) (vTup (vCons (vVar 5) (vCons (vVar 6) vNil))))))) (sSeq (sSub gSet (vVar 7) (vVar 2) (vTup (vCons (vVar 5) (vCons (vVar 6) vNil)))) (sSub gSet (vVar 8) (vVar 4) (vTup (vCons (vVar 5) (vCons (vVar 6) vNil))))) sNext)) t_leads_of_3
def t_leads_of_1 : TS3 := sSeq (sSet 4 vDict0N) t_leads_of_2
def t_leads_of : TS3 := sSeq (sSet 2 (vDc true true (iAny (vVar 0)) (gN 3) vYes (vTup (vCons (vVar 3) (vCons (vVar 3) vNil))) (vC (.int 0)) [3])) t_leads_of_1
theorem row0_dc {Pm : Mu → Prop} {μ : Mu} {δ : St3} {R : Dic → Mu → Prop} (hP : Pm μ) (hl : 3 < δ.length) (nodes : List Nd) (hn : nodes.length ≤ 9) (k : ∀ kl, RepL kl (row0 nodes : LST).L → kl.length ≤ 9 → R (.n kl) μ) : ∀ (todo done : List Nd) (kl : List (LK × D)), done ++ todo = nodes → RepL kl (row0 done : LST).L → kl.length ≤ done.length →
    dcW Pm (gN 3) vYes (vTup (vCons (vVar 3) (vCons (vVar 3) vNil))) (vC (.int 0)) δ R (todo.map nodeD) (.n kl) μ
  | [], done, kl, e, r, l => ⟨hP, k kl (by rw [← e, List.append_nil]; exact r) (by rw [← e, List.append_nil] at hn; omega)⟩
  | a :: t, done, kl, e, r, l => by
    have hsl : sizeLine = 16777216 := by decide
    have hd : done.length ≤ nodes.length := by rw [← e, List.length_append]; omega
    have e1 : (δ.set 3 (some (nodeD a)))[3]? = some (some (nodeD a)) := by simp [hl]
    refine ⟨hP, by show kl.length < _; omega, ?_⟩
    simp only [gN, vYes, if_true, vTup, vCons, vVar, vNil, vC, e1]
    refine ⟨by rw [hsl]; show 2 ≤ _; decide, .n (putN kl (lk2 a a) (.int 0)), ?_, ?_⟩
    · show (lkOf _).map _ = _
      rw [lkOf_node]; rfl
    · refine row0_dc hP hl nodes hn k t (done ++ [a]) _ (by rw [← e]; simp) ⟨fun x z => ?_, (RepG.put r a a (.int 0)).k, (RepG.put r a a (.int 0)).n⟩ (Nat.le_trans putN_len (by simp; omega))
      rw [RepG.put r a a (.int 0) x z]
      unfold row0
      simp only
      by_cases q : x = a ∧ z = a
      · obtain ⟨rfl, rfl⟩ := q
        simp
      · rw [if_neg q]
        have : (x = z ∧ x ∈ done ++ [a]) ↔ (x = z ∧ x ∈ done) := by
          constructor
          · rintro ⟨rfl, h⟩
            refine ⟨rfl, ?_⟩
            rcases List.mem_append.mp h with h | h
            · exact h
            · exact absurd ⟨List.mem_singleton.mp h, List.mem_singleton.mp h⟩ q
          · rintro ⟨h1, h2⟩; exact ⟨h1, List.mem_append_left _ h2⟩
        by_cases q2 : x = z ∧ x ∈ done
        · rw [if_pos q2, if_pos (this.mpr q2)]
        · rw [if_neg q2, if_neg fun c => q2 (this.mp c)]
theorem take_snoc {α : Type} {xs : List α} {k : Nat} {x : α} (h : xs[k]? = some x) : xs.take (k + 1) = xs.take k ++ [x] := by
  rw [List.take_succ, h]; rfl
theorem map_at {α : Type} {f : α → D} {xs : List α} {k : Nat} {d : D} (h : (xs.map f)[k]? = some d) : ∃ x, xs[k]? = some x ∧ d = f x := by
  rw [List.getElem?_map] at h
  obtain ⟨x, e, rfl⟩ := Option.map_eq_some_iff.mp h
  exact ⟨x, e, rfl⟩
theorem lt_at {α : Type} {xs : List α} {k : Nat} {x : α} (h : xs[k]? = some x) : k < xs.length := (List.getElem?_eq_some_iff.mp h).1
theorem pure_leads_of (ds : List D) (μ : Mu) (R : DK) (hl : ds.length = 2) (h : sp_leads_of ds μ R) : t_leads_of (endsOf R) (start3 ["nodes", "rows", "leads", "node", "steps", "earlier", "later", "lag", "name", "middle", "lead"] ds) μ := by
  obtain ⟨nodes, rows, rfl, hn, nd, hr, h⟩ := h
  have hsl : sizeLine = 16777216 := by decide
  show t_leads_of (endsOf R) [some (.lst (nodes.map nodeD)), some (.lst (rows.map rowD)), none, none, none, none, none, none, none, none, none] μ
  unfold t_leads_of t_leads_of_1
  walk_at "l3"
  refine row0_dc trivial (by show 3 < 11; decide) nodes hn (fun kl r l q1 n1 => ?_) nodes [] [] rfl ⟨fun a b => by simp [row0, valN], (fun p h => nomatch h), List.nodup_nil⟩ (Nat.zero_le _)
  intro q2 n2'
  have ne : q1 ≠ q2 := by
    rintro rfl
    rw [mset_same] at n2'
    cases n2'
  have n2 : μ q2 = none := by rw [mset_ne (Ne.symm ne)] at n2'; exact n2'
  have L0 : LsAt μ (mset (mset μ q1 (.dcn kl)) q2 (.dcn [])) q1 q2 (row0 nodes) 9 := ⟨((Le.refl μ).mset n1).mset n2, n1, n2, ne, kl, [], by rw [mset_ne ne, mset_same], mset_same, r, ⟨fun a b => rfl, (fun p h => nomatch h), List.nodup_nil⟩, l, Nat.zero_le _⟩
  unfold t_leads_of_2
  walk_at "l3"
  refine for_ix (rows.map rowD) (fun k δ μ' => LsAt μ μ' q1 q2 (rlxR (rows.take k) (row0 nodes)) (9 + k) ∧ ∃ y5 y6 y7 y8, δ = [some (.lst (nodes.map nodeD)), some (.lst (rows.map rowD)), some (.ref q1), none, some (.ref q2), y5, y6, y7, y8, none, none]) ⟨L0, none, none, none, none, rfl⟩ ?_ ?_
  · rintro δ μ1 ⟨L1, y5, y6, y7, y8, rfl⟩
    rw [List.length_map, List.take_length] at L1
    have L1 := L1.mono (m := 109) (by omega)
    refine ⟨trivial, ?_⟩
    unfold t_leads_of_3
    walk_at "l3"
    refine for_ix (nodes.map nodeD) (fun k δ μ' => LsAt μ μ' q1 q2 (fwM nodeD nodes (nodes.take k) (rlxR rows (row0 nodes))) (109 + 81 * k) ∧ ∃ y5 y6 y9 y10, δ = [some (.lst (nodes.map nodeD)), some (.lst (rows.map rowD)), some (.ref q1), none, some (.ref q2), y5, y6, y7, y8, y9, y10]) ⟨L1, _, _, _, _, rfl⟩ ?_ ?_
    · rintro δ μ2 ⟨L2, y5, y6, y9, y10, rfl⟩
      rw [List.length_map, List.take_length] at L2
      refine ⟨trivial, ?_⟩
      obtain ⟨kl, ks, e1, e2, r1, r2, l1, l2⟩ := L2.ex
      unfold t_leads_of_4
      walk_at "l3"
      exact ⟨by rw [hsl]; show 2 ≤ _; decide, _, μ, L2.le, .inT (.cons (.dcn e1 n1 (Frn.same kl)) (.cons (.dcn e2 n2 (Frn.same ks)) .nil)), h kl ks r1 r2⟩
    · rintro k d δ μ2 hd ⟨L2, y5, y6, y9, y10, rfl⟩
      obtain ⟨m, em, rfl⟩ := map_at hd
      have km := lt_at em
      refine ⟨trivial, _, rfl, fun N hN => ?_⟩
      walk_at "l3"
      refine for_ix (nodes.map nodeD) (fun i δ μ' => LsAt μ μ' q1 q2 (fwA nodeD m nodes (nodes.take i) (fwM nodeD nodes (nodes.take k) (rlxR rows (row0 nodes)))) (109 + 81 * k + 9 * i) ∧ ∃ y5 y6 y10, δ = [some (.lst (nodes.map nodeD)), some (.lst (rows.map rowD)), some (.ref q1), none, some (.ref q2), y5, y6, y7, y8, some (nodeD m), y10]) ⟨L2, _, _, _, rfl⟩ ?_ ?_
      · rintro δ μ3 ⟨L3, y5, y6, y10, rfl⟩
        rw [List.length_map, List.take_length] at L3
        refine ⟨trivial, hN _ _ ⟨?_, _, _, _, _, rfl⟩⟩
        rw [take_snoc em]
        unfold fwM
        rw [List.foldl_append]
        exact L3.mono (by omega)
      · rintro i d δ μ3 hd ⟨L3, y5, y6, y10, rfl⟩
        obtain ⟨a, ea, rfl⟩ := map_at hd
        have ka := lt_at ea
        refine ⟨trivial, _, rfl, fun N hN => ?_⟩
        walk_at "l3"
        refine for_ix (nodes.map nodeD) (fun j δ μ' => LsAt μ μ' q1 q2 (fwB nodeD m a (nodes.take j) (fwA nodeD m nodes (nodes.take i) (fwM nodeD nodes (nodes.take k) (rlxR rows (row0 nodes))))) (109 + 81 * k + 9 * i + j) ∧ ∃ y6 y10, δ = [some (.lst (nodes.map nodeD)), some (.lst (rows.map rowD)), some (.ref q1), none, some (.ref q2), some (nodeD a), y6, y7, y8, some (nodeD m), y10]) ⟨L3, _, _, rfl⟩ ?_ ?_
        · rintro δ μ4 ⟨L4, y6, y10, rfl⟩
          rw [List.length_map, List.take_length] at L4
          refine ⟨trivial, hN _ _ ⟨?_, _, _, _, rfl⟩⟩
          rw [take_snoc ea]
          unfold fwA
          rw [List.foldl_append]
          exact L4.mono (by omega)
        · rintro j d δ μ4 hd ⟨L4, y6, y10, rfl⟩
          obtain ⟨b, eb, rfl⟩ := map_at hd
          have kb := lt_at eb
          refine ⟨trivial, _, rfl, fun N hN => ?_⟩
          have z2 : ∀ x y : D, ([x, y] : List D).length ≤ sizeLine := fun x y => by rw [hsl]; show 2 ≤ _; decide
          obtain ⟨kl, ks, e1, e2, r1, r2, l1, l2⟩ := L4.ex
          generalize hs : fwB nodeD m a (nodes.take j) (fwA nodeD m nodes (nodes.take i) (fwM nodeD nodes (nodes.take k) (rlxR rows (row0 nodes)))) = s at L4 r1 r2
          have goal : ∀ y10 μ', LsAt μ μ' q1 q2 (fwS nodeD m s a b) (109 + 81 * k + 9 * i + (j + 1)) → N [some (.lst (nodes.map nodeD)), some (.lst (rows.map rowD)), some (.ref q1), none, some (.ref q2), some (nodeD a), some (nodeD b), y7, y8, some (nodeD m), y10] μ' := fun y10 μ' L => by
            refine hN _ _ ⟨?_, _, _, rfl⟩
            rw [take_snoc eb]
            unfold fwB
            rw [List.foldl_append]
            show LsAt μ μ' q1 q2 (fwS nodeD m (fwB nodeD m a (nodes.take j) _) a b) _
            rw [hs]
            exact L
          unfold sIf
          simp only [vAnd]
          walk_at "l3"
          refine ⟨z2 _ _, in_d (dic_n e1) (get_n r1 a m) ?_⟩
          unfold fwS at goal
          cases h1 : s.L a m with
          | none =>
            simp only [Option.map_none, Option.isSome_none, Bool.false_eq_true, if_false]
            simp only [h1] at goal
            exact goal _ _ (L4.mono (by omega))
          | some u =>
            simp only [Option.map_some, Option.isSome_some, Bool.false_eq_true, if_false, if_true]
            refine ⟨z2 _ _, in_d (dic_n e1) (get_n r1 m b) ?_⟩
            cases h2 : s.L m b with
            | none =>
              simp only [Option.map_none, Option.isSome_none, Bool.false_eq_true, if_false]
              simp only [h1, h2] at goal
              exact goal _ _ (L4.mono (by omega))
            | some v =>
              simp only [Option.map_some, Option.isSome_some, Bool.false_eq_true, if_false, if_true]
              simp only [h1, h2] at goal
              refine ⟨z2 _ _, at_d (d := .int u) (dic_n e1) (by rw [get_n r1 a m]; simp only [h1]; rfl) ⟨z2 _ _, at_d (d := .int v) (dic_n e1) (by rw [get_n r1 m b]; simp only [h2]; rfl) ?_⟩⟩
              walk_at "l3"
              exact relax (Z := { endsOf R with nx := N }) (δ := [some (.lst (nodes.map nodeD)), some (.lst (rows.map rowD)), some (.ref q1), none, some (.ref q2), some (nodeD a), some (nodeD b), y7, y8, some (nodeD m), some (.int (u + v))]) (i := 10) (j := 9) L4 (by omega) rfl rfl rfl rfl rfl rfl fun μ' L => goal _ _ (L.mono (by omega))
  · rintro k d δ μ1 hd ⟨L1, y5, y6, y7, y8, rfl⟩
    obtain ⟨r, er, rfl⟩ := map_at hd
    have kr := lt_at er
    refine ⟨trivial, _, rfl, fun N hN => ?_⟩
    refine relax (i := 7) (j := 8) L1 (by omega) rfl rfl rfl rfl rfl rfl fun μ' L => hN _ _ ⟨?_, _, _, _, _, rfl⟩
    rw [take_snoc er]
    unfold rlxR
    rw [List.foldl_append]
    exact L
end C1
namespace C1
open PySem PySem.Spec L2 L3 C2
local macro_rules | `(tactic| walk_at "l3") => `(tactic| simp only [sSeq, sNext, sIf, sRet, sRetN, sSet, sDrop, sSub, sFor, sAsg, sPar2, sPar3, sCont, sFld3, sFld2, sAug, vVar, vC, vNil, vCons, vOp, vB, vChain, vAnd, vOr, vNot, vAndV, vOrV, vNotV, vIf, vUn, vCB, vLst, vTup, vLstT, vCall, vCal, vMak, vMetA, vFld, vSl, vPart, vNoP, vLc, vLcT, vDc, vBM, vBM0, vGet1, vGet2, vItems, vRev, vLRg, vStar, vDZip, iRg1, iRg2, iRgD, iAny, iEnm, iItm, iVal, vDict0, vDict0T, vDict0N, vDisp, vDispT, vPairs,
  List.getElem?_cons_zero, List.getElem?_cons_succ, List.set_cons_zero, List.set_cons_succ, wipe3, endsOf_rt, endsOf_nx, gLt, gLe, gGt, gGe, L3.gSub, gMul, gMod, gDiv, gPow, g2I, g2I0, gN, gT, gGo, Option.bind_some, gAdd_ii, gAdd_ss, gNeg_i, gMax2_ii, gMin2_ii, gLen_s, gEqS_ii, gEqS_ss, gEqS_bb, gNeS_ii, gNeS_ss, gIsN_n, gNotN_n, gSl_s, isNonD, if_true, if_false, Bool.false_eq_true, Bool.not_true, Bool.not_false])
def plNodes (evs : List Str) : List Nd := none :: evs.map some
def plT (evs : List Str) (ties : List Tie) (lims : Lims) : LST := fwP (plNodes evs) (planRows evs ties lims)
structure TabOk (evs : List Str) (ties : List Tie) (lims : Lims) (kl ks : List (LK × D)) : Prop where
  l : RepL kl (plT evs ties lims).L
  s : RepG ks (plT evs ties lims).S
def tabF (evs : List Str) (kl ks : List (LK × D)) : List (Str × D) := [("row_of_events", .lst (sds evs)), ("leads", .dcn kl), ("steps", .dcn ks)]
def tabD (evs : List Str) (kl ks : List (LK × D)) : D := .obj "Table" (tabF evs kl ks)
theorem nodes_nodup {evs : List Str} (ok : EvOk evs) : (plNodes evs).Nodup := by
  unfold plNodes
  refine List.nodup_cons.mpr ⟨fun h => ?_, ?_⟩
  · obtain ⟨e, _, q⟩ := List.mem_map.mp h
    cases q
  · refine List.Pairwise.map _ (fun a b h => ?_) ok.nd
    exact fun q => h (Option.some.inj q)
theorem nodes_len {evs : List Str} (ok : EvOk evs) : (plNodes evs).length ≤ 9 := by
  have := ok.le
  simp [plNodes]; omega
theorem rows_len {evs : List Str} {ties : List Tie} {lims : Lims} (ok : PlOk evs ties lims) : (planRows evs ties lims).length ≤ 100 := by
  have := ok.e.le
  have := ok.t.le
  have := lims_len ok.l
  simp [planRows, List.length_zipIdx]; omega
theorem nodes_map (evs : List Str) : (plNodes evs).map nodeD = .non :: sds evs := by
  simp [plNodes, sds, nodeD]
def sp_Table___init__ : Sp3 := fun ds μ R => ∃ q evs ties lims, ds = [.ref q, planD evs ties lims] ∧ μ q = some (.ins "Table" []) ∧ PlOk evs ties lims ∧ ∀ kl ks, TabOk evs ties lims kl ks → R .non (mset μ q (.ins "Table" (tabF evs kl ks)))
def t_Table___init___2 : TS3 := (sFld2 "Table" "leads" "steps" (vCall 2 sp_leads_of (vCons (vLst (vCons (vC .non) (vStar (vFld "Table" "row_of_events" (vVar 0)) vNil))) (vCons (vCall 1 sp_rows_of (vCons (vVar 1) vNil)) vNil))) (vVar 0) (vVar 0))
def t_Table___init___1 : TS3 := sSeq (sFld3 "Table" "row_of_events" (vMetA "Plan" "events" 0 sp_Plan_events (vVar 1) vNil) (vVar 0)) t_Table___init___2
def t_Table___init__ : TS3 := sSeq (sDrop (vCall 1 sp_need_plan (vCons (vVar 1) vNil))) t_Table___init___1
theorem pure_Table___init__ (ds : List D) (μ : Mu) (R : DK) (hl : ds.length = 2) (h : sp_Table___init__ ds μ R) : t_Table___init__ (endsOf R) (start3 ["self", "plan"] ds) μ := by
  obtain ⟨q, evs, ties, lims, rfl, hq, ok, h⟩ := h
  have hsl : sizeLine = 16777216 := by decide
  show t_Table___init__ (endsOf R) [some (.ref q), some (planD evs ties lims)] μ
  unfold t_Table___init__ t_Table___init___1
  walk_at "l3"
  refine ⟨rfl, evs, ties, lims, rfl, planF evs ties lims, rfl, rfl, rfl, evs, ties, lims, rfl, q, [], rfl, hq, by decide, ?_⟩
  unfold t_Table___init___2
  walk_at "l3"
  refine ⟨[("row_of_events", .lst (sds evs))], .lst (sds evs), ?_, rfl, _, rfl, ?_, ?_⟩
  · simp only [insOf, mset_same, if_true]; rfl
  · have := ok.e.le
    simp [sds]; omega
  refine ⟨rfl, evs, ties, lims, rfl, ok, rfl, plNodes evs, planRows evs ties lims, ?_, nodes_len ok.e, nodes_nodup ok.e, rows_len ok, fun kl ks r1 r2 => ?_⟩
  · rw [nodes_map]; simp
  refine ⟨_, _, rfl, q, _, rfl, mset_same, Nat.lt_of_le_of_lt (putFD_len _ _ _) (by decide), ?_⟩
  refine ⟨q, _, rfl, mset_same, Nat.lt_of_le_of_lt (putFD_len _ _ _) (Nat.lt_of_le_of_lt (Nat.succ_le_succ (putFD_len _ _ _)) (by decide)), ?_⟩
  rw [mset_mset, mset_mset]
  exact fin_now (h kl ks ⟨r1, r2⟩)
def optD (o : Option Int) : D := (o.map D.int).getD .non
def sp_Table_most : Sp3 := fun ds μ R => ∃ evs ties lims kl ks e, ds = [tabD evs kl ks, .str e] ∧ EvOk evs ∧ TabOk evs ties lims kl ks ∧ e ∈ evs ∧ R (optD ((plT evs ties lims).L none (some e))) μ
def t_Table_most_1 : TS3 := (sRet (vGet1 (vFld "Table" "leads" (vVar 0)) (vTup (vCons (vC .non) (vCons (vVar 1) vNil)))))
def t_Table_most : TS3 := sSeq (sDrop (vCall 2 sp_need_event (vCons (vFld "Table" "row_of_events" (vVar 0)) (vCons (vVar 1) vNil)))) t_Table_most_1
theorem pure_Table_most (ds : List D) (μ : Mu) (R : DK) (hl : ds.length = 2) (h : sp_Table_most ds μ R) : t_Table_most (endsOf R) (start3 ["self", "event"] ds) μ := by
  obtain ⟨evs, ties, lims, kl, ks, e, rfl, ok, tk, he, h⟩ := h
  have hsl : sizeLine = 16777216 := by decide
  show t_Table_most (endsOf R) [some (tabD evs kl ks), some (.str e)] μ
  unfold t_Table_most t_Table_most_1
  walk_at "l3"
  refine ⟨tabF evs kl ks, .lst (sds evs), rfl, rfl, rfl, _, evs, e, rfl, rfl, ok, he, tabF evs kl ks, .dcn kl, rfl, rfl, rfl, by rw [hsl]; show 2 ≤ _; decide, .n kl, _, rfl, get_n tk.l none (some e), fin_now h⟩
def sp_Table_lead : Sp3 := fun ds μ R => ∃ evs ties lims kl ks a b, ds = [tabD evs kl ks, .str a, .str b] ∧ EvOk evs ∧ TabOk evs ties lims kl ks ∧ a ∈ evs ∧ b ∈ evs ∧ R (optD ((plT evs ties lims).L (some a) (some b))) μ
def t_Table_lead_2 : TS3 := (sRet (vGet1 (vFld "Table" "leads" (vVar 0)) (vTup (vCons (vVar 1) (vCons (vVar 2) vNil)))))
def t_Table_lead_1 : TS3 := sSeq (sDrop (vCall 2 sp_need_event (vCons (vFld "Table" "row_of_events" (vVar 0)) (vCons (vVar 2) vNil)))) t_Table_lead_2
def t_Table_lead : TS3 := sSeq (sDrop (vCall 2 sp_need_event (vCons (vFld "Table" "row_of_events" (vVar 0)) (vCons (vVar 1) vNil)))) t_Table_lead_1
theorem pure_Table_lead (ds : List D) (μ : Mu) (R : DK) (hl : ds.length = 3) (h : sp_Table_lead ds μ R) : t_Table_lead (endsOf R) (start3 ["self", "earlier", "later"] ds) μ := by
  obtain ⟨evs, ties, lims, kl, ks, a, b, rfl, ok, tk, ha, hb, h⟩ := h
  have hsl : sizeLine = 16777216 := by decide
  show t_Table_lead (endsOf R) [some (tabD evs kl ks), some (.str a), some (.str b)] μ
  unfold t_Table_lead t_Table_lead_1 t_Table_lead_2
  walk_at "l3"
  refine ⟨tabF evs kl ks, .lst (sds evs), rfl, rfl, rfl, _, evs, a, rfl, rfl, ok, ha, tabF evs kl ks, .lst (sds evs), rfl, rfl, rfl, _, evs, b, rfl, rfl, ok, hb, ?_⟩
  exact ⟨tabF evs kl ks, .dcn kl, rfl, rfl, rfl, by rw [hsl]; show 2 ≤ _; decide, .n kl, _, rfl, get_n tk.l (some a) (some b), fin_now h⟩
theorem plan_isD {evs : List Str} {ties : List Tie} {lims : Lims} (ok : PlOk evs ties lims) {a b : Nd} (ha : a ∈ plNodes evs) (hb : b ∈ plNodes evs) : IsD ((planRows evs ties lims).map (·.1)) a b ((plT evs ties lims).L a b) := by
  have ev : ∀ e ∈ evs, some e ∈ plNodes evs := fun e he => List.mem_cons_of_mem _ (List.mem_map.mpr ⟨e, he, rfl⟩)
  have n0 : none ∈ plNodes evs := List.mem_cons_self
  have key : ∀ r ∈ planRows evs ties lims, 0 ≤ r.1.2.2 ∧ r.1.1 ∈ plNodes evs ∧ r.1.2.1 ∈ plNodes evs := fun r hr => by
    unfold planRows at hr
    rcases List.mem_append.mp hr with hr | hr
    · rcases List.mem_append.mp hr with hr | hr
      · obtain ⟨p, hp, rfl⟩ := List.mem_map.mp hr
        have hm : p.1 ∈ ties := by
          have := List.mem_zipIdx hp
          rw [this.2.2]; exact List.getElem_mem _
        exact ⟨ok.t.c _ hm, ev _ (ok.t.a _ hm), ev _ (ok.t.b _ hm)⟩
      · obtain ⟨p, hp, rfl⟩ := List.mem_map.mp hr
        exact ⟨ok.l.c _ hp, n0, ev _ (ok.l.a _ hp)⟩
    · obtain ⟨e, he, rfl⟩ := List.mem_map.mp hr
      exact ⟨Int.le_refl _, ev e he, n0⟩
  exact fw_isD (fun r hr => (key r hr).1) (fun r hr => (key r hr).2) ha hb
theorem mem_rows {evs : List Str} {ties : List Tie} {lims : Lims} {r : Nd × Nd × Int} : r ∈ (planRows evs ties lims).map (·.1) ↔ (∃ t ∈ ties, r = (some t.1, some t.2.1, t.2.2)) ∨ (∃ p ∈ lims, r = (none, some p.1, p.2)) ∨ ∃ e ∈ evs, r = (some e, none, 0) := by
  unfold planRows
  rw [List.map_append, List.map_append, List.mem_append, List.mem_append, List.map_map, List.map_map, List.map_map, or_assoc]
  refine or_congr ?_ (or_congr ?_ ?_)
  · constructor
    · intro h
      obtain ⟨p, hp, rfl⟩ := List.mem_map.mp h
      have hm : p.1 ∈ ties := by
        have := List.mem_zipIdx hp
        rw [this.2.2]; exact List.getElem_mem _
      exact ⟨p.1, hm, rfl⟩
    · rintro ⟨t, ht, rfl⟩
      obtain ⟨i, hi, e⟩ := List.getElem_of_mem ht
      refine List.mem_map.mpr ⟨(t, i), ?_, rfl⟩
      rw [List.mk_mem_zipIdx_iff_getElem?]
      exact List.getElem?_eq_some_iff.mpr ⟨hi, e⟩
  · constructor
    · intro h
      obtain ⟨p, hp, rfl⟩ := List.mem_map.mp h
      exact ⟨p, hp, rfl⟩
    · rintro ⟨p, hp, rfl⟩
      exact List.mem_map.mpr ⟨p, hp, rfl⟩
  · constructor
    · intro h
      obtain ⟨p, hp, rfl⟩ := List.mem_map.mp h
      exact ⟨p, hp, rfl⟩
    · rintro ⟨p, hp, rfl⟩
      exact List.mem_map.mpr ⟨p, hp, rfl⟩
end C1
namespace C1
open PySem PySem.Spec L2 L3 C2
local macro_rules | `(tactic| walk_at "l3") => `(tactic| simp only [sSeq, sNext, sIf, sRet, sRetN, sSet, sDrop, sSub, sFor, sAsg, sPar2, sPar3, sCont, sFld3, sFld2, sAug, vVar, vC, vNil, vCons, vOp, vB, vChain, vAnd, vOr, vNot, vAndV, vOrV, vNotV, vIf, vUn, vCB, vLst, vTup, vLstT, vCall, vCal, vMak, vMetA, vFld, vSl, vPart, vNoP, vLc, vLcT, vDc, vBM, vBM0, vGet1, vGet2, vItems, vRev, vLRg, vStar, vDZip, iRg1, iRg2, iRgD, iAny, iEnm, iItm, iVal, vDict0, vDict0T, vDict0N, vDisp, vDispT, vPairs,
  List.getElem?_cons_zero, List.getElem?_cons_succ, List.set_cons_zero, List.set_cons_succ, wipe3, endsOf_rt, endsOf_nx, gLt, gLe, gGt, gGe, L3.gSub, gMul, gMod, gDiv, gPow, g2I, g2I0, gN, gT, gGo, Option.bind_some, gAdd_ii, gAdd_ss, gNeg_i, gMax2_ii, gMin2_ii, gLen_s, gEqS_ii, gEqS_ss, gEqS_bb, gNeS_ii, gNeS_ss, gIsN_n, gNotN_n, gSl_s, isNonD, if_true, if_false, Bool.false_eq_true, Bool.not_true, Bool.not_false])
def bigB : Nat := 1000000000
theorem fin_boxL {b q : Addr} {n : Nat} {μ μ' : Mu} {R : DK} {xs : List D} (s : Keeps b μ μ') (bx : Box μ' b n) (e : μ' q = some (.lst xs)) (nq : μ q = none) (nb : q ≠ b) (h : ∀ μ2, Onl b μ μ2 → Box μ2 b n → R (.lst xs) μ2) : fin R (.ref q) μ' := by
  refine ⟨.lst xs, fun a => if a = b then μ' b else μ a, fun a o e => ?_, .lst e (by simp [nb, nq]) (Frs.same xs), h _ (fun a ha => if_neg ha) ?_⟩
  · by_cases ha : a = b
    · subst ha; simpa using e
    · exact s a o ha (by simpa [ha] using e)
  · obtain ⟨c0, c1, c2, e, k⟩ := bx
    exact ⟨c0, c1, c2, by simp only [if_true]; exact e, k⟩
theorem onl_at {b q : Addr} {μ μ' : Mu} {o : MO} (h : Onl b μ μ') (nb : q ≠ b) (e : μ q = some o) : μ' q = some o := by rw [h q nb]; exact e
theorem perm_sds {ys : List D} {l : List Str} (h : ys.Perm (sds l)) : ∃ l', ys = sds l' ∧ l'.Perm l := by
  have key : ∀ {xs ys : List D}, xs.Perm ys → ∀ l, ys = sds l → ∃ l', xs = sds l' ∧ l'.Perm l := fun {xs ys} h => by
    induction h with
    | nil =>
      intro l e
      cases l with
      | nil => exact ⟨[], rfl, List.Perm.refl _⟩
      | cons a r => cases e
    | cons x _ ih =>
      intro l e
      cases l with
      | nil => cases e
      | cons a r =>
        obtain ⟨rfl, rfl⟩ := List.cons.inj e
        obtain ⟨l', rfl, p⟩ := ih r rfl
        exact ⟨a :: l', rfl, p.cons a⟩
    | swap x y t =>
      intro l e
      cases l with
      | nil => cases e
      | cons a r =>
        cases r with
        | nil => cases e
        | cons c r =>
          obtain ⟨rfl, e2⟩ := List.cons.inj (show x :: y :: t = .str a :: .str c :: sds r from e)
          obtain ⟨rfl, rfl⟩ := List.cons.inj e2
          exact ⟨c :: a :: r, rfl, List.Perm.swap _ _ _⟩
    | trans _ _ ih1 ih2 =>
      intro l e
      obtain ⟨l2, e2, p2⟩ := ih2 l e
      obtain ⟨l3, e3, p3⟩ := ih1 l2 e2
      exact ⟨l3, e3, p3.trans p2⟩
  exact key h l rfl
theorem erase_perm {xs : List D} : ∀ {k : Nat} {d : D}, xs[k]? = some d → (d :: xs.eraseIdx k).Perm xs := by
  induction xs with
  | nil => intro k d h; cases h
  | cons a r ih =>
    intro k d h
    cases k with
    | zero => cases h; exact List.Perm.refl _
    | succ k =>
      have := ih (k := k) (d := d) (by simpa using h)
      exact (List.Perm.swap _ _ _).trans (this.cons a)
def sp__law_mixed : Sp3 := fun ds μ R => ∃ b n x xs, ds = [.ref b, x] ∧ Box μ b n ∧ n < bigB ∧ lstOf μ x = some xs ∧ x ≠ .ref b ∧ xs.length ≤ 100 ∧ ∀ ys μ', ys.Perm xs → Onl b μ μ' → Box μ' b (n + xs.length) → R (.lst ys) μ'
def t__law_mixed_1 : TS3 := (sRet (vLc (iRg1 (vCons (vCB gLen (vCons (vVar 1) vNil)) vNil)) (gN 3) vYes (vBM "list" gPopAt (vVar 2) (vCons (vCall 2 sp__law_take (vCons (vVar 0) (vCons (vCB gLen (vCons (vVar 2) vNil)) vNil))) vNil)) [3]))
def t__law_mixed : TS3 := sSeq (sSet 2 (vCB gListT (vCons (vVar 1) vNil))) t__law_mixed_1
theorem pure__law_mixed (ds : List D) (μ : Mu) (R : DK) (hl : ds.length = 2) (h : sp__law_mixed ds μ R) : t__law_mixed (endsOf R) (start3 ["_law_box_here", "_law_some", "_law_left", "_law_k"] ds) μ := by
  obtain ⟨b, n, x, xs, rfl, bx, hn, hx, hxb, hlen, h⟩ := h
  have hsl : sizeLine = 16777216 := by decide
  unfold bigB at hn
  show t__law_mixed (endsOf R) [some (.ref b), some x, none, none] μ
  unfold t__law_mixed t__law_mixed_1
  walk_at "l3"
  refine ⟨x, xs, rfl, seq_lst hx, fun q hq => ?_⟩
  obtain ⟨_, nqb⟩ := (Keeps.refl b μ).fresh bx hq
  have hx1 : lstOf (mset μ q (.lst xs)) x = some xs := by
    cases x with
    | lst ys => exact hx
    | ref a =>
      have ha := ref_lst hx
      refine lst_ref ?_
      rw [mset_ne, ha]
      rintro rfl
      rw [hq] at ha; cases ha
    | _ => cases hx
  refine len_lst hx1 ?_
  walk_at "l3"
  refine ⟨by omega, by omega, ?_⟩
  have e0 : ((xs.length : Nat) : Int).toNat = xs.length := by simp
  rw [e0]
  refine lc_rg (by omega) (fun k acc μ' => acc.length = k ∧ Keeps b μ μ' ∧ Box μ' b (n + k) ∧ ∃ left, μ' q = some (.lst left) ∧ (acc ++ left).Perm xs) ⟨rfl, (Keeps.refl b μ).put hq, bx.put nqb, xs, mset_same, List.Perm.refl _⟩ (fun k acc μ' w => w.1) ?_ ?_
  · rintro acc μ' ⟨ha, kp, bx', left, e, p⟩
    have hl0 : left = [] := by
      have := p.length_eq
      rw [List.length_append, ha] at this
      exact List.eq_nil_of_length_eq_zero (by omega)
    subst hl0
    rw [List.append_nil] at p
    exact fin_box kp bx' fun μ2 o bx2 => h acc μ2 p o bx2
  · rintro k acc μ' hk ⟨ha, kp, bx', left, e, p⟩ N hN
    have hll : left.length = xs.length - k := by
      have := p.length_eq
      rw [List.length_append, ha] at this
      omega
    walk_at "l3"
    refine ⟨.inl ⟨rfl, left, e⟩, ?_⟩
    refine gLen_of (xs := left) (by simp only [seqOf, e]) ?_
    refine ⟨rfl, b, left.length, n + k, rfl, bx', by omega, by omega, by omega, fun r μ2 r0 r1 o bx2 => ?_⟩
    have e2 := onl_at o nqb e
    have hr : r.toNat < left.length := by omega
    refine ⟨q, left, r, r.toNat, left[r.toNat], rfl, rfl, e2, by omega, by omega, ?_, List.getElem?_eq_getElem hr, ?_⟩
    · unfold seqIndex?
      simp only [r0, show ¬ r < 0 by omega, if_false]
      simp
      omega
    · refine hN _ _ ⟨by simp [ha], (kp.onl o).put hq, (bx2.put nqb).mono (by omega), _, mset_same, ?_⟩
      have := erase_perm (List.getElem?_eq_getElem hr)
      refine List.Perm.trans ?_ p
      rw [List.append_assoc]
      exact List.Perm.append_left acc this
theorem pick {xs : List D} {r : Int} (h0 : 0 ≤ r) (h1 : r < xs.length) : ∃ d ∈ xs, atI xs r = some d ∧ xs[r.toNat]? = some d := by
  have hr : r.toNat < xs.length := by omega
  refine ⟨xs[r.toNat], List.getElem_mem hr, ?_, List.getElem?_eq_getElem hr⟩
  unfold atI ixN
  rw [if_pos h0, if_pos h1]
  exact List.getElem?_eq_getElem hr
def sp__law_lag : Sp3 := fun ds μ R => ∃ b n, ds = [.ref b] ∧ Box μ b n ∧ n < bigB ∧ ∀ r μ', 0 ≤ r → r < 10 ^ 27 → Onl b μ μ' → Box μ' b (n + 2) → R (.int r) μ'
def t__law_lag : TS3 := (sRet (vOp gAt (vLst (vCons (vC (.int 0)) (vCons (vC (.int 0)) (vCons (vC (.int 1)) (vCons (vC (.int 1)) (vCons (vC (.int 2)) (vCons (vC (.int 3)) (vCons (vC (.int 5)) (vCons (vOp gMul (vCall 2 sp__law_take (vCons (vVar 0) (vCons (vOp gPow (vC (.int 10)) (vC (.int 12))) vNil))) (vOp gPow (vC (.int 10)) (vC (.int 15)))) vNil))))))))) (vCall 2 sp__law_take (vCons (vVar 0) (vCons (vC (.int 8)) vNil)))))
theorem pure__law_lag (ds : List D) (μ : Mu) (R : DK) (hl : ds.length = 1) (h : sp__law_lag ds μ R) : t__law_lag (endsOf R) (start3 ["_law_box_here"] ds) μ := by
  obtain ⟨b, n, rfl, bx, hn, h⟩ := h
  have hsl : sizeLine = 16777216 := by decide
  unfold bigB at hn
  show t__law_lag (endsOf R) [some (.ref b)] μ
  unfold t__law_lag
  walk_at "l3"
  refine ⟨⟨by decide, by decide, by decide⟩, rfl, b, _, n, rfl, bx, by omega, by decide, by decide, fun r μ1 r0 r1 o1 b1 => ⟨⟨by decide, by decide, by decide⟩, ?_⟩⟩
  have hr2 : r * 10 ^ (15 : Int).toNat < 10 ^ 27 := by
    have : r < 1000000000000 := r1
    show r * 1000000000000000 < 1000000000000000000000000000
    omega
  have hr0 : 0 ≤ r * 10 ^ (15 : Int).toNat := by
    show 0 ≤ r * 1000000000000000
    omega
  refine ⟨?_, by rw [hsl]; show 8 ≤ _; decide, rfl, b, _, n + 1, rfl, b1, by omega, by decide, by decide, fun i μ2 i0 i1 o2 b2 => ?_⟩
  · exact wide_mul (a := 60) (b := 60) (by have : r < 1000000000000 := r1; omega) (by decide) (by decide) (by decide) (by decide)
  obtain ⟨d, hd, ed, _⟩ := pick (xs := [D.int 0, D.int 0, D.int 1, D.int 1, D.int 2, D.int 3, D.int 5, D.int (r * 10 ^ (15 : Int).toNat)]) i0 i1
  refine at_l ed (fin_now ?_)
  have key : ∃ v, d = .int v ∧ 0 ≤ v ∧ v < 10 ^ 27 := by
    simp only [List.mem_cons, List.mem_nil_iff, or_false] at hd
    rcases hd with rfl | rfl | rfl | rfl | rfl | rfl | rfl | rfl
    all_goals first
      | exact ⟨_, rfl, by decide, by decide⟩
      | exact ⟨_, rfl, hr0, hr2⟩
  obtain ⟨v, rfl, v0, v1⟩ := key
  exact h v μ2 v0 v1 (o1.trans o2) (b2.mono (by omega))
end C1
namespace C1
open PySem PySem.Spec L2 L3 C2
local macro_rules | `(tactic| walk_at "l3") => `(tactic| simp only [sSeq, sNext, sIf, sRet, sRetN, sSet, sDrop, sSub, sFor, sAsg, sPar2, sPar3, sCont, sFld3, sFld2, sAug, vVar, vC, vNil, vCons, vOp, vB, vChain, vAnd, vOr, vNot, vAndV, vOrV, vNotV, vIf, vUn, vCB, vLst, vTup, vLstT, vCall, vCal, vMak, vMetA, vFld, vSl, vPart, vNoP, vLc, vLcT, vDc, vBM, vBM0, vGet1, vGet2, vItems, vRev, vLRg, vStar, vDZip, iRg1, iRg2, iRgD, iAny, iEnm, iItm, iVal, vDict0, vDict0T, vDict0N, vDisp, vDispT, vPairs,
  List.getElem?_cons_zero, List.getElem?_cons_succ, List.set_cons_zero, List.set_cons_succ, wipe3, endsOf_rt, endsOf_nx, gLt, gLe, gGt, gGe, L3.gSub, gMul, gMod, gDiv, gPow, g2I, g2I0, gN, gT, gGo, Option.bind_some, gAdd_ii, gAdd_ss, gNeg_i, gMax2_ii, gMin2_ii, gLen_s, gEqS_ii, gEqS_ss, gEqS_bb, gNeS_ii, gNeS_ss, gIsN_n, gNotN_n, gSl_s, isNonD, if_true, if_false, Bool.false_eq_true, Bool.not_true, Bool.not_false])
def sg (c : Nat) : Str := ⟨#[c]⟩
def nmAt (stem : Str) (c : Nat) : Nat → Str
  | 0 => stem ++ sg c
  | 1 => sg c ++ stem
  | _ => sg c
def stems : List Str := ["", "a", "tie", "load", "limit", "zzzzzzz"]
theorem stems_ok : ∀ s ∈ stems, s.length ≤ 7 ∧ ∀ c ∈ s.cps.toList, c ∈ letters.cps.toList := by decide +kernel
theorem let_at : ∀ j : Fin 26, letters.cps.toList[j.val]? = some (97 + j.val) := by decide +kernel
theorem let_mem {c : Nat} (h : 97 ≤ c) (h2 : c < 123) : c ∈ letters.cps.toList := by
  have := let_at ⟨c - 97, by omega⟩
  have e : 97 + (c - 97) = c := by omega
  simp only [e] at this
  exact List.mem_of_getElem? this
theorem let_atI {i : Int} (h0 : 0 ≤ i) (h1 : i < 26) : atI letters.cps.toList i = some (97 + i.toNat) := by
  have hr : i.toNat < 26 := by omega
  have hl : letters.cps.toList.length = 26 := by decide +kernel
  unfold atI ixN
  rw [if_pos h0, if_pos (by rw [hl]; omega)]
  exact let_at ⟨i.toNat, hr⟩
theorem app_l (x y : Str) : (x ++ y).cps.toList = x.cps.toList ++ y.cps.toList := by
  show (x.cps ++ y.cps).toList = _
  simp
theorem len_l (x : Str) : x.length = x.cps.toList.length := by simp [Str.length]
theorem nm_l (stem : Str) (c w : Nat) : (nmAt stem c w).cps.toList = match w with
    | 0 => stem.cps.toList ++ [c]
    | 1 => c :: stem.cps.toList
    | _ => [c] := by
  unfold nmAt
  split
  · rw [app_l]; rfl
  · rw [app_l]; rfl
  · rfl
theorem nm_ok {stem : Str} {c w : Nat} (hs : stem ∈ stems) (h : 97 ≤ c) (h2 : c < 123) : nameT (nmAt stem c w) = true := by
  obtain ⟨l, m⟩ := stems_ok stem hs
  rw [len_l] at l
  have hc := let_mem h h2
  unfold nameT
  rw [Bool.and_eq_true, len_l, nm_l, List.all_eq_true]
  refine ⟨decide_eq_true ?_, fun d hd => decide_eq_true ?_⟩
  · split <;> simp <;> omega
  · split at hd
    · rcases List.mem_append.mp hd with hd | hd
      · exact m d hd
      · rw [List.mem_singleton.mp hd]; exact hc
    · rcases List.mem_cons.mp hd with rfl | hd
      · exact hc
      · exact m d hd
    · rw [List.mem_singleton.mp hd]; exact hc
theorem nm_inj {stem : Str} {c d w v : Nat} (hw : w = v ∨ v = 0 ∨ w = 0) (h : nmAt stem c w = nmAt stem d v) : c = d := by
  have e : (nmAt stem c w).cps.toList = (nmAt stem d v).cps.toList := by rw [h]
  rw [nm_l, nm_l] at e
  have hsum := congrArg List.sum e
  have hlen := congrArg List.length e
  rcases w with _ | _ | w <;> rcases v with _ | _ | v <;> simp at hsum hlen e <;> first
    | omega
    | (have e0 : stem.cps.toList = [] := by simpa using hlen
       simp [e0] at e
       omega)
def chr (f st : Int) (k : Nat) : Nat := 97 + ((f + st * k) % 26).toNat
theorem chr_ok (f st : Int) (k : Nat) : 97 ≤ chr f st k ∧ chr f st k < 123 := by
  unfold chr
  have := Int.emod_lt_of_pos (f + st * k) (show (0 : Int) < 26 by decide)
  have := Int.emod_nonneg (f + st * k) (show (26 : Int) ≠ 0 by decide)
  omega
theorem chr_inj {f st : Int} {i j : Nat} (hs : st = 1 ∨ st = 3 ∨ st = 5 ∨ st = 7 ∨ st = 9 ∨ st = 11) (hij : i < j) (hj : j < 8) : chr f st i ≠ chr f st j := by
  intro h
  unfold chr at h
  have := Int.emod_nonneg (f + st * i) (show (26 : Int) ≠ 0 by decide)
  have := Int.emod_nonneg (f + st * j) (show (26 : Int) ≠ 0 by decide)
  have h' : (f + st * i) % 26 = (f + st * j) % 26 := by omega
  rcases hs with rfl | rfl | rfl | rfl | rfl | rfl <;> omega
def nmsOf (stem : Str) (f st : Int) (way m : Nat) : List Str := (List.range m).map fun k => nmAt stem (chr f st k) (if 0 < k then way else 0)
theorem nms_ok {stem : Str} {f st : Int} {way m : Nat} (hs : stem ∈ stems) (ht : st = 1 ∨ st = 3 ∨ st = 5 ∨ st = 7 ∨ st = 9 ∨ st = 11) (h1 : 1 ≤ m) (h8 : m ≤ 8) : EvOk (nmsOf stem f st way m) := by
  refine ⟨by simp [nmsOf]; omega, by simp [nmsOf]; omega, ?_, fun e he => ?_⟩
  · unfold nmsOf
    refine List.pairwise_map.mpr (List.Pairwise.imp_of_mem (fun {a b} ha hb hab => ?_) List.pairwise_lt_range)
    intro h
    rw [List.mem_range] at hb
    refine chr_inj ht hab (by omega) (nm_inj (stem := stem) ?_ h)
    by_cases q : 0 < a
    · left; rw [if_pos q, if_pos (by omega)]
    · right; right; rw [if_neg q]
  · obtain ⟨k, hk, rfl⟩ := List.mem_map.mp he
    obtain ⟨c1, c2⟩ := chr_ok f st k
    exact nm_ok hs c1 c2
def sp__law_names : Sp3 := fun ds μ R => ∃ b n m, ds = [.ref b, .int m] ∧ Box μ b n ∧ n < bigB ∧ 1 ≤ m ∧ m ≤ 8 ∧ ∀ names μ', EvOk names → (names.length : Int) = m → Onl b μ μ' → Box μ' b (n + 4) → R (.lst (sds names)) μ'
def t__law_names_5 : TS3 := (sRet (vVar 7))
def t__law_names_4 : TS3 := sSeq (sFor (iRg1 (vCons (vVar 1) vNil)) (gN 8) (sSeq (sSet 9 (vOp gAt (vVar 2) (vOp gMod (vOp gAdd (vVar 4) (vOp gMul (vVar 5) (vVar 8))) (vC (.int 26))))) (sDrop (vBM "list" gApp (vVar 7) (vCons (vOp gAt (vLst (vCons (vOp gAdd (vVar 3) (vVar 9)) (vCons (vOp gAdd (vVar 9) (vVar 3)) (vCons (vVar 9) vNil)))) (vIf (vB (vOp gGt (vVar 8) (vC (.int 0)))) (vVar 6) (vC (.int 0)))) vNil))))) t__law_names_5
def t__law_names_3 : TS3 := sSeq (sSet 7 (vLstT vNil)) t__law_names_4
def t__law_names_2 : TS3 := sSeq (sPar3 4 5 6 (vCons (vCall 2 sp__law_take (vCons (vVar 0) (vCons (vC (.int 26)) vNil))) (vCons (vOp gAt (vLst (vCons (vC (.int 1)) (vCons (vC (.int 3)) (vCons (vC (.int 5)) (vCons (vC (.int 7)) (vCons (vC (.int 9)) (vCons (vC (.int 11)) vNil))))))) (vCall 2 sp__law_take (vCons (vVar 0) (vCons (vC (.int 6)) vNil)))) (vCons (vCall 2 sp__law_take (vCons (vVar 0) (vCons (vC (.int 3)) vNil))) vNil)))) t__law_names_3
def t__law_names_1 : TS3 := sSeq (sSet 3 (vOp gAt (vLst (vCons (vC (.str "")) (vCons (vC (.str "a")) (vCons (vC (.str "tie")) (vCons (vC (.str "load")) (vCons (vC (.str "limit")) (vCons (vC (.str "zzzzzzz")) vNil))))))) (vCall 2 sp__law_take (vCons (vVar 0) (vCons (vC (.int 6)) vNil))))) t__law_names_2
def t__law_names : TS3 := sSeq (sSet 2 (vC (.str "abcdefghijklmnopqrstuvwxyz"))) t__law_names_1
theorem pure__law_names (ds : List D) (μ : Mu) (R : DK) (hl : ds.length = 2) (h : sp__law_names ds μ R) : t__law_names (endsOf R) (start3 ["_law_box_here", "_law_many", "_law_letters", "_law_stem", "_law_first", "_law_step", "_law_way", "_law_found", "_law_k", "_law_sign"] ds) μ := by
  obtain ⟨b, n, m, rfl, bx, hn, m1, m8, h⟩ := h
  have hsl : sizeLine = 16777216 := by decide
  unfold bigB at hn
  show t__law_names (endsOf R) [some (.ref b), some (.int m), none, none, none, none, none, none, none, none] μ
  unfold t__law_names t__law_names_1
  walk_at "l3"
  refine ⟨by rw [hsl]; show 6 ≤ _; decide, rfl, b, _, n, rfl, bx, by omega, by decide, by decide, fun i μ1 i0 i1 o1 b1 => ?_⟩
  obtain ⟨d, hd, ed, _⟩ := pick (xs := sds stems) i0 i1
  refine at_l (xs := sds stems) ed ?_
  obtain ⟨stem, hs, rfl⟩ := List.mem_map.mp hd
  unfold t__law_names_2
  walk_at "l3"
  refine ⟨rfl, b, _, n + 1, rfl, b1, by omega, by decide, by decide, fun f μ2 f0 f1 o2 b2 => ?_⟩
  refine ⟨by rw [hsl]; show 6 ≤ _; decide, rfl, b, _, n + 2, rfl, b2, by omega, by decide, by decide, fun i μ3 i0 i1 o3 b3 => ?_⟩
  obtain ⟨d, hd, ed, _⟩ := pick (xs := [D.int 1, D.int 3, D.int 5, D.int 7, D.int 9, D.int 11]) i0 i1
  refine at_l (xs := [D.int 1, D.int 3, D.int 5, D.int 7, D.int 9, D.int 11]) ed ?_
  have key : ∃ st, d = .int st ∧ (st = 1 ∨ st = 3 ∨ st = 5 ∨ st = 7 ∨ st = 9 ∨ st = 11) := by
    simp only [List.mem_cons, List.mem_nil_iff, or_false] at hd
    rcases hd with rfl | rfl | rfl | rfl | rfl | rfl
    all_goals exact ⟨_, rfl, by decide⟩
  obtain ⟨st, rfl, hst⟩ := key
  refine ⟨rfl, b, _, n + 3, rfl, b3, by omega, by decide, by decide, fun way μ4 w0 w1 o4 b4 => ?_⟩
  have kp : Keeps b μ μ4 := (Keeps.refl b μ).onl (((o1.trans o2).trans o3).trans o4)
  unfold t__law_names_3 t__law_names_4
  walk_at "l3"
  refine ⟨Nat.zero_le _, fun q hq => ⟨by omega, by omega, ?_⟩⟩
  obtain ⟨nq, nb⟩ := kp.fresh b4 hq
  refine for_rg (fun k δ μ' => Keeps b μ μ' ∧ Box μ' b (n + 4) ∧ μ' q = some (.lst (sds (nmsOf stem f st way.toNat k))) ∧ ∃ y8 y9, δ = [some (.ref b), some (.int m), some (.str letters), some (.str stem), some (.int f), some (.int st), some (.int way), some (.ref q), y8, y9])
    ⟨kp.put nq, b4.put nb, mset_same, none, none, rfl⟩ ?_ ?_
  · rintro δ μ5 ⟨kp5, b5, e5, y8, y9, rfl⟩
    unfold t__law_names_5
    walk_at "l3"
    have ok := nms_ok (way := way.toNat) (f := f) hs hst (m := m.toNat) (by omega) (by omega)
    exact fin_boxL kp5 b5 e5 nq nb fun μ2 o bx2 => h _ μ2 ok (by simp [nmsOf]; omega) o bx2
  · rintro k δ μ5 hk ⟨kp5, b5, e5, y8, y9, rfl⟩ N hN
    have hk8 : k < 8 := by omega
    walk_at "l3"
    refine ⟨?_, by decide, ?_⟩
    · exact wide_mul (a := 20) (b := 20) (by rcases hst with rfl | rfl | rfl | rfl | rfl | rfl <;> decide) (by omega) (by decide) (by decide) (by decide)
    have c0 := Int.emod_nonneg (f + st * (0 + (k : Nat))) (show (26 : Int) ≠ 0 by decide)
    have c1 := Int.emod_lt_of_pos (f + st * (0 + (k : Nat))) (show (0 : Int) < 26 by decide)
    refine at_s (z := letters) (c := chr f st k) (by decide) (by rw [let_atI c0 c1]; simp [chr]) ?_
    obtain ⟨sl, sc⟩ := stems_ok stem hs
    refine ⟨.inl ⟨rfl, _, e5⟩, ?_⟩
    have s1 : (⟨#[chr f st k]⟩ : Str).length = 1 := rfl
    refine ⟨by omega, by omega, by rw [hsl]; show 3 ≤ _; decide, ?_⟩
    have app : ∀ w : Nat, w < 3 → ([D.str (stem ++ sg (chr f st k)), .str (sg (chr f st k) ++ stem), .str (sg (chr f st k))] : List D)[w]? = some (.str (nmAt stem (chr f st k) w)) := fun w hw => by
      rcases w with _ | _ | _ | w
      · rfl
      · rfl
      · rfl
      · omega
    have fin_ : ∀ w : Nat, w < 3 → w = (if 0 < k then way.toNat else 0) → gAt (.lst [D.str (stem ++ sg (chr f st k)), .str (sg (chr f st k) ++ stem), .str (sg (chr f st k))]) (.int w) μ5 fun d μ1 => gApp (.ref q) [d] μ1 fun d μ => N [some (.ref b), some (.int m), some (.str letters), some (.str stem), some (.int f), some (.int st), some (.int way), some (.ref q), some (.int (0 + (k : Nat))), some (.str (sg (chr f st k)))] μ := fun w hw e => by
      refine at_l (d := .str (nmAt stem (chr f st k) w)) ?_ ?_
      · unfold atI ixN
        rw [if_pos (by omega), if_pos (by show (w : Int) < 3; omega)]
        exact app w hw
      · refine ⟨q, _, _, rfl, rfl, e5, by simp [sds, nmsOf]; omega, hN _ _ ⟨kp5.put nq, b5.put nb, ?_, _, _, rfl⟩⟩
        rw [mset_same]
        have : nmsOf stem f st way.toNat (k + 1) = nmsOf stem f st way.toNat k ++ [nmAt stem (chr f st k) (if 0 < k then way.toNat else 0)] := by
          unfold nmsOf
          rw [List.range_succ, List.map_append]; rfl
        rw [this, ← e]
        simp [sds]
    by_cases hk0 : 0 < k
    · have : (0 : Int) < 0 + (k : Nat) := by omega
      simp only [this, decide_true, if_true]
      have e : way = ((way.toNat : Nat) : Int) := by omega
      have := fin_ way.toNat (by omega) (by rw [if_pos hk0])
      rw [← e] at this
      exact this
    · have : ¬ (0 : Int) < 0 + (k : Nat) := by omega
      simp only [this, decide_false, Bool.false_eq_true, if_false]
      exact fin_ 0 (by omega) (by rw [if_neg hk0])
end C1
namespace C1
open PySem PySem.Spec L2 L3 C2
local macro_rules | `(tactic| walk_at "l3") => `(tactic| simp only [sSeq, sNext, sIf, sRet, sRetN, sSet, sDrop, sSub, sFor, sAsg, sPar2, sPar3, sCont, sFld3, sFld2, sAug, vVar, vC, vNil, vCons, vOp, vB, vChain, vAnd, vOr, vNot, vAndV, vOrV, vNotV, vIf, vUn, vCB, vLst, vTup, vLstT, vCall, vCal, vMak, vMetA, vFld, vSl, vPart, vNoP, vLc, vLcT, vDc, vBM, vBM0, vGet1, vGet2, vItems, vRev, vLRg, vStar, vDZip, iRg1, iRg2, iRgD, iAny, iEnm, iItm, iVal, vDict0, vDict0T, vDict0N, vDisp, vDispT, vPairs,
  List.getElem?_cons_zero, List.getElem?_cons_succ, List.set_cons_zero, List.set_cons_succ, wipe3, endsOf_rt, endsOf_nx, gLt, gLe, gGt, gGe, L3.gSub, gMul, gMod, gDiv, gPow, g2I, g2I0, gN, gT, gGo, Option.bind_some, gAdd_ii, gAdd_ss, gNeg_i, gMax2_ii, gMin2_ii, gLen_s, gEqS_ii, gEqS_ss, gEqS_bb, gNeS_ii, gNeS_ss, gIsN_n, gNotN_n, gSl_s, isNonD, if_true, if_false, Bool.false_eq_true, Bool.not_true, Bool.not_false])
theorem idx_sds {e : Str} : ∀ {l : List Str}, e ∈ l → idxD (.str e) (sds l) = some (l.idxOf e)
  | a :: r, h => by
    unfold idxD sds
    rw [List.map_cons, List.findIdx?_cons, List.idxOf_cons]
    have q : eqD (.str a) (.str e) = (a == e) := rfl
    rw [q]
    by_cases ha : a = e
    · subst ha; simp
    · have hb : (a == e) = false := by simpa using ha
      have h' : e ∈ r := by
        rcases List.mem_cons.mp h with h | h
        · exact absurd h.symm ha
        · exact h
      have ih := idx_sds h'
      unfold idxD sds at ih
      rw [hb]
      simp only [Bool.false_eq_true, if_false, cond_false]
      rw [ih]; rfl
def bigM : Nat := 500000000
def modelL (marks : List Str) (y z : D) : List D := [.lst (sds marks), y, z]
structure MdOk (marks : List Str) (ties : List Tie) (caps : Lims) : Prop where
  p : PlOk marks ties caps
  t : ∀ t ∈ ties, t.2.2 < 10 ^ 27
  c : ∀ p ∈ caps, p.2 < 10 ^ 27
def sp__law_model : Sp3 := fun ds μ R => ∃ (tr : Bool) (b : Addr) (n : Nat) (m mo : Int), ds = [.ref b, .int m, .int mo] ∧ Box μ b n ∧ n < bigM ∧ 1 ≤ m ∧ m ≤ 8 ∧ 0 ≤ mo ∧ mo ≤ 60 ∧
  ∀ marks ties caps, MdOk marks ties caps → (marks.length : Int) = m → (ties.length : Int) ≤ mo →
    if tr = true then ∀ (q qc qd : Addr) (μ' : Mu), Keeps b μ μ' → Box μ' b (n + 1000) → μ q = none → μ qc = none → μ qd = none → q ≠ b → qc ≠ b → qd ≠ b → q ≠ qc → q ≠ qd → qc ≠ qd →
      μ' q = some (.lst (modelL marks (.ref qc) (.ref qd))) → μ' qc = some (.lst (ties.map tieD)) → μ' qd = some (.dct (limK caps)) → R (.ref q) μ'
    else ∀ μ', Onl b μ μ' → Box μ' b (n + 1000) → R (.lst (modelL marks (.lst (ties.map tieD)) (.dct (limK caps)))) μ'
def t__law_model_4 : TS3 := (sRet (vLstT (vCons (vVar 3) (vCons (vVar 5) (vCons (vVar 6) vNil)))))
def t__law_model_3 : TS3 := sSeq (sFor (iAny (vCall 2 sp__law_mixed (vCons (vVar 0) (vCons (vVar 3) vNil)))) (gN 11) (sIf (vB (vOp gEqS (vCall 2 sp__law_take (vCons (vVar 0) (vCons (vC (.int 4)) vNil))) (vC (.int 0)))) (sSub gSet (vOp gAt (vLst (vCons (vC (.int 0)) (vCons (vC (.int 1)) (vCons (vC (.int 2)) (vCons (vC (.int 4)) (vCons (vC (.int 7)) (vCons (vOp gMul (vCall 2 sp__law_take (vCons (vVar 0) (vCons (vOp gPow (vC (.int 10)) (vC (.int 12))) vNil))) (vOp gPow (vC (.int 10)) (vC (.int 15)))) vNil))))))) (vCall 2 sp__law_take (vCons (vVar 0) (vCons (vC (.int 6)) vNil)))) (vVar 6) (vVar 11)) sNext)) t__law_model_4
def t__law_model_2 : TS3 := sSeq (sFor (iRg1 (vCons (vCall 2 sp__law_take (vCons (vVar 0) (vCons (vOp gAdd (vVar 2) (vC (.int 1))) vNil))) vNil)) (gN 7) (sSeq (sPar2 8 9 (vCons (vOp gAt (vVar 3) (vCall 2 sp__law_take (vCons (vVar 0) (vCons (vVar 1) vNil)))) (vCons (vOp gAt (vVar 3) (vCall 2 sp__law_take (vCons (vVar 0) (vCons (vVar 1) vNil)))) vNil))) (sSeq (sSet 10 (vCall 1 sp__law_lag (vCons (vVar 0) vNil))) (sSeq (sIf (vAnd (vB (vOp gEqS (vVar 10) (vC (.int 0)))) (vB (vOp gGe (vBM "list" gIdx (vVar 4) (vCons (vVar 8) vNil)) (vBM "list" gIdx (vVar 4) (vCons (vVar 9) vNil))))) (sSet 10 (vC (.int 1))) sNext) (sDrop (vBM "list" gApp (vVar 5) (vCons (vTup (vCons (vVar 8) (vCons (vVar 9) (vCons (vVar 10) vNil)))) vNil))))))) t__law_model_3
def t__law_model_1 : TS3 := sSeq (sPar3 4 5 6 (vCons (vCall 2 sp__law_mixed (vCons (vVar 0) (vCons (vVar 3) vNil))) (vCons (vLstT vNil) (vCons vDict0T vNil)))) t__law_model_2
def t__law_model : TS3 := sSeq (sSet 3 (vCall 2 sp__law_names (vCons (vVar 0) (vCons (vVar 1) vNil)))) t__law_model_1
theorem pure__law_model (ds : List D) (μ : Mu) (R : DK) (hl : ds.length = 3) (h : sp__law_model ds μ R) : t__law_model (endsOf R) (start3 ["_law_box_here", "_law_many", "_law_most", "_law_marks", "_law_order", "_law_cords", "_law_caps", "_law_k", "_law_one", "_law_other", "_law_lag_here", "_law_event"] ds) μ := by
  obtain ⟨tr, b, n, m, mo, rfl, bx, hn, m1, m8, mo0, mo1, h⟩ := h
  have hsl : sizeLine = 16777216 := by decide
  unfold bigM at hn
  show t__law_model (endsOf R) [some (.ref b), some (.int m), some (.int mo), none, none, none, none, none, none, none, none, none] μ
  unfold t__law_model t__law_model_1
  walk_at "l3"
  refine ⟨rfl, b, n, m, rfl, bx, by unfold bigB; omega, m1, m8, fun marks μ1 ok hm o1 b1 => ?_⟩
  have hm8 : marks.length ≤ 8 := ok.le
  have hsm : (sds marks).length = marks.length := by simp [sds]
  refine ⟨rfl, b, n + 4, _, _, rfl, b1, by unfold bigB; omega, rfl, (fun e => nomatch e), by rw [hsm]; omega, fun ys μ2 py o2 b2 => ?_⟩
  obtain ⟨order, rfl, po⟩ := perm_sds py
  rw [hsm] at b2
  have kp2 : Keeps b μ μ2 := (Keeps.refl b μ).onl (o1.trans o2)
  refine ⟨Nat.zero_le _, fun qc hqc => ?_⟩
  obtain ⟨nc, ncb⟩ := kp2.fresh b2 hqc
  have kp3 := kp2.put (o := .lst []) nc
  have b3 := b2.put (o := .lst []) ncb
  intro qd hqd
  obtain ⟨nd, ndb⟩ := kp3.fresh b3 hqd
  have ncd : qc ≠ qd := by
    rintro rfl
    rw [mset_same] at hqd; cases hqd
  have kp4 := kp3.put (o := .dct []) nd
  have b4 := b3.put (o := .dct []) ndb
  unfold t__law_model_2
  walk_at "l3"
  refine ⟨rfl, b, _, n + 4 + marks.length, rfl, b4, by omega, by omega, by omega, fun cnt μ5 c0 c1 o5 b5 => ⟨by omega, by omega, ?_⟩⟩
  have kp5 := kp4.onl o5
  have ec5 : μ5 qc = some (.lst []) := onl_at o5 ncb (by rw [mset_ne ncd, mset_same])
  have ed5 : μ5 qd = some (.dct []) := onl_at o5 ndb mset_same
  refine for_rg (fun k δ μ' => Keeps b μ μ' ∧ Box μ' b (n + 13 + 4 * k) ∧ (∃ ties, μ' qc = some (.lst (ties.map tieD)) ∧ ties.length = k ∧ (∀ t ∈ ties, t.1 ∈ marks ∧ t.2.1 ∈ marks ∧ 0 ≤ t.2.2 ∧ t.2.2 < 10 ^ 27 ∧ (t.2.2 = 0 → order.idxOf t.1 < order.idxOf t.2.1))) ∧ μ' qd = some (.dct []) ∧
    ∃ y7 y8 y9 y10, δ = [some (.ref b), some (.int m), some (.int mo), some (.lst (sds marks)), some (.lst (sds order)), some (.ref qc), some (.ref qd), y7, y8, y9, y10, none])
    ⟨kp5, b5.mono (by omega), ⟨[], ec5, rfl, fun t h => nomatch h⟩, ed5, none, none, none, none, rfl⟩ ?_ ?_
  · rintro δ μ6 ⟨kp6, b6, ⟨ties, ec6, hlt, tok⟩, ed6, y7, y8, y9, y10, rfl⟩
    have hk : (ties.length : Int) ≤ mo := by omega
    have tk : TiOk marks ties := ⟨by omega, fun t ht => (tok t ht).1, fun t ht => (tok t ht).2.1, fun t ht => (tok t ht).2.2.1⟩
    have nr : NoRing marks ties := NoRing.of_rank (fun e => order.idxOf e) fun t ht h0 => (tok t ht).2.2.2.2 h0
    unfold t__law_model_3
    walk_at "l3"
    refine ⟨rfl, b, n + 300, _, _, rfl, b6.mono (by omega), by unfold bigB; omega, rfl, (fun e => nomatch e), by rw [hsm]; omega, fun ys μ7 py o7 b7 => ?_⟩
    obtain ⟨marks2, rfl, pm⟩ := perm_sds py
    rw [hsm] at b7
    have kp7 := kp6.onl o7
    have ec7 := onl_at o7 ncb ec6
    have ed7 := onl_at o7 ndb ed6
    have nd2 : marks2.Nodup := pm.nodup_iff.mpr ok.nd
    refine for_ix (sds marks2) (fun k δ μ' => Keeps b μ μ' ∧ Box μ' b (n + 308 + 3 * k) ∧ μ' qc = some (.lst (ties.map tieD)) ∧ (∃ caps : Lims, μ' qd = some (.dct (limK caps)) ∧ (caps.map (·.1)).Sublist (marks2.take k) ∧ (∀ p ∈ caps, 0 ≤ p.2 ∧ p.2 < 10 ^ 27)) ∧
      ∃ y11, δ = [some (.ref b), some (.int m), some (.int mo), some (.lst (sds marks)), some (.lst (sds order)), some (.ref qc), some (.ref qd), y7, y8, y9, y10, y11])
      ⟨kp7, b7.mono (by omega), ec7, ⟨[], ed7, List.Sublist.refl _, fun p h => nomatch h⟩, none, rfl⟩ ?_ ?_
    · rintro δ μ8 ⟨kp8, b8, ec8, ⟨caps, ed8, sub, cok⟩, y11, rfl⟩
      refine ⟨trivial, ?_⟩
      have sl2 : (sds marks2).length = marks2.length := by simp [sds]
      have ml2 : marks2.length = marks.length := pm.length_eq
      rw [sl2] at b8 sub
      rw [List.take_length] at sub
      have lk : LiOk marks caps := ⟨sub.nodup nd2, fun p hp => pm.mem_iff.mp (sub.subset (List.mem_map.mpr ⟨p, hp, rfl⟩)), fun p hp => (cok p hp).1⟩
      have md : MdOk marks ties caps := ⟨⟨ok, tk, lk, nr⟩, fun t ht => (tok t ht).2.2.2.1, fun p hp => (cok p hp).2⟩
      have h := h marks ties caps md hm hk
      unfold t__law_model_4
      walk_at "l3"
      refine ⟨by rw [hsl]; show 3 ≤ _; decide, fun q hq => ?_⟩
      obtain ⟨nq, nqb⟩ := kp8.fresh b8 hq
      have nqc : q ≠ qc := by rintro rfl; rw [ec8] at hq; cases hq
      have nqd : q ≠ qd := by rintro rfl; rw [ed8] at hq; cases hq
      have b9 := (b8.put (o := .lst [.lst (sds marks), .ref qc, .ref qd]) nqb).mono (m := n + 1000) (by omega)
      have kp9 := kp8.put (o := .lst [.lst (sds marks), .ref qc, .ref qd]) nq
      cases tr with
      | true =>
        rw [if_pos rfl] at h
        exact fin_now (h q qc qd _ kp9 b9 nq nc nd nqb ncb ndb nqc nqd ncd mset_same (by rw [mset_ne (Ne.symm nqc), ec8]) (by rw [mset_ne (Ne.symm nqd), ed8]))
      | false =>
        rw [if_neg Bool.false_ne_true] at h
        refine ⟨.lst (modelL marks (.lst (ties.map tieD)) (.dct (limK caps))), fun a => if a = b then (mset μ8 q (.lst [.lst (sds marks), .ref qc, .ref qd])) b else μ a, fun a o e => ?_, ?_, h _ (fun a ha => if_neg ha) ?_⟩
        · by_cases ha : a = b
          · subst ha; simpa using e
          · exact kp9 a o ha (by simpa [ha] using e)
        · refine .lst mset_same (by simp [nqb, nq]) (.cons (.same _) (.cons (.lst (by rw [mset_ne (Ne.symm nqc), ec8]) (by simp [ncb, nc]) (Frs.same _)) (.cons (.dct (by rw [mset_ne (Ne.symm nqd), ed8]) (by simp [ndb, nd]) (Frk.same _)) .nil)))
        · obtain ⟨c0, c1, c2, e, k⟩ := b9
          exact ⟨c0, c1, c2, by simp only [if_true]; exact e, k⟩
    · rintro k d δ μ8 hd ⟨kp8, b8, ec8, ⟨caps, ed8, sub, cok⟩, y11, rfl⟩
      obtain ⟨e, ee, rfl⟩ := sds_get hd
      have klt := lt_at ee
      have ml2 : marks2.length = marks.length := pm.length_eq
      refine ⟨trivial, _, rfl, fun N hN => ?_⟩
      walk_at "l3"
      refine ⟨rfl, b, _, _, rfl, b8, by omega, by decide, by decide, fun r μ9 r0 r1 o9 b9 => ?_⟩
      walk_at "l3"
      have kp9 := kp8.onl o9
      have ec9 := onl_at o9 ncb ec8
      have ed9 := onl_at o9 ndb ed8
      by_cases hr : r = 0
      · simp only [hr, decide_true, if_true]
        refine ⟨⟨by decide, by decide, by decide⟩, rfl, b, _, _, rfl, b9, by omega, by decide, by decide, fun r μ10 r0 r1 o10 b10 => ⟨⟨by decide, by decide, by decide⟩, ?_⟩⟩
        have hr2 : r * 10 ^ (15 : Int).toNat < 10 ^ 27 := by
          have : r < 1000000000000 := r1
          show r * 1000000000000000 < 1000000000000000000000000000
          omega
        have hr0 : 0 ≤ r * 10 ^ (15 : Int).toNat := by
          show 0 ≤ r * 1000000000000000
          omega
        refine ⟨?_, by rw [hsl]; show 6 ≤ _; decide, rfl, b, _, _, rfl, b10, by omega, by decide, by decide, fun i μ11 i0 i1 o11 b11 => ?_⟩
        · exact wide_mul (a := 60) (b := 60) (by have : r < 1000000000000 := r1; omega) (by decide) (by decide) (by decide) (by decide)
        obtain ⟨d, hd, ed, _⟩ := pick (xs := [D.int 0, D.int 1, D.int 2, D.int 4, D.int 7, D.int (r * 10 ^ (15 : Int).toNat)]) i0 i1
        refine at_l ed ?_
        have key : ∃ v, d = .int v ∧ 0 ≤ v ∧ v < 10 ^ 27 := by
          simp only [List.mem_cons, List.mem_nil_iff, or_false] at hd
          rcases hd with rfl | rfl | rfl | rfl | rfl | rfl
          all_goals first
            | exact ⟨_, rfl, by decide, by decide⟩
            | exact ⟨_, rfl, hr0, hr2⟩
        obtain ⟨v, rfl, v0, v1⟩ := key
        have o := o10.trans o11
        have kp11 := kp9.onl o
        have ec11 := onl_at o ncb ec9
        have ed11 := onl_at o ndb ed9
        have ne : e ∉ caps.map (·.1) := fun h => by
          have h1 := sub.subset h
          obtain ⟨i, hi, q⟩ := List.getElem_of_mem h1
          rw [List.getElem_take] at q
          have e2 : marks2[k] = e := (List.getElem?_eq_some_iff.mp ee).2
          have := (List.getElem_inj nd2).mp (q.trans e2.symm)
          simp at hi
          omega
        have put : putD (limK caps) (.inr e) (.int v) = limK (caps ++ [(e, v)]) := by
          unfold putD
          rw [if_neg]
          · unfold limK; rw [List.map_append]; rfl
          · intro q
            rw [List.any_eq_true] at q
            obtain ⟨p, hp, q⟩ := q
            obtain ⟨a, ha, rfl⟩ := List.mem_map.mp hp
            have ea : a.1 = e := Sum.inr.inj (of_decide_eq_true q)
            exact ne (ea ▸ List.mem_map.mpr ⟨a, ha, rfl⟩)
        have hcl : caps.length ≤ marks2.length := by
          have := sub.length_le
          rw [List.length_map, List.length_take] at this
          omega
        refine set_k ed11 (by simp only [limK, List.length_map]; omega) (k := .inr e) rfl ?_
        rw [put]
        refine hN _ _ ⟨kp11.put nd, (b11.put ndb).mono (by omega), by rw [mset_ne ncd, ec11], ⟨_, mset_same, ?_, fun p hp => ?_⟩, _, rfl⟩
        · rw [take_snoc ee, List.map_append]
          exact sub.append (List.Sublist.refl _)
        · rcases List.mem_append.mp hp with hp | hp
          · exact cok p hp
          · rw [List.mem_singleton.mp hp]; exact ⟨v0, v1⟩
      · simp only [hr, decide_false, Bool.false_eq_true, if_false]
        refine hN _ _ ⟨kp9, b9.mono (by omega), ec9, ⟨caps, ed9, ?_, cok⟩, _, rfl⟩
        rw [take_snoc ee]
        exact sub.trans (List.sublist_append_left _ _)
  · rintro k δ μ6 hk ⟨kp6, b6, ⟨ties, ec6, hlt, tok⟩, ed6, y7, y8, y9, y10, rfl⟩ N hN
    have hk60 : k < 60 := by omega
    walk_at "l3"
    refine ⟨rfl, b, _, _, rfl, b6, by omega, by omega, by omega, fun i μ7 i0 i1 o7 b7 => ?_⟩
    obtain ⟨d, hd, ed, _⟩ := pick (xs := sds marks) i0 (by rw [hsm]; omega)
    obtain ⟨one, hone, rfl⟩ := List.mem_map.mp hd
    refine at_l ed ⟨rfl, b, _, _, rfl, b7, by omega, by omega, by omega, fun i μ8 i0 i1 o8 b8 => ?_⟩
    obtain ⟨d, hd, ed, _⟩ := pick (xs := sds marks) i0 (by rw [hsm]; omega)
    obtain ⟨oth, hoth, rfl⟩ := List.mem_map.mp hd
    refine at_l ed ⟨rfl, b, _, rfl, b8, by unfold bigB; omega, fun lag μ9 l0 l1 o9 b9 => ?_⟩
    have o := (o7.trans o8).trans o9
    have kp9 := kp6.onl o
    have ec9 := onl_at o ncb ec6
    have ed9 := onl_at o ndb ed6
    have ho1 : one ∈ order := po.mem_iff.mpr hone
    have ho2 : oth ∈ order := po.mem_iff.mpr hoth
    have app : ∀ lag' : Int, 0 ≤ lag' → lag' < 10 ^ 27 → (lag' = 0 → order.idxOf one < order.idxOf oth) → tyM "list" μ9 (.ref qc) ∧ ([D.str one, .str oth, .int lag'] : List D).length ≤ sizeLine ∧ gApp (.ref qc) [.tup [.str one, .str oth, .int lag']] μ9 fun d μ => N [some (.ref b), some (.int m), some (.int mo), some (.lst (sds marks)), some (.lst (sds order)), some (.ref qc), some (.ref qd), some (.int (0 + (k : Nat))), some (.str one), some (.str oth), some (.int lag'), none] μ := fun lag' h0 h1 h2 => by
      refine ⟨.inl ⟨rfl, _, ec9⟩, by rw [hsl]; show 3 ≤ _; decide, qc, _, _, rfl, rfl, ec9, by rw [List.length_map]; omega, ?_⟩
      refine hN _ _ ⟨kp9.put nc, (b9.put ncb).mono (by omega), ⟨ties ++ [(one, oth, lag')], by rw [mset_same]; simp [tieD], by simp [hlt], fun t ht => ?_⟩, by rw [mset_ne (Ne.symm ncd), ed9], _, _, _, _, rfl⟩
      rcases List.mem_append.mp ht with ht | ht
      · exact tok t ht
      · rw [List.mem_singleton.mp ht]; exact ⟨hone, hoth, h0, h1, h2⟩
    walk_at "l3"
    by_cases hz : lag = 0
    · simp only [hz, decide_true, if_true]
      refine ⟨rfl, _, _, _, rfl, rfl, rfl, sds_flat _, idx_sds ho1, rfl, _, _, _, rfl, rfl, rfl, sds_flat _, idx_sds ho2, ?_⟩
      walk_at "l3"
      by_cases hi : ((order.idxOf oth : Nat) : Int) ≤ (order.idxOf one : Nat)
      · simp only [hi, decide_true, if_true]
        exact app 1 (by decide) (by decide) (fun h => by cases h)
      · simp only [hi, decide_false, Bool.false_eq_true, if_false]
        have := app 0 (by decide) (by decide) (fun _ => by omega)
        exact this
    · simp only [hz, decide_false, Bool.false_eq_true, if_false]
      exact app lag l0 l1 (fun h => absurd h hz)
end C1
namespace C1
open PySem PySem.Spec L2 L3 C2
local macro_rules | `(tactic| walk_at "l3") => `(tactic| simp only [sSeq, sNext, sIf, sRet, sRetN, sSet, sDrop, sSub, sFor, sAsg, sPar2, sPar3, sCont, sFld3, sFld2, sAug, vVar, vC, vNil, vCons, vOp, vB, vChain, vAnd, vOr, vNot, vAndV, vOrV, vNotV, vIf, vUn, vCB, vLst, vTup, vLstT, vCall, vCal, vMak, vMetA, vFld, vSl, vPart, vNoP, vLc, vLcT, vDc, vBM, vBM0, vGet1, vGet2, vItems, vRev, vLRg, vStar, vDZip, iRg1, iRg2, iRgD, iAny, iEnm, iItm, iVal, vDict0, vDict0T, vDict0N, vDisp, vDispT, vPairs,
  List.getElem?_cons_zero, List.getElem?_cons_succ, List.set_cons_zero, List.set_cons_succ, wipe3, endsOf_rt, endsOf_nx, gLt, gLe, gGt, gGe, L3.gSub, gMul, gMod, gDiv, gPow, g2I, g2I0, gN, gT, gGo, Option.bind_some, gAdd_ii, gAdd_ss, gNeg_i, gMax2_ii, gMin2_ii, gLen_s, gEqS_ii, gEqS_ss, gEqS_bb, gNeS_ii, gNeS_ss, gIsN_n, gNotN_n, gSl_s, isNonD, if_true, if_false, Bool.false_eq_true, Bool.not_true, Bool.not_false])
theorem valD_map {k k' : Key} {v : D} : ∀ kvs : List (Key × D), valD (kvs.map fun kv => if kv.1 = k then (kv.1, v) else kv) k' = if k' = k then (valD kvs k).map (fun _ => v) else valD kvs k'
  | [] => by simp [valD]
  | (x, y) :: r => by
    have ih := valD_map (k := k) (k' := k') (v := v) r
    unfold valD at ih ⊢
    rw [List.map_cons, List.find?_cons, List.find?_cons, List.find?_cons]
    by_cases h1 : x = k
    · subst h1
      by_cases h2 : k' = x
      · subst h2; simp
      · have h3 : ¬ x = k' := fun z => h2 z.symm
        simp only [if_true, h3, h2, decide_false, if_false]
        rw [ih, if_neg h2]
    · by_cases h2 : x = k'
      · subst h2
        simp [h1]
      · simp only [h1, h2, if_false, decide_false]
        rw [ih]
theorem any_valD {kvs : List (Key × D)} {k : Key} : (kvs.any fun kv => decide (kv.1 = k)) = (valD kvs k).isSome := by
  unfold valD
  induction kvs with
  | nil => rfl
  | cons a r ih =>
    rw [List.any_cons, List.find?_cons]
    cases decide (a.1 = k) with
    | true => rfl
    | false => simpa using ih
theorem valD_put {kvs : List (Key × D)} {k k' : Key} {v : D} : valD (putD kvs k v) k' = if k' = k then some v else valD kvs k' := by
  unfold putD
  rw [any_valD]
  split
  · rename_i h
    rw [valD_map]
    obtain ⟨w, e⟩ := Option.isSome_iff_exists.mp h
    rw [e]; rfl
  · rename_i h
    unfold valD at h ⊢
    rw [List.find?_append]
    by_cases q : k' = k
    · subst q
      cases e : kvs.find? fun kv => decide (kv.1 = k') with
      | none => simp
      | some z => rw [e] at h; exact absurd rfl h
    · rw [if_neg q]
      have : ¬ k = k' := fun z => q z.symm
      simp [this]
theorem putD_len {kvs : List (Key × D)} {k : Key} {v : D} : (putD kvs k v).length ≤ kvs.length + 1 := by
  unfold putD
  split
  · rw [List.length_map]; omega
  · rw [List.length_append]; exact Nat.le_refl _
def RepF (kvs : List (Key × D)) (f : Str → Option Int) : Prop := ∀ e, valD kvs (.inr e) = (f e).map D.int
theorem merge_new : ∀ (ps acc : List (Key × D)), ((acc ++ ps).map (·.1)).Nodup → mergeD acc ps = acc ++ ps
  | [], acc, _ => by simp [mergeD]
  | p :: r, acc, nd => by
    unfold mergeD
    rw [List.foldl_cons]
    have : putD acc p.1 p.2 = acc ++ [p] := by
      unfold putD
      rw [if_neg]
      intro q
      rw [List.any_eq_true] at q
      obtain ⟨a, ha, q⟩ := q
      rw [List.map_append, List.nodup_append] at nd
      exact nd.2.2 a.1 (List.mem_map.mpr ⟨a, ha, rfl⟩) p.1 (by simp) (of_decide_eq_true q)
    rw [this]
    have ih := merge_new r (acc ++ [p]) (by simpa using nd)
    unfold mergeD at ih
    rw [ih]; simp
def mdD (marks : List Str) (ties : List Tie) (caps : Lims) : D := .lst (modelL marks (.lst (ties.map tieD)) (.dct (limK caps)))
def sp__law_plan : Sp3 := fun ds μ R => ∃ x marks y ties caps, ds = [x] ∧ seqOf μ x = some (modelL marks y (.dct (limK caps))) ∧ lstOf μ y = some (ties.map tieD) ∧ PlOk marks ties caps ∧ R (planD marks ties (limsOf marks caps)) μ
def t__law_plan : TS3 := (sRet (vMak "Plan" 2 1 [.pos 0, .pos 1, .pos 2, .kw 0] [] sp_Plan___init__ (vCons (vOp gAt (vVar 0) (vC (.int 0))) (vCons (vOp gAt (vVar 0) (vC (.int 1))) vNil)) (vCons (vOp gAt (vVar 0) (vC (.int 2))) vNil)))
theorem lst_new {μ : Mu} {x : D} {xs : List D} {q : Addr} {o : MO} (h : lstOf μ x = some xs) (hq : μ q = none) : lstOf (mset μ q o) x = some xs := lst_le ((Le.refl μ).mset hq) h
theorem pure__law_plan (ds : List D) (μ : Mu) (R : DK) (hl : ds.length = 1) (h : sp__law_plan ds μ R) : t__law_plan (endsOf R) (start3 ["_law_model_here"] ds) μ := by
  obtain ⟨x, marks, y, ties, caps, rfl, hx, hy, ok, h⟩ := h
  show t__law_plan (endsOf R) [some x] μ
  unfold t__law_plan
  walk_at "l3"
  refine at_q hx (d := .lst (sds marks)) rfl (at_q hx (d := y) rfl (at_q hx (d := .dct (limK caps)) rfl ⟨rfl, rfl, fun q hq => ?_⟩))
  refine ⟨q, .lst (sds marks), marks, y, ties, some caps, rfl, mset_same, rfl, lst_new hy hq, ok, rfl, ?_⟩
  rw [mset_mset]
  exact fin_obj (Le.mset_new hq) mset_same hq (fin_now h)
def lawRows (marks : List Str) (ties : List Tie) (caps : Lims) : List Tie := ties ++ caps.map (fun p => ((("" : Str), p.1, p.2) : Tie)) ++ marks.map fun e => ((e, ("" : Str), 0) : Tie)
def far0 (b : Str) : Str → Option Int := fun x => if x = b then some 0 else none
def farL (marks : List Str) (ties : List Tie) (caps : Lims) (b : Str) : Str → Option Int := farF (lawRows marks ties caps) (marks.length + 1) (far0 b)
def sp__law_far : Sp3 := fun ds μ R => ∃ marks ties caps b, ds = [mdD marks ties caps, .str b] ∧ PlOk marks ties caps ∧ ∀ kvs, RepF kvs (farL marks ties caps b) → R (.dct kvs) μ
def t__law_far_5 : TS3 := (sRet (vVar 7))
def t__law_far_4 : TS3 := sSeq (sFor (iRg1 (vCons (vOp gAdd (vCB gLen (vCons (vVar 2) vNil)) (vC (.int 1))) vNil)) (gN 8) (sFor (iAny (vVar 5)) (gT [(gN 9), (gN 10), (gN 11)]) (sSeq (sIf (vB (vOp (gIn true) (vVar 9) (vVar 7))) sCont sNext) (sIf (vOr (vB (vOp (gIn true) (vVar 10) (vVar 7))) (vB (vOp gLt (vOp gAdd (vOp gAt (vVar 7) (vVar 9)) (vVar 11)) (vOp gAt (vVar 7) (vVar 10))))) (sSub gSet (vOp gAdd (vOp gAt (vVar 7) (vVar 9)) (vVar 11)) (vVar 7) (vVar 10)) sNext)))) t__law_far_5
def t__law_far_3 : TS3 := sSeq (sSet 7 (vDispT [((vVar 1), (vC (.int 0)))])) t__law_far_4
def t__law_far_2 : TS3 := sSeq (sSet 5 (vOp gAdd (vVar 5) (vLc (iAny (vVar 2)) (gN 6) vYes (vTup (vCons (vVar 6) (vCons (vC (.str "")) (vCons (vC (.int 0)) vNil)))) [6]))) t__law_far_3
def t__law_far_1 : TS3 := sSeq (sSet 5 (vOp gAdd (vCB gList (vCons (vVar 3) vNil)) (vLc (iAny (vVar 4)) (gN 6) vYes (vTup (vCons (vC (.str "")) (vCons (vVar 6) (vCons (vOp gAt (vVar 4) (vVar 6)) vNil)))) [6]))) t__law_far_2
def t__law_far : TS3 := sSeq (sAsg (vVar 0) (gT [(gN 2), (gN 3), (gN 4)])) t__law_far_1
theorem look_of {caps : Lims} (nd : (caps.map (·.1)).Nodup) {p : Str × Int} (h : p ∈ caps) : caps.lookup p.1 = some p.2 := by
  induction caps with
  | nil => cases h
  | cons a r ih =>
    rw [List.map_cons, List.nodup_cons] at nd
    rw [List.lookup_cons]
    rcases List.mem_cons.mp h with rfl | h
    · simp
    · have : (p.1 == a.1) = false := by
        simp only [beq_eq_false_iff_ne]
        intro q
        exact nd.1 (q ▸ List.mem_map.mpr ⟨p, h, rfl⟩)
      rw [this]
      exact ih nd.2 h
theorem dic_k {μ : Mu} {q : Addr} {kvs : List (Key × D)} (h : μ q = some (.dct kvs)) : dicOf μ (.ref q) = some (.k kvs) := by simp only [dicOf, h]
theorem get_k {kvs : List (Key × D)} {f : Str → Option Int} (r : RepF kvs f) (e : Str) : (Dic.k kvs).get (.str e) = some ((f e).map D.int) := by
  show some (valD kvs (.inr e)) = _
  rw [r e]
theorem pure__law_far (ds : List D) (μ : Mu) (R : DK) (hl : ds.length = 2) (h : sp__law_far ds μ R) : t__law_far (endsOf R) (start3 ["_law_model_here", "_law_begin", "_law_marks", "_law_cords", "_law_caps", "_law_rows", "_law_event", "_law_found", "_law_turn", "_law_one", "_law_other", "_law_lag_here"] ds) μ := by
  obtain ⟨marks, ties, caps, b, rfl, ok, h⟩ := h
  have hsl : sizeLine = 16777216 := by decide
  have l1 := ok.e.le
  have l2 := ok.t.le
  have l3 := lims_len ok.l
  show t__law_far (endsOf R) [some (mdD marks ties caps), some (.str b), none, none, none, none, none, none, none, none, none, none] μ
  unfold t__law_far
  walk_at "l3"
  show t__law_far_1 (endsOf R) [some (mdD marks ties caps), some (.str b), some (.lst (sds marks)), some (.lst (ties.map tieD)), some (.dct (limK caps)), none, none, none, none, none, none, none] μ
  unfold t__law_far_1 t__law_far_2
  walk_at "l3"
  refine ⟨_, _, rfl, rfl, ?_⟩
  have ek : ((limK caps).map fun kv => keyD kv.1) = caps.map fun p => .str p.1 := by
    unfold limK; rw [List.map_map]; rfl
  show lcW _ _ _ _ _ _ ((limK caps).map fun kv => keyD kv.1) _ _
  rw [ek]
  refine lcg_map _ (fun p => tieD ("", p.1, p.2)) trivial caps [] (fun p hp => ⟨_, rfl, fun R' hR => ?_⟩) (by simp; omega) ?_
  · walk_at "l3"
    refine at_d (c := .k (limK caps)) (d := .int p.2) rfl (by show some _ = some _; rw [val_lim, look_of ok.l.nd hp]; rfl) ⟨by rw [hsl]; show 3 ≤ _; decide, hR⟩
  refine ⟨_, _, rfl, rfl, by simp; omega, ?_⟩
  refine lcg_map _ (fun e => tieD (e, "", 0)) trivial marks [] (fun p hp => ⟨_, rfl, fun R' hR => ?_⟩) (by simp; omega) ?_
  · walk_at "l3"
    exact ⟨by rw [hsl]; show 3 ≤ _; decide, hR⟩
  refine ⟨_, _, rfl, rfl, by simp; omega, ?_⟩
  have er : (ties.map tieD ++ ([] ++ caps.map fun p => tieD ("", p.1, p.2))) ++ ([] ++ marks.map fun e => tieD (e, "", 0)) = (lawRows marks ties caps).map tieD := by
    unfold lawRows; simp; rfl
  rw [er]
  have lr : (lawRows marks ties caps).length ≤ 76 := by unfold lawRows; simp; omega
  generalize hrows : lawRows marks ties caps = rows at lr ⊢
  unfold t__law_far_3 t__law_far_4
  walk_at "l3"
  refine ⟨_, rfl, by show 1 ≤ 15; decide, fun q hq => ?_⟩
  have e0 : mergeD [] [((.inr b : Key), D.int 0)] = [(.inr b, .int 0)] := rfl
  refine gLen_of (xs := sds marks) rfl ?_
  walk_at "l3"
  have hsm : (sds marks).length = marks.length := by simp [sds]
  rw [hsm]
  refine ⟨by omega, by omega, ?_⟩
  have e1 : ((marks.length : Nat) + 1 : Int).toNat = marks.length + 1 := by omega
  rw [e1]
  refine for_rg (fun k δ μ' => Le μ μ' ∧ (∃ kvs, μ' q = some (.dct kvs) ∧ RepF kvs (farF rows k (far0 b)) ∧ kvs.length ≤ 1 + 76 * k) ∧ ∃ y8 y9 y10 y11, δ = [some (mdD marks ties caps), some (.str b), some (.lst (sds marks)), some (.lst (ties.map tieD)), some (.dct (limK caps)), some (.lst (rows.map tieD)), none, some (.ref q), y8, y9, y10, y11])
    ⟨(Le.refl μ).mset hq, ⟨_, mset_same, fun e => ?_, Nat.le_refl _⟩, none, none, none, none, rfl⟩ ?_ ?_
  · show valD [(.inr b, .int 0)] (.inr e) = _
    unfold farF far0 valD
    by_cases h : e = b
    · subst h; simp
    · have h2 : ¬ b = e := fun z => h z.symm
      simp [h, h2]
  · rintro δ μ1 ⟨le, ⟨kvs, eq, rep, _⟩, y8, y9, y10, y11, rfl⟩
    unfold t__law_far_5
    walk_at "l3"
    refine fin_dct le eq hq (h kvs ?_)
    unfold farL
    rw [hrows]
    exact rep
  · rintro k δ μ1 hk ⟨le, ⟨kvs, eq, rep, len⟩, y8, y9, y10, y11, rfl⟩ N hN
    walk_at "l3"
    refine for_ix (rows.map tieD) (fun j δ μ' => Le μ μ' ∧ (∃ kvs, μ' q = some (.dct kvs) ∧ RepF kvs (turnF (rows.take j) (farF rows k (far0 b))) ∧ kvs.length ≤ 1 + 76 * k + j) ∧ ∃ y9 y10 y11, δ = [some (mdD marks ties caps), some (.str b), some (.lst (sds marks)), some (.lst (ties.map tieD)), some (.dct (limK caps)), some (.lst (rows.map tieD)), none, some (.ref q), some (.int (0 + (k : Nat))), y9, y10, y11])
      ⟨le, ⟨kvs, eq, rep, by omega⟩, _, _, _, rfl⟩ ?_ ?_
    · rintro δ μ2 ⟨le2, ⟨kvs, eq, rep, len⟩, y9, y10, y11, rfl⟩
      refine ⟨trivial, hN _ _ ⟨le2, ⟨kvs, eq, ?_, ?_⟩, _, _, _, _, rfl⟩⟩
      · rw [List.length_map, List.take_length] at rep
        exact rep
      · rw [List.length_map] at len; omega
    · rintro j d δ μ2 hd ⟨le2, ⟨kvs, eq, rep, len⟩, y9, y10, y11, rfl⟩
      obtain ⟨t, et, rfl⟩ := map_at hd
      have jl := lt_at et
      refine ⟨trivial, _, rfl, fun N2 hN2 => ?_⟩
      generalize hf : turnF (rows.take j) (farF rows k (far0 b)) = f at rep
      have stp : turnF (rows.take (j + 1)) (farF rows k (far0 b)) = rlF f t := by
        rw [take_snoc et]
        unfold turnF
        rw [List.foldl_append]
        show rlF (turnF (rows.take j) (farF rows k (far0 b))) t = _
        rw [hf]
      have nxt : ∀ μ', Le μ μ' → (∃ kvs, μ' q = some (.dct kvs) ∧ RepF kvs (rlF f t) ∧ kvs.length ≤ 1 + 76 * k + (j + 1)) → N2 [some (mdD marks ties caps), some (.str b), some (.lst (sds marks)), some (.lst (ties.map tieD)), some (.dct (limK caps)), some (.lst (rows.map tieD)), none, some (.ref q), some (.int (0 + (k : Nat))), some (.str t.1), some (.str t.2.1), some (.int t.2.2)] μ' := fun μ' a c => hN2 _ _ ⟨a, by rw [stp]; exact c, _, _, _, rfl⟩
      walk_at "l3"
      refine in_d (dic_k eq) (get_k rep t.1) ?_
      cases h1 : f t.1 with
      | none =>
        simp only [Option.map_none, Option.isSome_none, Bool.not_false, if_true]
        refine nxt _ le2 ⟨kvs, eq, fun e => ?_, by omega⟩
        rw [rep e]
        unfold rlF
        rw [h1]
      | some u =>
        simp only [Option.map_some, Option.isSome_some, Bool.not_true, if_true, Bool.false_eq_true, if_false]
        have thn : bet (f t.2.1) (u + t.2.2) = true → gAt (.ref q) (.str t.1) μ2 fun x μ1 => gAdd x (.int t.2.2) μ1 fun d μ1 => gSet (.ref q) (.str t.2.1) d μ1 fun μ3 => N2 [some (mdD marks ties caps), some (.str b), some (.lst (sds marks)), some (.lst (ties.map tieD)), some (.dct (limK caps)), some (.lst (rows.map tieD)), none, some (.ref q), some (.int (0 + (k : Nat))), some (.str t.1), some (.str t.2.1), some (.int t.2.2)] μ3 := fun hb => by
          refine at_d (d := .int u) (dic_k eq) (by rw [get_k rep t.1, h1]; rfl) ?_
          rw [gAdd_ii]
          refine set_k eq (by omega) (k := .inr t.2.1) rfl (nxt _ (le2.mset hq) ⟨_, mset_same, fun e => ?_, Nat.le_trans putD_len (by omega)⟩)
          rw [valD_put, rep e]
          unfold rlF
          rw [h1]
          simp only [hb, true_and]
          by_cases q : e = t.2.1
          · subst q; simp
          · have : ¬ (Sum.inr e : Key) = .inr t.2.1 := fun z => q (Sum.inr.inj z)
            simp only [q, this, if_false]
        have els : bet (f t.2.1) (u + t.2.2) = false → N2 [some (mdD marks ties caps), some (.str b), some (.lst (sds marks)), some (.lst (ties.map tieD)), some (.dct (limK caps)), some (.lst (rows.map tieD)), none, some (.ref q), some (.int (0 + (k : Nat))), some (.str t.1), some (.str t.2.1), some (.int t.2.2)] μ2 := fun hb => by
          refine nxt _ le2 ⟨kvs, eq, fun e => ?_, by omega⟩
          rw [rep e]
          unfold rlF
          rw [h1]
          simp only [hb, Bool.false_eq_true, false_and, if_false]
        refine in_d (dic_k eq) (get_k rep t.2.1) ?_
        cases h2 : f t.2.1 with
        | none =>
          simp only [Option.map_none, Option.isSome_none, Bool.not_false, if_true]
          exact thn (by rw [h2]; rfl)
        | some v =>
          simp only [Option.map_some, Option.isSome_some, Bool.not_true, if_true, Bool.false_eq_true, if_false]
          refine at_d (d := .int u) (dic_k eq) (by rw [get_k rep t.1, h1]; rfl) ?_
          walk_at "l3"
          refine at_d (d := .int v) (dic_k eq) (by rw [get_k rep t.2.1, h2]; rfl) ?_
          walk_at "l3"
          by_cases hw : u + t.2.2 < v
          · simp only [hw, decide_true, if_true]
            exact thn (by rw [h2]; exact decide_eq_true hw)
          · simp only [hw, decide_false, Bool.false_eq_true, if_false]
            exact els (by rw [h2]; exact decide_eq_false hw)
end C1
namespace C1
open PySem PySem.Spec L2 L3 C2
local macro_rules | `(tactic| walk_at "l3") => `(tactic| simp only [sSeq, sNext, sIf, sRet, sRetN, sSet, sDrop, sSub, sFor, sAsg, sPar2, sPar3, sCont, sFld3, sFld2, sAug, vVar, vC, vNil, vCons, vOp, vB, vChain, vAnd, vOr, vNot, vAndV, vOrV, vNotV, vIf, vUn, vCB, vLst, vTup, vLstT, vCall, vCal, vMak, vMetA, vFld, vSl, vPart, vNoP, vLc, vLcT, vDc, vBM, vBM0, vGet1, vGet2, vItems, vRev, vLRg, vStar, vDZip, iRg1, iRg2, iRgD, iAny, iEnm, iItm, iVal, vDict0, vDict0T, vDict0N, vDisp, vDispT, vPairs,
  List.getElem?_cons_zero, List.getElem?_cons_succ, List.set_cons_zero, List.set_cons_succ, wipe3, endsOf_rt, endsOf_nx, gLt, gLe, gGt, gGe, L3.gSub, gMul, gMod, gDiv, gPow, g2I, g2I0, gN, gT, gGo, Option.bind_some, gAdd_ii, gAdd_ss, gNeg_i, gMax2_ii, gMin2_ii, gLen_s, gEqS_ii, gEqS_ss, gEqS_bb, gNeS_ii, gNeS_ss, gIsN_n, gNotN_n, gSl_s, isNonD, if_true, if_false, Bool.false_eq_true, Bool.not_true, Bool.not_false])
def LdOk (marks : List Str) (ties : List Tie) (caps : Lims) (kvs : List (Key × D)) : Prop := ∀ b ∈ ("" : Str) :: marks, ∃ kb, valD kvs (.inr b) = some (.dct kb) ∧ RepF kb (farL marks ties caps b)
theorem name_ne {e : Str} (h : nameT e = true) : e ≠ ("" : Str) := by
  rintro rfl
  exact absurd h (by decide +kernel)
theorem lc_leads {Pm : Mu → Prop} {μ : Mu} {δ : St3} {R : List D → Mu → Prop} {marks : List Str} {ties : List Tie} {caps : Lims} (hP : Pm μ) (h0 : δ[0]? = some (some (mdD marks ties caps))) (hl : δ.length = 2) (ok : PlOk marks ties caps) : ∀ (todo done : List Str) (acc : List (Key × D)), acc.map (·.1) = done.map Sum.inr →
    (∀ p ∈ acc, ∃ b kb, p = (.inr b, .dct kb) ∧ RepF kb (farL marks ties caps b)) → (done ++ todo).length ≤ 100 →
    (∀ acc : List (Key × D), acc.map (·.1) = (done ++ todo).map Sum.inr → (∀ p ∈ acc, ∃ b kb, p = (.inr b, .dct kb) ∧ RepF kb (farL marks ties caps b)) → R (acc.map pairD) μ) →
    lcW Pm (gN 1) vYes (vTup (vCons (vVar 1) (vCons (vCall 2 sp__law_far (vCons (vVar 0) (vCons (vVar 1) vNil))) vNil))) δ R (sds todo) (acc.map pairD) μ
  | [], done, acc, e, h, _, k => ⟨hP, k acc (by rw [List.append_nil]; exact e) h⟩
  | b :: r, done, acc, e, h, hn, k => by
    have hsl : sizeLine = 16777216 := by decide
    have la : acc.length = done.length := by
      have := congrArg List.length e
      simpa using this
    refine ⟨hP, by rw [List.length_map, la]; simp at hn; omega, ?_⟩
    have e1 : (δ.set 1 (some (D.str b)))[1]? = some (some (.str b)) := by simp [hl]
    have e2 : (δ.set 1 (some (D.str b)))[0]? = some (some (mdD marks ties caps)) := by rw [List.getElem?_set_ne (by decide)]; exact h0
    simp only [gN, vYes, if_true, vTup, vCons, vCall, vVar, vNil, e1, e2]
    refine ⟨rfl, marks, ties, caps, b, rfl, ok, fun kb rep => ⟨by rw [hsl]; show 2 ≤ _; decide, ?_⟩⟩
    have := lc_leads hP h0 hl ok r (done ++ [b]) (acc ++ [(.inr b, .dct kb)]) (by simp [e]) (fun p hp => by
      rcases List.mem_append.mp hp with hp | hp
      · exact h p hp
      · rw [List.mem_singleton.mp hp]; exact ⟨b, kb, rfl, rep⟩) (by simpa using hn) (fun acc a1 a2 => k acc (by simpa using a1) a2) (R := R)
    rw [List.map_append] at this
    exact this
def sp__law_leads : Sp3 := fun ds μ R => ∃ marks ties caps, ds = [mdD marks ties caps] ∧ PlOk marks ties caps ∧ ∀ kvs, LdOk marks ties caps kvs → R (.dct kvs) μ
def t__law_leads : TS3 := (sRet (vCB (gDict false) (vCons (vLc (iAny (vOp gAdd (vLst (vCons (vC (.str "")) vNil)) (vOp gAt (vVar 0) (vC (.int 0))))) (gN 1) vYes (vTup (vCons (vVar 1) (vCons (vCall 2 sp__law_far (vCons (vVar 0) (vCons (vVar 1) vNil))) vNil))) [1]) vNil)))
theorem pure__law_leads (ds : List D) (μ : Mu) (R : DK) (hl : ds.length = 1) (h : sp__law_leads ds μ R) : t__law_leads (endsOf R) (start3 ["_law_model_here", "_law_begin"] ds) μ := by
  obtain ⟨marks, ties, caps, rfl, ok, h⟩ := h
  have hsl : sizeLine = 16777216 := by decide
  have l1 := ok.e.le
  show t__law_leads (endsOf R) [some (mdD marks ties caps), none] μ
  unfold t__law_leads
  walk_at "l3"
  refine ⟨by rw [hsl]; show 1 ≤ _; decide, at_l (xs := modelL marks _ _) (d := .lst (sds marks)) rfl ⟨_, _, rfl, rfl, by simp [sds]; omega, ?_⟩⟩
  have nd : (("" : Str) :: marks).Nodup := List.nodup_cons.mpr ⟨fun h => name_ne (ok.e.nm _ h) rfl, ok.e.nd⟩
  show lcW (fun _ => True) (gN 1) vYes _ [some (mdD marks ties caps), none] _ (sds ("" :: marks)) (([] : List (Key × D)).map pairD) μ
  refine lc_leads (δ := [some (mdD marks ties caps), none]) (marks := marks) (ties := ties) (caps := caps) trivial rfl rfl ok (("" : Str) :: marks) [] [] rfl (fun p h => nomatch h) (by simp; omega) fun acc a1 a2 => ?_
  refine ⟨_, acc, rfl, .inr ⟨acc, rfl, ?_⟩, ?_⟩
  · have := merge_new acc [] (by rw [List.nil_append, a1]; exact List.Pairwise.map _ (fun a b h q => h (Sum.inr.inj q)) nd)
    rw [this]; rfl
  · refine fin_now (h acc fun b hb => ?_)
    have hk : (Sum.inr b : Key) ∈ acc.map (·.1) := by rw [a1]; exact List.mem_map.mpr ⟨b, hb, rfl⟩
    have ex : ∃ d, valD acc (.inr b) = some d := by
      obtain ⟨p, hp, e⟩ := List.mem_map.mp hk
      have : (acc.any fun kv => decide (kv.1 = .inr b)) = true := List.any_eq_true.mpr ⟨p, hp, decide_eq_true e⟩
      rw [any_valD] at this
      exact Option.isSome_iff_exists.mp this
    obtain ⟨d, ed⟩ := ex
    have ed' := ed
    unfold valD at ed'
    obtain ⟨p, ep, rfl⟩ := Option.map_eq_some_iff.mp ed'
    obtain ⟨b', kb, rfl, rep⟩ := a2 p (List.mem_of_find?_eq_some ep)
    have := List.find?_some ep
    have e2 : b' = b := Sum.inr.inj (of_decide_eq_true this)
    subst e2
    exact ⟨kb, ed, rep⟩
theorem Wk.map {N M : Type} [DecidableEq N] [DecidableEq M] {rows : List (N × N × Int)} {rows' : List (M × M × Int)} (f : N → M) (h : ∀ r ∈ rows, (f r.1, f r.2.1, r.2.2) ∈ rows') {a b : N} {w : Int} {k : Nat} (q : Wk rows a b w k) : Wk rows' (f a) (f b) w k := by
  induction q with
  | nil a => exact .nil _
  | cons e _ ih => exact .cons (h _ e) ih
def phi : Nd → Str
  | none => ""
  | some e => e
def psi (e : Str) : Nd := if e = "" then none else some e
theorem psi_phi {marks : List Str} (ok : EvOk marks) {a : Nd} (h : a ∈ plNodes marks) : psi (phi a) = a := by
  cases a with
  | none => rfl
  | some e =>
    have he : e ∈ marks := by
      rcases List.mem_cons.mp h with h | h
      · cases h
      · obtain ⟨x, hx, q⟩ := List.mem_map.mp h
        cases q; exact hx
    unfold psi phi
    rw [if_neg (name_ne (ok.nm e he))]
theorem mem_limsOf {marks : List Str} {caps : Lims} (lk : LiOk marks caps) {p : Str × Int} : p ∈ limsOf marks caps ↔ p ∈ caps := by
  constructor
  · intro h
    obtain ⟨e, he, q⟩ := List.mem_filterMap.mp h
    obtain ⟨v, hv, rfl⟩ := Option.map_eq_some_iff.mp q
    exact look_mem hv
  · intro h
    refine List.mem_filterMap.mpr ⟨p.1, lk.a p h, ?_⟩
    rw [look_of lk.nd h]; rfl
theorem mem_lawRows {marks : List Str} {ties : List Tie} {caps : Lims} {r : Tie} : r ∈ lawRows marks ties caps ↔ r ∈ ties ∨ (∃ p ∈ caps, r = (("" : Str), p.1, p.2)) ∨ ∃ e ∈ marks, r = (e, ("" : Str), 0) := by
  unfold lawRows
  rw [List.mem_append, List.mem_append, or_assoc, List.mem_map, List.mem_map]
  refine or_congr Iff.rfl (or_congr ?_ ?_)
  · exact ⟨fun ⟨p, a, b⟩ => ⟨p, a, b.symm⟩, fun ⟨p, a, b⟩ => ⟨p, a, b.symm⟩⟩
  · exact ⟨fun ⟨p, a, b⟩ => ⟨p, a, b.symm⟩, fun ⟨p, a, b⟩ => ⟨p, a, b.symm⟩⟩
theorem walk_iff {marks : List Str} {ties : List Tie} {caps : Lims} (ok : PlOk marks ties caps) {a b : Nd} (ha : a ∈ plNodes marks) (hb : b ∈ plNodes marks) {w : Int} {k : Nat} : Wk ((planRows marks ties (limsOf marks caps)).map (·.1)) a b w k ↔ Wk (lawRows marks ties caps) (phi a) (phi b) w k := by
  constructor
  · exact Wk.map phi fun r hr => by
      rw [mem_lawRows]
      rcases mem_rows.mp hr with ⟨t, ht, rfl⟩ | ⟨p, hp, rfl⟩ | ⟨e, he, rfl⟩
      · exact .inl ht
      · exact .inr (.inl ⟨p, (mem_limsOf ok.l).mp hp, rfl⟩)
      · exact .inr (.inr ⟨e, he, rfl⟩)
  · intro h
    have key := Wk.map (rows' := (planRows marks ties (limsOf marks caps)).map (·.1)) psi (fun r hr => by
      have ps : ∀ e ∈ marks, psi e = some e := fun e he => by unfold psi; rw [if_neg (name_ne (ok.e.nm e he))]
      have p0 : psi "" = none := rfl
      rw [mem_rows]
      rcases mem_lawRows.mp hr with ht | ⟨p, hp, rfl⟩ | ⟨e, he, rfl⟩
      · left; exact ⟨r, ht, by rw [ps _ (ok.t.a r ht), ps _ (ok.t.b r ht)]⟩
      · right; left; exact ⟨p, (mem_limsOf ok.l).mpr hp, by simp only [p0, ps _ (ok.l.a p hp)]⟩
      · right; right; exact ⟨e, he, by simp only [p0, ps e he]⟩) h
    rw [psi_phi ok.e ha, psi_phi ok.e hb] at key
    exact key
theorem law_isD {marks : List Str} {ties : List Tie} {caps : Lims} (ok : PlOk marks ties caps) (b e : Str) : IsD (lawRows marks ties caps) b e (farL marks ties caps b e) := by
  have key : ∀ r ∈ lawRows marks ties caps, 0 ≤ r.2.2 ∧ r.1 ∈ ("" : Str) :: marks := fun r hr => by
    rcases mem_lawRows.mp hr with ht | ⟨p, hp, rfl⟩ | ⟨e, he, rfl⟩
    · exact ⟨ok.t.c r ht, List.mem_cons_of_mem _ (ok.t.a r ht)⟩
    · exact ⟨ok.l.c p hp, List.mem_cons_self⟩
    · exact ⟨Int.le_refl _, List.mem_cons_of_mem _ he⟩
  refine farF_isD (nodes := ("" : Str) :: marks) (fun r hr => (key r hr).1) (fun r hr => (key r hr).2) (Nat.le_refl _) (by simp [far0]) (fun x v h => ?_) e
  unfold far0 at h
  split at h
  · rename_i q; cases h; rw [q]; exact ⟨0, .nil b⟩
  · cases h
theorem lead_eq {marks : List Str} {ties : List Tie} {caps : Lims} (ok : PlOk marks ties caps) {a b : Nd} (ha : a ∈ plNodes marks) (hb : b ∈ plNodes marks) : (plT marks ties (limsOf marks caps)).L a b = farL marks ties caps (phi a) (phi b) := by
  have ok' : PlOk marks ties (limsOf marks caps) := ⟨ok.e, ok.t, limsOf_ok ok.e ok.l, ok.r⟩
  have h1 := plan_isD ok' ha hb
  have h2 := law_isD ok (phi a) (phi b)
  refine IsD.uniq (rows := lawRows marks ties caps) (a := phi a) (b := phi b) ⟨fun v e => ?_, fun w k q => ?_⟩ h2
  · obtain ⟨k, q⟩ := h1.sound v e
    exact ⟨k, (walk_iff ok ha hb).mp q⟩
  · exact h1.least w k ((walk_iff ok ha hb).mpr q)
end C1
namespace C1
open PySem PySem.Spec L2 L3 C2
local macro_rules | `(tactic| walk_at "l3") => `(tactic| simp only [sSeq, sNext, sIf, sRet, sRetN, sSet, sDrop, sSub, sFor, sAsg, sPar2, sPar3, sCont, sFld3, sFld2, sAug, vVar, vC, vNil, vCons, vOp, vB, vChain, vAnd, vOr, vNot, vAndV, vOrV, vNotV, vIf, vUn, vCB, vLst, vTup, vLstT, vCall, vCal, vMak, vMetA, vFld, vSl, vPart, vNoP, vLc, vLcT, vDc, vBM, vBM0, vGet1, vGet2, vItems, vRev, vLRg, vStar, vDZip, iRg1, iRg2, iRgD, iAny, iEnm, iItm, iVal, vDict0, vDict0T, vDict0N, vDisp, vDispT, vPairs,
  List.getElem?_cons_zero, List.getElem?_cons_succ, List.set_cons_zero, List.set_cons_succ, wipe3, endsOf_rt, endsOf_nx, gLt, gLe, gGt, gGe, L3.gSub, gMul, gMod, gDiv, gPow, g2I, g2I0, gN, gT, gGo, Option.bind_some, gAdd_ii, gAdd_ss, gNeg_i, gMax2_ii, gMin2_ii, gLen_s, gEqS_ii, gEqS_ss, gEqS_bb, gNeS_ii, gNeS_ss, gIsN_n, gNotN_n, gSl_s, isNonD, if_true, if_false, Bool.false_eq_true, Bool.not_true, Bool.not_false])
structure GrAt (μ μ' : Mu) (q : Addr) (gs : List (Addr × List Str)) : Prop where
  le : Le μ μ'
  nq : μ q = none
  at_ : μ' q = some (.lst (gs.map fun g => .ref g.1))
  ins : ∀ g ∈ gs, μ' g.1 = some (.lst (sds g.2)) ∧ μ g.1 = none ∧ g.1 ≠ q
  nd : (gs.map (·.1)).Nodup
theorem GrAt.snoc {μ μ' : Mu} {q p : Addr} {gs : List (Addr × List Str)} {l : List Str} (h : GrAt μ μ' q gs) (hp : μ' p = none) : GrAt μ (mset (mset μ' p (.lst (sds l))) q (.lst (gs.map (fun g => .ref g.1) ++ [.ref p]))) q (gs ++ [(p, l)]) := by
  have np : μ p = none := by
    cases z : μ p with
    | none => rfl
    | some o => have := h.le p o z; rw [hp] at this; cases this
  have npq : p ≠ q := by
    rintro rfl
    rw [h.at_] at hp; cases hp
  have ng : ∀ g ∈ gs, g.1 ≠ p := fun g hg e => by
    have := (h.ins g hg).1
    rw [e, hp] at this; cases this
  refine ⟨(h.le.mset np).mset h.nq, h.nq, by rw [mset_same]; simp, fun g hg => ?_, ?_⟩
  · rcases List.mem_append.mp hg with hg | hg
    · obtain ⟨a, b, c⟩ := h.ins g hg
      exact ⟨by rw [mset_ne c, mset_ne (ng g hg)]; exact a, b, c⟩
    · rw [List.mem_singleton.mp hg]
      exact ⟨by rw [mset_ne npq, mset_same], np, npq⟩
  · rw [List.map_append, List.nodup_append]
    refine ⟨h.nd, by simp, fun a ha b hb => ?_⟩
    obtain ⟨g, hg, rfl⟩ := List.mem_map.mp ha
    have : b = p := by simpa using hb
    rw [this]
    exact ng g hg
end C1
namespace C1
open PySem PySem.Spec L2 L3 C2
local macro_rules | `(tactic| walk_at "l3") => `(tactic| simp only [sSeq, sNext, sIf, sRet, sRetN, sSet, sDrop, sSub, sFor, sAsg, sPar2, sPar3, sCont, sFld3, sFld2, sAug, vVar, vC, vNil, vCons, vOp, vB, vChain, vAnd, vOr, vNot, vAndV, vOrV, vNotV, vIf, vUn, vCB, vLst, vTup, vLstT, vCall, vCal, vMak, vMetA, vFld, vSl, vPart, vNoP, vLc, vLcT, vDc, vBM, vBM0, vGet1, vGet2, vItems, vRev, vLRg, vStar, vDZip, iRg1, iRg2, iRgD, iAny, iEnm, iItm, iVal, vDict0, vDict0T, vDict0N, vDisp, vDispT, vPairs,
  List.getElem?_cons_zero, List.getElem?_cons_succ, List.set_cons_zero, List.set_cons_succ, wipe3, endsOf_rt, endsOf_nx, gLt, gLe, gGt, gGe, L3.gSub, gMul, gMod, gDiv, gPow, g2I, g2I0, gN, gT, gGo, Option.bind_some, gAdd_ii, gAdd_ss, gNeg_i, gMax2_ii, gMin2_ii, gLen_s, gEqS_ii, gEqS_ss, gEqS_bb, gNeS_ii, gNeS_ss, gIsN_n, gNotN_n, gSl_s, isNonD, if_true, if_false, Bool.false_eq_true, Bool.not_true, Bool.not_false])
def SqOf (μ : Mu) (x : D) (xs : List D) : Prop := lstOf μ x = some xs ∨ x = .tup xs
theorem SqOf.ty {μ : Mu} {x : D} {xs : List D} (h : SqOf μ x xs) : ∃ n, tyD μ x = some n ∧ gIsT.kitsB n ["list", "tuple"] = some true := by
  rcases h with h | rfl
  · exact ⟨_, ty_lst h, kl_list⟩
  · exact ⟨_, rfl, kl_tuple⟩
theorem SqOf.seq {μ : Mu} {x : D} {xs : List D} (h : SqOf μ x xs) : seqOf μ x = some xs := by
  rcases h with h | rfl
  · exact seq_lst h
  · rfl
theorem SqOf.le {μ μ' : Mu} {x : D} {xs : List D} (h : SqOf μ x xs) (l : Le μ μ') : SqOf μ' x xs := by
  rcases h with h | rfl
  · exact .inl (lst_le l h)
  · exact .inr rfl
end C1
namespace C1
open PySem PySem.Spec L2 L3 C2
local macro_rules | `(tactic| walk_at "l3") => `(tactic| simp only [sSeq, sNext, sIf, sRet, sRetN, sSet, sDrop, sSub, sFor, sAsg, sPar2, sPar3, sCont, sFld3, sFld2, sAug, vVar, vC, vNil, vCons, vOp, vB, vChain, vAnd, vOr, vNot, vAndV, vOrV, vNotV, vIf, vUn, vCB, vLst, vTup, vLstT, vCall, vCal, vMak, vMetA, vFld, vSl, vPart, vNoP, vLc, vLcT, vDc, vBM, vBM0, vGet1, vGet2, vItems, vRev, vLRg, vStar, vDZip, iRg1, iRg2, iRgD, iAny, iEnm, iItm, iVal, vDict0, vDict0T, vDict0N, vDisp, vDispT, vPairs,
  List.getElem?_cons_zero, List.getElem?_cons_succ, List.set_cons_zero, List.set_cons_succ, wipe3, endsOf_rt, endsOf_nx, gLt, gLe, gGt, gGe, L3.gSub, gMul, gMod, gDiv, gPow, g2I, g2I0, gN, gT, gGo, Option.bind_some, gAdd_ii, gAdd_ss, gNeg_i, gMax2_ii, gMin2_ii, gLen_s, gEqS_ii, gEqS_ss, gEqS_bb, gNeS_ii, gNeS_ss, gIsN_n, gNotN_n, gSl_s, isNonD, if_true, if_false, Bool.false_eq_true, Bool.not_true, Bool.not_false])
theorem Rch.sub {G H : Str → List Str} {b c : List Str} (hG : ∀ e, ∀ z ∈ G e, z ∈ H e) (hb : ∀ z ∈ b, z ∈ c) {z : Str} (h : Rch G b z) : Rch H c z := by
  induction h with
  | base k => exact .base (hb _ k)
  | step _ k ih => exact .step ih (hG _ _ k)
theorem NoRing.sub {evs : List Str} {ties ties' : List Tie} (h : NoRing evs ties) (hs : ∀ t ∈ ties', t.2.2 = 0 → t ∈ ties) : NoRing evs ties' := fun e he r => by
  have key : ∀ e, ∀ z ∈ adj0 ties' e, z ∈ adj0 ties e := fun e z hz => by
    obtain ⟨c, hc, h1, h2, h3⟩ := mem_adj.mp hz
    exact mem_adj.mpr ⟨c, hs c hc (of_decide_eq_true h1), h1, h2, h3⟩
  exact h e he (r.sub key (key e))
theorem PlOk.sub {evs : List Str} {ties ties' : List Tie} {lims : Lims} (ok : PlOk evs ties lims) (hl : ties'.length ≤ 60) (hs : ∀ t ∈ ties', t ∈ ties) : PlOk evs ties' lims :=
  ⟨ok.e, ⟨hl, fun t ht => ok.t.a t (hs t ht), fun t ht => ok.t.b t (hs t ht), fun t ht => ok.t.c t (hs t ht)⟩, ok.l, ok.r.sub fun t ht _ => hs t ht⟩
end C1
namespace C1
open PySem PySem.Spec L2 L3 C2
local macro_rules | `(tactic| walk_at "l3") => `(tactic| simp only [sSeq, sNext, sIf, sRet, sRetN, sSet, sDrop, sSub, sFor, sAsg, sPar2, sPar3, sCont, sFld3, sFld2, sAug, vVar, vC, vNil, vCons, vOp, vB, vChain, vAnd, vOr, vNot, vAndV, vOrV, vNotV, vIf, vUn, vCB, vLst, vTup, vLstT, vCall, vCal, vMak, vMetA, vFld, vSl, vPart, vNoP, vLc, vLcT, vDc, vBM, vBM0, vGet1, vGet2, vItems, vRev, vLRg, vStar, vDZip, iRg1, iRg2, iRgD, iAny, iEnm, iItm, iVal, vDict0, vDict0T, vDict0N, vDisp, vDispT, vPairs,
  List.getElem?_cons_zero, List.getElem?_cons_succ, List.set_cons_zero, List.set_cons_succ, wipe3, endsOf_rt, endsOf_nx, gLt, gLe, gGt, gGe, L3.gSub, gMul, gMod, gDiv, gPow, g2I, g2I0, gN, gT, gGo, Option.bind_some, gAdd_ii, gAdd_ss, gNeg_i, gMax2_ii, gMin2_ii, gLen_s, gEqS_ii, gEqS_ss, gEqS_bb, gNeS_ii, gNeS_ss, gIsN_n, gNotN_n, gSl_s, isNonD, if_true, if_false, Bool.false_eq_true, Bool.not_true, Bool.not_false])
end C1
namespace C1
open PySem PySem.Spec L2 L3 C2
local macro_rules | `(tactic| walk_at "l3") => `(tactic| simp only [sSeq, sNext, sIf, sRet, sRetN, sSet, sDrop, sSub, sFor, sAsg, sPar2, sPar3, sCont, sFld3, sFld2, sAug, vVar, vC, vNil, vCons, vOp, vB, vChain, vAnd, vOr, vNot, vAndV, vOrV, vNotV, vIf, vUn, vCB, vLst, vTup, vLstT, vCall, vCal, vMak, vMetA, vFld, vSl, vPart, vNoP, vLc, vLcT, vDc, vBM, vBM0, vGet1, vGet2, vItems, vRev, vLRg, vStar, vDZip, iRg1, iRg2, iRgD, iAny, iEnm, iItm, iVal, vDict0, vDict0T, vDict0N, vDisp, vDispT, vPairs,
  List.getElem?_cons_zero, List.getElem?_cons_succ, List.set_cons_zero, List.set_cons_succ, wipe3, endsOf_rt, endsOf_nx, gLt, gLe, gGt, gGe, L3.gSub, gMul, gMod, gDiv, gPow, g2I, g2I0, gN, gT, gGo, Option.bind_some, gAdd_ii, gAdd_ss, gNeg_i, gMax2_ii, gMin2_ii, gLen_s, gEqS_ii, gEqS_ss, gEqS_bb, gNeS_ii, gNeS_ss, gIsN_n, gNotN_n, gSl_s, isNonD, if_true, if_false, Bool.false_eq_true, Bool.not_true, Bool.not_false])
end C1
namespace C1
open PySem PySem.Spec L2 L3 C2
local macro_rules | `(tactic| walk_at "l3") => `(tactic| simp only [sSeq, sNext, sIf, sRet, sRetN, sSet, sDrop, sSub, sFor, sAsg, sPar2, sPar3, sCont, sFld3, sFld2, sAug, vVar, vC, vNil, vCons, vOp, vB, vChain, vAnd, vOr, vNot, vAndV, vOrV, vNotV, vIf, vUn, vCB, vLst, vTup, vLstT, vCall, vCal, vMak, vMetA, vFld, vSl, vPart, vNoP, vLc, vLcT, vDc, vBM, vBM0, vGet1, vGet2, vItems, vRev, vLRg, vStar, vDZip, iRg1, iRg2, iRgD, iAny, iEnm, iItm, iVal, vDict0, vDict0T, vDict0N, vDisp, vDispT, vPairs,
  List.getElem?_cons_zero, List.getElem?_cons_succ, List.set_cons_zero, List.set_cons_succ, wipe3, endsOf_rt, endsOf_nx, gLt, gLe, gGt, gGe, L3.gSub, gMul, gMod, gDiv, gPow, g2I, g2I0, gN, gT, gGo, Option.bind_some, gAdd_ii, gAdd_ss, gNeg_i, gMax2_ii, gMin2_ii, gLen_s, gEqS_ii, gEqS_ss, gEqS_bb, gNeS_ii, gNeS_ss, gIsN_n, gNotN_n, gSl_s, isNonD, if_true, if_false, Bool.false_eq_true, Bool.not_true, Bool.not_false])
end C1
namespace C1
open PySem PySem.Spec L2 L3 C2
local macro_rules | `(tactic| walk_at "l3") => `(tactic| simp only [sSeq, sNext, sIf, sRet, sRetN, sSet, sDrop, sSub, sFor, sAsg, sPar2, sPar3, sCont, sFld3, sFld2, sAug, vVar, vC, vNil, vCons, vOp, vB, vChain, vAnd, vOr, vNot, vAndV, vOrV, vNotV, vIf, vUn, vCB, vLst, vTup, vLstT, vCall, vCal, vMak, vMetA, vFld, vSl, vPart, vNoP, vLc, vLcT, vDc, vBM, vBM0, vGet1, vGet2, vItems, vRev, vLRg, vStar, vDZip, iRg1, iRg2, iRgD, iAny, iEnm, iItm, iVal, vDict0, vDict0T, vDict0N, vDisp, vDispT, vPairs,
  List.getElem?_cons_zero, List.getElem?_cons_succ, List.set_cons_zero, List.set_cons_succ, wipe3, endsOf_rt, endsOf_nx, gLt, gLe, gGt, gGe, L3.gSub, gMul, gMod, gDiv, gPow, g2I, g2I0, gN, gT, gGo, Option.bind_some, gAdd_ii, gAdd_ss, gNeg_i, gMax2_ii, gMin2_ii, gLen_s, gEqS_ii, gEqS_ss, gEqS_bb, gNeS_ii, gNeS_ss, gIsN_n, gNotN_n, gSl_s, isNonD, if_true, if_false, Bool.false_eq_true, Bool.not_true, Bool.not_false])
end C1
namespace C1
open PySem PySem.Spec L2 L3 C2
local macro_rules | `(tactic| walk_at "l3") => `(tactic| simp only [sSeq, sNext, sIf, sRet, sRetN, sSet, sDrop, sSub, sFor, sAsg, sPar2, sPar3, sCont, sFld3, sFld2, sAug, vVar, vC, vNil, vCons, vOp, vB, vChain, vAnd, vOr, vNot, vAndV, vOrV, vNotV, vIf, vUn, vCB, vLst, vTup, vLstT, vCall, vCal, vMak, vMetA, vFld, vSl, vPart, vNoP, vLc, vLcT, vDc, vBM, vBM0, vGet1, vGet2, vItems, vRev, vLRg, vStar, vDZip, iRg1, iRg2, iRgD, iAny, iEnm, iItm, iVal, vDict0, vDict0T, vDict0N, vDisp, vDispT, vPairs,
  List.getElem?_cons_zero, List.getElem?_cons_succ, List.set_cons_zero, List.set_cons_succ, wipe3, endsOf_rt, endsOf_nx, gLt, gLe, gGt, gGe, L3.gSub, gMul, gMod, gDiv, gPow, g2I, g2I0, gN, gT, gGo, Option.bind_some, gAdd_ii, gAdd_ss, gNeg_i, gMax2_ii, gMin2_ii, gLen_s, gEqS_ii, gEqS_ss, gEqS_bb, gNeS_ii, gNeS_ss, gIsN_n, gNotN_n, gSl_s, isNonD, if_true, if_false, Bool.false_eq_true, Bool.not_true, Bool.not_false])
def sp_need_alike_events : Sp3 := fun ds μ R => ∃ marks t1 l1 t2 l2, ds = [planD marks t1 l1, planD marks t2 l2] ∧ EvOk marks ∧ R .non μ
def t_need_alike_events_2 : TS3 := (sIf (vB (vOp gNeD (vMetA "Plan" "events" 0 sp_Plan_events (vVar 0) vNil) (vMetA "Plan" "events" 0 sp_Plan_events (vVar 1) vNil))) sNever sNext)
def t_need_alike_events_1 : TS3 := sSeq (sDrop (vCall 1 sp_need_plan (vCons (vVar 1) vNil))) t_need_alike_events_2
def t_need_alike_events : TS3 := sSeq (sDrop (vCall 1 sp_need_plan (vCons (vVar 0) vNil))) t_need_alike_events_1
theorem pure_need_alike_events (ds : List D) (μ : Mu) (R : DK) (hl : ds.length = 2) (h : sp_need_alike_events ds μ R) : t_need_alike_events (endsOf R) (start3 ["one", "other"] ds) μ := by
  obtain ⟨marks, t1, l1, t2, l2, rfl, ok, h⟩ := h
  show t_need_alike_events (endsOf R) [some (planD marks t1 l1), some (planD marks t2 l2)] μ
  unfold t_need_alike_events t_need_alike_events_1 t_need_alike_events_2
  walk_at "l3"
  refine ⟨rfl, marks, t1, l1, rfl, rfl, marks, t2, l2, rfl, planF marks t1 l1, rfl, rfl, rfl, marks, t1, l1, rfl, planF marks t2 l2, rfl, rfl, rfl, marks, t2, l2, rfl, ?_⟩
  have sm : SeqAt.shaped (.list (marks.map PyData.str)) = true := (Sm.list (k := 0) (B := 8) (n := 8) (fun p hp => by
    obtain ⟨w, hw, rfl⟩ := List.mem_map.mp hp
    have := ok.nm w hw
    exact Sm.str (nameT_asc this) (nameT_len this)) (by simpa using ok.le)).shaped (by decide)
  refine ⟨_, _, .lst (sh_sds marks), .lst (sh_sds marks), sm, sm, ?_⟩
  have eqv : PyData.eqv (.list (marks.map PyData.str)) (.list (marks.map PyData.str)) = true := by
    show PyData.eqvAll _ _ = true
    rw [eqv_sds]; exact decide_eq_true rfl
  simp only [eqv, Bool.not_true, Bool.false_eq_true, if_false]
  exact fin_now h
structure Covers (marks : List Str) (t1 : List Tie) (l1 : Lims) (t2 : List Tie) (l2 : Lims) : Prop where
  one : PlOk marks t1 l1
  two : PlOk marks t2 l2
  t : ∀ t ∈ t2, leO ((plT marks t1 l1).L (some t.1) (some t.2.1)) t.2.2
  l : ∀ p ∈ l2, leO ((plT marks t1 l1).L none (some p.1)) p.2
end C1
namespace C1
open PySem PySem.Spec L2 L3 C2
local macro_rules | `(tactic| walk_at "l3") => `(tactic| simp only [sSeq, sNext, sIf, sRet, sRetN, sSet, sDrop, sSub, sFor, sAsg, sPar2, sPar3, sCont, sFld3, sFld2, sAug, vVar, vC, vNil, vCons, vOp, vB, vChain, vAnd, vOr, vNot, vAndV, vOrV, vNotV, vIf, vUn, vCB, vLst, vTup, vLstT, vCall, vCal, vMak, vMetA, vFld, vSl, vPart, vNoP, vLc, vLcT, vDc, vBM, vBM0, vGet1, vGet2, vItems, vRev, vLRg, vStar, vDZip, iRg1, iRg2, iRgD, iAny, iEnm, iItm, iVal, vDict0, vDict0T, vDict0N, vDisp, vDispT, vPairs,
  List.getElem?_cons_zero, List.getElem?_cons_succ, List.set_cons_zero, List.set_cons_succ, wipe3, endsOf_rt, endsOf_nx, gLt, gLe, gGt, gGe, L3.gSub, gMul, gMod, gDiv, gPow, g2I, g2I0, gN, gT, gGo, Option.bind_some, gAdd_ii, gAdd_ss, gNeg_i, gMax2_ii, gMin2_ii, gLen_s, gEqS_ii, gEqS_ss, gEqS_bb, gNeS_ii, gNeS_ss, gIsN_n, gNotN_n, gSl_s, isNonD, if_true, if_false, Bool.false_eq_true, Bool.not_true, Bool.not_false])
def cnK (evs : List Str) (f : Str → D) : List (Key × D) := evs.map fun o => ((.inr o : Key), f o)
def ctK (evs : List Str) (f : Str → Int) : List (Key × D) := cnK evs fun o => .int (f o)
theorem val_cnK {f : Str → D} {e : Str} : ∀ {evs : List Str}, e ∈ evs → valD (cnK evs f) (.inr e) = some (f e)
  | a :: r, h => by
    unfold valD cnK
    rw [List.map_cons, List.find?_cons]
    by_cases q : a = e
    · subst q; simp
    · rcases List.mem_cons.mp h with rfl | h
      · exact absurd rfl q
      · have := val_cnK (f := f) h
        have q' : ¬ ((Sum.inr a : Key) = Sum.inr e) := fun z => q (Sum.inr.inj z)
        simp only [q', decide_false]
        exact this
theorem put_cnK {f : Str → D} {e : Str} {d : D} {evs : List Str} (h : e ∉ evs) : putD (cnK evs f) (.inr e) d = cnK evs f ++ [(.inr e, d)] := by
  unfold putD
  rw [if_neg]
  intro q
  rw [List.any_eq_true] at q
  obtain ⟨p, hp, q⟩ := q
  obtain ⟨a, ha, rfl⟩ := List.mem_map.mp hp
  have ea : a = e := Sum.inr.inj (of_decide_eq_true q)
  exact h (ea ▸ ha)
theorem cnK_keys (evs : List Str) (f : Str → D) : (cnK evs f).map (·.1) = evs.map Sum.inr := by simp [cnK]
theorem cnK_snoc (evs : List Str) (f : Str → D) (e : Str) : cnK (evs ++ [e]) f = cnK evs f ++ [(.inr e, f e)] := by simp [cnK]
theorem dc_cnt {Pm : Mu → Prop} {μ : Mu} {δ : St3} {R : Dic → Mu → Prop} {g : TG3} {tk tv : TE3} (hP : Pm μ) (f : Str → D) : ∀ (todo done : List Str), (done ++ todo).Nodup → (done ++ todo).length ≤ 100 →
    (∀ o ∈ todo, ∃ δ', g (.str o) δ = some δ' ∧ (∀ R' : DK, R' (.str o) μ → tk δ' μ R') ∧ ∀ R' : DK, R' (f o) μ → tv δ' μ R') → R (.k (cnK (done ++ todo) f)) μ →
    dcW Pm g vYes tk tv δ R (sds todo) (.k (cnK done f)) μ
  | [], done, _, _, _, k => ⟨hP, by simpa using k⟩
  | e :: r, done, nd, hn, hs, k => by
    have hsl : sizeLine = 16777216 := by decide
    have ne : e ∉ done := by
      rw [List.nodup_append] at nd
      exact fun h => nd.2.2 e h e List.mem_cons_self rfl
    have rec_ := dc_cnt hP f r (done ++ [e]) (by simpa using nd) (by simpa using hn) (fun o ho => hs o (List.mem_cons_of_mem _ ho)) (by simpa using k)
    obtain ⟨δ', eg, h1, h2⟩ := hs e List.mem_cons_self
    refine ⟨hP, ?_, ?_⟩
    · show (cnK done f).length < _
      simp only [cnK, List.length_map]
      simp only [List.length_append] at hn
      omega
    rw [eg]
    simp only [vYes, if_true]
    refine h1 _ (h2 _ ⟨.k (putD (cnK done f) (.inr e) (f e)), rfl, ?_⟩)
    rw [put_cnK ne, ← cnK_snoc]
    exact rec_
structure Mom (marks : List Str) (ties : List Tie) (caps : Lims) (c : Str → Int) : Prop where
  p : ∀ e ∈ marks, 0 ≤ c e
  t : ∀ t ∈ ties, c t.2.1 ≤ c t.1 + t.2.2
  l : ∀ q ∈ caps, c q.1 ≤ q.2
def lawC (c : Str → Int) (e : Str) : Int := if e = "" then 0 else c e
theorem mom_walk {marks : List Str} {ties : List Tie} {caps : Lims} {c : Str → Int} (ok : PlOk marks ties caps) (m : Mom marks ties caps c) {a b : Str} {w : Int} {k : Nat} (h : Wk (lawRows marks ties caps) a b w k) : lawC c b ≤ lawC c a + w := by
  induction h with
  | nil a => omega
  | cons e _ ih =>
    rename_i a b c' w v k _
    have nn : ∀ x ∈ marks, lawC c x = c x := fun x hx => if_neg (name_ne (ok.e.nm x hx))
    rcases mem_lawRows.mp e with h | ⟨p, hp, e⟩ | ⟨x, hx, e⟩
    · have := m.t _ h
      simp only at this
      rw [nn a (ok.t.a _ h)]
      rw [nn b (ok.t.b _ h)] at ih
      omega
    · have := m.l p hp
      cases e
      rw [nn _ (ok.l.a _ hp)] at ih
      have e0 : lawC c "" = 0 := if_pos rfl
      rw [e0]
      omega
    · cases e
      have := m.p _ hx
      rw [nn _ hx]
      have e0 : lawC c "" = 0 := if_pos rfl
      rw [e0] at ih
      omega
def leastC (marks : List Str) (ties : List Tie) (caps : Lims) (e : Str) (k : Int) (o : Str) : Int := max 0 (k - (farL marks ties caps o e).getD k)
theorem least_self {marks : List Str} {ties : List Tie} {caps : Lims} (ok : PlOk marks ties caps) {e : Str} {k : Int} (he : e ∈ marks) (hk : 0 ≤ k) : leastC marks ties caps e k e = k := by
  have d := law_isD ok e e
  obtain ⟨v, hv, l⟩ := d.least 0 0 (.nil e)
  obtain ⟨j, wk⟩ := d.sound v hv
  have hp : ∀ r ∈ lawRows marks ties caps, 0 ≤ r.2.2 := fun r hr => by
    rcases mem_lawRows.mp hr with h | ⟨p, hp, rfl⟩ | ⟨x, hx, rfl⟩
    · exact ok.t.c _ h
    · exact ok.l.c _ hp
    · exact Int.le_refl _
  have := wk.pos hp
  unfold leastC
  rw [hv]
  show max 0 (k - v) = k
  omega
theorem least_mom {marks : List Str} {ties : List Tie} {caps : Lims} (ok : PlOk marks ties caps) {e : Str} {k : Int} (he : e ∈ marks) (hm : ∀ m, farL marks ties caps "" e = some m → k ≤ m) : Mom marks ties caps (leastC marks ties caps e k) := by
  refine ⟨fun x hx => ?_, fun t ht => ?_, fun q hq => ?_⟩
  · unfold leastC; omega
  · have lag := ok.t.c t ht
    have db := law_isD ok t.2.1 e
    have da := law_isD ok t.1 e
    unfold leastC
    cases hb : farL marks ties caps t.2.1 e with
    | none =>
      simp only [Option.getD_none]
      omega
    | some v =>
      obtain ⟨j, wk⟩ := db.sound v hb
      obtain ⟨u, hu, l⟩ := da.least _ _ (.cons (mem_lawRows.mpr (.inl ht)) wk)
      rw [hu]
      have l' : u ≤ t.2.2 + v := l
      simp only [Option.getD_some]
      omega
  · have lim := ok.l.c q hq
    have db := law_isD ok q.1 e
    have d0 := law_isD ok "" e
    unfold leastC
    cases hb : farL marks ties caps q.1 e with
    | none =>
      simp only [Option.getD_none]
      omega
    | some v =>
      obtain ⟨j, wk⟩ := db.sound v hb
      obtain ⟨u, hu, l⟩ := d0.least _ _ (.cons (mem_lawRows.mpr (.inr (.inl ⟨q, hq, rfl⟩))) wk)
      have := hm u hu
      simp only [Option.getD_some]
      omega
theorem least_le {marks : List Str} {ties : List Tie} {caps : Lims} {c : Str → Int} (ok : PlOk marks ties caps) (m : Mom marks ties caps c) {e o : Str} {k : Int} (he : e ∈ marks) (ho : o ∈ marks) (hk : k ≤ c e) : leastC marks ties caps e k o ≤ c o := by
  have nn : ∀ x ∈ marks, lawC c x = c x := fun x hx => if_neg (name_ne (ok.e.nm x hx))
  have p := m.p o ho
  unfold leastC
  cases hb : farL marks ties caps o e with
  | none => simp only [Option.getD_none]; omega
  | some v =>
    obtain ⟨j, wk⟩ := (law_isD ok o e).sound v hb
    have := mom_walk ok m wk
    rw [nn e he, nn o ho] at this
    simp only [Option.getD_some]
    omega
theorem least_bd {marks : List Str} {ties : List Tie} {caps : Lims} (ok : PlOk marks ties caps) {e o : Str} {k : Int} (hk : 0 ≤ k) : 0 ≤ leastC marks ties caps e k o ∧ leastC marks ties caps e k o ≤ k := by
  have hp : ∀ r ∈ lawRows marks ties caps, 0 ≤ r.2.2 := fun r hr => by
    rcases mem_lawRows.mp hr with h | ⟨p, hp, rfl⟩ | ⟨x, hx, rfl⟩
    · exact ok.t.c _ h
    · exact ok.l.c _ hp
    · exact Int.le_refl _
  unfold leastC
  cases hb : farL marks ties caps o e with
  | none => simp only [Option.getD_none]; omega
  | some v =>
    obtain ⟨j, wk⟩ := (law_isD ok o e).sound v hb
    have := wk.pos hp
    simp only [Option.getD_some]
    omega
def dOut (tr : Bool) (kvs : List (Key × D)) (μ : Mu) (R : DK) : Prop := if tr then ∀ q, μ q = none → R (.ref q) (mset μ q (.dct kvs)) else R (.dct kvs) μ
def tLeast (evs : List Str) (ties : List Tie) (lims : Lims) (e : Str) (k : Int) (o : Str) : Int := max 0 (k - ((plT evs ties lims).L (some o) (some e)).getD k)
def overM (m : Option Int) (k : Int) : Bool := match m with
  | some v => decide (v < k)
  | none => false
def sp_Table_least : Sp3 := fun ds μ R => ∃ (tr : Bool) (evs : List Str) (ties : List Tie) (lims : Lims) (kl ks : List (LK × D)) (e : Str) (k : Int), ds = [tabD evs kl ks, .str e, .int k] ∧ EvOk evs ∧ TabOk evs ties lims kl ks ∧ e ∈ evs ∧ 0 ≤ k ∧
  if overM ((plT evs ties lims).L none (some e)) k then R .non μ else dOut tr (ctK evs (tLeast evs ties lims e k)) μ R
def t_Table_least_3 : TS3 := (sRet (vDc false true (iAny (vFld "Table" "row_of_events" (vVar 0))) (gN 4) vYes (vVar 4) (vCB gMax2 (vCons (vC (.int 0)) (vCons (vOp gSub (vVar 2) (vGet2 (vFld "Table" "leads" (vVar 0)) (vTup (vCons (vVar 4) (vCons (vVar 1) vNil))) (vVar 2))) vNil))) [4]))
def t_Table_least_2 : TS3 := sSeq (sIf (vAnd (vB (vOp gNotN (vVar 3) (vC .non))) (vB (vOp gGt (vVar 2) (vVar 3)))) (sRet (vC .non)) sNext) t_Table_least_3
def t_Table_least_1 : TS3 := sSeq (sIf (vNot (vB (vCall 1 sp_is_count (vCons (vVar 2) vNil)))) sNever sNext) t_Table_least_2
def t_Table_least : TS3 := sSeq (sSet 3 (vMetA "Table" "most" 1 sp_Table_most (vVar 0) (vCons (vVar 1) vNil))) t_Table_least_1
theorem fin_dOut {tr : Bool} {kvs : List (Key × D)} {μ : Mu} {R : DK} (h : dOut tr kvs μ R) : ∀ q, μ q = none → fin R (.ref q) (mset μ q (.dct kvs)) := fun q hq => by
  cases tr with
  | true => exact fin_now (h q hq)
  | false => exact fin_dct (Le.mset_new hq) mset_same hq h
theorem pure_Table_least (ds : List D) (μ : Mu) (R : DK) (hl : ds.length = 3) (h : sp_Table_least ds μ R) : t_Table_least (endsOf R) (start3 ["self", "event", "count", "most", "other"] ds) μ := by
  obtain ⟨tr, evs, ties, lims, kl, ks, e, k, rfl, ok, tk, he, hk, h⟩ := h
  have hsl : sizeLine = 16777216 := by decide
  show t_Table_least (endsOf R) [some (tabD evs kl ks), some (.str e), some (.int k), none, none] μ
  unfold t_Table_least t_Table_least_1
  walk_at "l3"
  refine ⟨tabF evs kl ks, rfl, rfl, rfl, evs, ties, lims, kl, ks, e, rfl, ok, tk, he, ?_⟩
  refine ⟨rfl, .int k, "int", rfl, rfl, ?_⟩
  have hc : cntD (.int k) = true := decide_eq_true hk
  simp only [hc, Bool.not_true, Bool.false_eq_true, if_false]
  unfold t_Table_least_2
  have rest : overM ((plT evs ties lims).L none (some e)) k = false → t_Table_least_3 (endsOf R) [some (tabD evs kl ks), some (.str e), some (.int k), some (optD ((plT evs ties lims).L none (some e))), none] μ := fun ho => by
    rw [ho] at h
    simp only [Bool.false_eq_true, if_false] at h
    unfold t_Table_least_3
    walk_at "l3"
    refine ⟨tabF evs kl ks, .lst (sds evs), rfl, rfl, any_lst (xs := sds evs) rfl fun Pm hP => ?_⟩
    refine dc_cnt (hP μ rfl) (fun o => .int (tLeast evs ties lims e k o)) evs [] (by simpa using ok.nd) (by have := ok.le; simp; omega) (fun o ho' => ?_) ?_
    · refine ⟨_, rfl, fun R' h' => h', fun R' h' => ?_⟩
      walk_at "l3"
      refine ⟨tabF evs kl ks, .dcn kl, rfl, rfl, rfl, by rw [hsl]; show 2 ≤ _; decide, .n kl, _, rfl, get_n tk.l (some o) (some e), ?_⟩
      unfold tLeast at h'
      cases hv : (plT evs ties lims).L (some o) (some e) with
      | none => rw [hv] at h'; exact h'
      | some v => rw [hv] at h'; exact h'
    · rw [List.nil_append]
      exact fin_dOut h
  walk_at "l3"
  cases hv : (plT evs ties lims).L none (some e) with
  | none =>
    rw [hv] at rest
    exact rest rfl
  | some m =>
    rw [hv] at rest h
    show (if decide (m < k) = true then fin R .non μ else t_Table_least_3 _ _ _)
    by_cases hlt : m < k
    · have h' : R .non μ := by simpa [overM, hlt] using h
      simp only [hlt, decide_true, if_true]
      exact fin_now h'
    · simp only [hlt, decide_false, Bool.false_eq_true, if_false]
      exact rest (decide_eq_false hlt)
end C1
namespace C1
open PySem PySem.Spec L2 L3 C2 PyProof.Rows
local macro_rules | `(tactic| walk_at "l3") => `(tactic| simp only [sSeq, sNext, sIf, sRet, sRetN, sSet, sDrop, sSub, sFor, sAsg, sPar2, sPar3, sCont, sFld3, sFld2, sAug, vVar, vC, vNil, vCons, vOp, vB, vChain, vAnd, vOr, vNot, vAndV, vOrV, vNotV, vIf, vUn, vCB, vLst, vTup, vLstT, vCall, vCal, vMak, vMetA, vFld, vSl, vPart, vNoP, vLc, vLcT, vDc, vBM, vBM0, vGet1, vGet2, vItems, vRev, vLRg, vStar, vDZip, iRg1, iRg2, iRgD, iAny, iEnm, iItm, iVal, vDict0, vDict0T, vDict0N, vDisp, vDispT, vPairs,
  List.getElem?_cons_zero, List.getElem?_cons_succ, List.set_cons_zero, List.set_cons_succ, wipe3, endsOf_rt, endsOf_nx, gLt, gLe, gGt, gGe, L3.gSub, gMul, gMod, gDiv, gPow, g2I, g2I0, gN, gT, gGo, Option.bind_some, gAdd_ii, gAdd_ss, gNeg_i, gMax2_ii, gMin2_ii, gLen_s, gEqS_ii, gEqS_ss, gEqS_bb, gNeS_ii, gNeS_ss, gIsN_n, gNotN_n, gSl_s, isNonD, if_true, if_false, Bool.false_eq_true, Bool.not_true, Bool.not_false])
theorem rising_pw : ∀ (l : List Str) (p : Str), risingS p l = true → (p :: l).Pairwise fun a b => a.cps.toList ≤ b.cps.toList
  | [], p, _ => by simp
  | x :: r, p, h => by
    have h' : (!ltCps x.cps.toList p.cps.toList && risingS x r) = true := h
    rw [Bool.and_eq_true, Bool.not_eq_true', ltCps_eq, decide_eq_false_iff_not] at h'
    have ih := rising_pw r x h'.2
    refine List.pairwise_cons.mpr ⟨fun y hy => ?_, ih⟩
    rcases List.mem_cons.mp hy with rfl | hy
    · exact h'.1
    · exact List.le_trans (show p.cps.toList ≤ x.cps.toList from h'.1) ((List.pairwise_cons.mp ih).1 y hy)
theorem sorted_pw {l : List Str} (h : sortedS l = true) : l.Pairwise fun a b => a.cps.toList ≤ b.cps.toList := by
  cases l with
  | nil => exact .nil
  | cons x r => exact rising_pw r x h
theorem sorted_one : ∀ {l r : List Str}, (l.Pairwise fun a b => a.cps.toList ≤ b.cps.toList) → (r.Pairwise fun a b => a.cps.toList ≤ b.cps.toList) → l.Perm r → l = r
  | [], r, _, _, p => (p.nil_eq)
  | a :: l, [], _, _, p => by simpa using p.length_eq
  | a :: l, b :: r, h1, h2, p => by
    have le1 : a.cps.toList ≤ b.cps.toList := by
      have : b ∈ a :: l := p.symm.mem_iff.mp List.mem_cons_self
      rcases List.mem_cons.mp this with e | e
      · rw [e]; exact List.le_refl _
      · exact (List.pairwise_cons.mp h1).1 b e
    have le2 : b.cps.toList ≤ a.cps.toList := by
      have : a ∈ b :: r := p.mem_iff.mp List.mem_cons_self
      rcases List.mem_cons.mp this with e | e
      · rw [e]; exact List.le_refl _
      · exact (List.pairwise_cons.mp h2).1 a e
    have e : a = b := L3.ext_l (List.le_antisymm le1 le2)
    subst e
    rw [sorted_one (List.pairwise_cons.mp h1).2 (List.pairwise_cons.mp h2).2 p.cons_inv]
theorem sorted_uniq {l r m : List Str} (h1 : sortedS l = true) (h2 : sortedS r = true) (p1 : l.Perm m) (p2 : r.Perm m) : l = r := sorted_one (sorted_pw h1) (sorted_pw h2) (p1.trans p2.symm)
theorem eqs_nil6 {μ : Mu} {x : D} {xs : List D} (h : lstOf μ x = some xs) : Eqs μ 1 x (.lst []) (decide (xs = [])) := by
  cases xs with
  | nil => exact Eqs.lst (n := 0) (e := fun _ => true) h rfl rfl (fun j a b e => by simp at e)
  | cons a r => exact Eqs.len h rfl (by simp)
theorem eqs_strs {μ : Mu} {x y : D} {l : List Str} (h : lstOf μ x = some (sds l)) (h' : lstOf μ y = some (sds l)) : Eqs μ 1 x y true := by
  have := Eqs.lst (n := 0) (e := fun _ => true) h h' rfl (fun j a b e1 e2 => by
    rw [e1] at e2
    cases e2
    obtain ⟨s, _, rfl⟩ := sds_get e1
    have := Eqs.flat (μ := μ) (n := 0) (x := .str s) (y := .str s) rfl rfl
    simpa [eqD] using this)
  rw [List.all_eq_true.mpr (fun _ _ => rfl)] at this
  exact this
theorem val_cnK_some {f : Str → D} {evs : List Str} {k : Key} {d : D} (h : valD (cnK evs f) k = some d) : ∃ e ∈ evs, k = .inr e ∧ d = f e := by
  unfold valD at h
  cases hf : (cnK evs f).find? fun kv => decide (kv.1 = k) with
  | none => rw [hf] at h; cases h
  | some p =>
    rw [hf] at h
    have hm := List.mem_of_find?_eq_some hf
    have hp := List.find?_some hf
    obtain ⟨e, he, rfl⟩ := List.mem_map.mp hm
    cases h
    exact ⟨e, he, (of_decide_eq_true hp).symm, rfl⟩
theorem eqs_ct6 {μ : Mu} {x y : D} {evs : List Str} {f g : Str → Int} (h : dctOf μ x = some (ctK evs f)) (h' : dctOf μ y = some (ctK evs g)) : Eqs μ 1 x y (evs.all fun e => f e == g e) := by
  have := Eqs.dct (n := 0) (e := fun k => match k with | .inr e => f e == g e | .inl _ => true) h h' (fun k a b e1 e2 => by
    obtain ⟨e, he, rfl, rfl⟩ := val_cnK_some e1
    rw [ctK, val_cnK he] at e2
    cases e2
    exact Eqs.flat rfl rfl)
  have e : ((ctK evs f).length == (ctK evs g).length && (ctK evs f).all fun p => (valD (ctK evs g) p.1).isSome && (match p.1 with | .inr e => f e == g e | .inl _ => true)) = evs.all fun e => f e == g e := by
    have l : ((ctK evs f).length == (ctK evs g).length) = true := by simp [ctK, cnK]
    rw [l, Bool.true_and]
    unfold ctK cnK
    rw [List.all_map, Bool.eq_iff_iff, List.all_eq_true, List.all_eq_true]
    refine forall_congr' fun e => ⟨fun q he => ?_, fun q he => ?_⟩
    · have := q he
      simp only [Function.comp] at this
      rw [Bool.and_eq_true] at this
      exact this.2
    · simp only [Function.comp]
      rw [show valD (evs.map fun o => ((.inr o : Key), D.int (g o))) (.inr e) = some (.int (g e)) from val_cnK (f := fun o => .int (g o)) he]
      exact q he
  rw [e] at this
  exact this
theorem dic_dct6 {μ : Mu} {x : D} {kvs : List (Key × D)} (h : dctOf μ x = some kvs) : dicOf μ x = some (.k kvs) := by
  cases x with
  | dct kvs => cases h; rfl
  | ref a =>
    cases hm : μ a with
    | none => simp only [dctOf, hm] at h; cases h
    | some o =>
      cases o with
      | dct kvs => simp only [dctOf, hm] at h; cases h; simp only [dicOf, hm]
      | _ => simp only [dctOf, hm] at h; cases h
  | _ => cases h
theorem at_ct {μ : Mu} {x : D} {evs : List Str} {f : Str → Int} {e : Str} {R : DK} (h : dctOf μ x = some (ctK evs f)) (he : e ∈ evs) (k : R (.int (f e)) μ) : gAt x (.str e) μ R :=
  at_d (dic_dct6 h) (by show some (valD _ _) = _; rw [ctK, val_cnK he]) k
theorem ct_nodup {marks : List Str} (nd : marks.Nodup) (f : Str → D) : ((cnK marks f).map (·.1)).Nodup := by
  rw [cnK_keys]
  exact List.Pairwise.map _ (fun a b h q => h (Sum.inr.inj q)) nd
def sp__law_least : Sp3 := fun ds μ R => ∃ marks ties caps kvs e k, ds = [mdD marks ties caps, .dct kvs, .str e, .int k] ∧ PlOk marks ties caps ∧ LdOk marks ties caps kvs ∧ e ∈ marks ∧ R (.dct (ctK marks (leastC marks ties caps e k))) μ
def t__law_least : TS3 := (sRet (vCB (gDict false) (vCons (vLc (iAny (vOp gAt (vVar 0) (vC (.int 0)))) (gN 4) vYes (vTup (vCons (vVar 4) (vCons (vCB gMax2 (vCons (vC (.int 0)) (vCons (vOp gSub (vVar 3) (vGet2 (vOp gAt (vVar 1) (vVar 4)) (vVar 2) (vVar 3))) vNil))) vNil))) [4]) vNil)))
theorem pure__law_least (ds : List D) (μ : Mu) (R : DK) (hl : ds.length = 4) (h : sp__law_least ds μ R) : t__law_least (endsOf R) (start3 ["_law_model_here", "_law_leads_here", "_law_event", "_law_count", "_law_one"] ds) μ := by
  obtain ⟨marks, ties, caps, kvs, e, k, rfl, ok, ld, he, h⟩ := h
  have hsl : sizeLine = 16777216 := by decide
  have l1 := ok.e.le
  show t__law_least (endsOf R) [some (mdD marks ties caps), some (.dct kvs), some (.str e), some (.int k), none] μ
  unfold t__law_least
  walk_at "l3"
  refine at_l (xs := modelL marks _ _) (d := .lst (sds marks)) rfl (any_lst (xs := sds marks) rfl fun Pm hP => ?_)
  refine lcg_map D.str (fun o => pairD (.inr o, .int (leastC marks ties caps e k o))) (hP μ rfl) marks [] (fun o ho => ⟨_, rfl, fun R' h' => ?_⟩) (by simp; omega) ?_
  · obtain ⟨kb, hv, rep⟩ := ld o (List.mem_cons_of_mem _ ho)
    walk_at "l3"
    refine at_d (c := .k kvs) rfl (by show some (valD _ _) = _; rw [hv]) ⟨rfl, .k kb, _, rfl, get_k rep e, ?_⟩
    have e2 : leastC marks ties caps e k o = max 0 (k - (farL marks ties caps o e).getD k) := rfl
    rw [e2] at h'
    cases hf : farL marks ties caps o e with
    | none => rw [hf] at h'; exact ⟨by rw [hsl]; show 2 ≤ _; decide, h'⟩
    | some v => rw [hf] at h'; exact ⟨by rw [hsl]; show 2 ≤ _; decide, h'⟩
  · rw [List.nil_append]
    refine ⟨_, ctK marks (leastC marks ties caps e k), rfl, .inr ⟨ctK marks (leastC marks ties caps e k), ?_, ?_⟩, fin_now h⟩
    · simp [rdL, ctK, cnK, Function.comp_def]
    · rw [merge_new _ _ (by rw [List.nil_append]; exact ct_nodup ok.e.nd _), List.nil_append]
structure Sml (marks : List Str) (ties : List Tie) (caps : Lims) : Prop where
  p : PlOk marks ties caps
  t : ∀ t ∈ ties, t.2.2 ≤ 2
  c : ∀ q ∈ caps, q.2 ≤ 3
def smT (t : Tie) : Tie := (t.1, t.2.1, if t.2.2 < 3 then t.2.2 else 2)
def smC (p : Str × Int) : Str × Int := (p.1, min 3 p.2)
theorem small_ok {marks : List Str} {ties : List Tie} {caps : Lims} (ok : PlOk marks ties caps) : Sml marks (ties.map smT) (caps.map smC) := by
  refine ⟨⟨ok.e, ⟨by rw [List.length_map]; exact ok.t.le, fun t ht => ?_, fun t ht => ?_, fun t ht => ?_⟩, ⟨?_, fun p hp => ?_, fun p hp => ?_⟩, NoRing.sub ok.r fun t ht h0 => ?_⟩, fun t ht => ?_, fun q hq => ?_⟩
  · obtain ⟨u, hu, rfl⟩ := List.mem_map.mp ht; exact ok.t.a u hu
  · obtain ⟨u, hu, rfl⟩ := List.mem_map.mp ht; exact ok.t.b u hu
  · obtain ⟨u, hu, rfl⟩ := List.mem_map.mp ht
    have := ok.t.c u hu
    show 0 ≤ if u.2.2 < 3 then u.2.2 else 2
    split <;> omega
  · have : (caps.map smC).map (·.1) = caps.map (·.1) := by simp [smC, Function.comp_def]
    rw [this]; exact ok.l.nd
  · obtain ⟨u, hu, rfl⟩ := List.mem_map.mp hp; exact ok.l.a u hu
  · obtain ⟨u, hu, rfl⟩ := List.mem_map.mp hp
    have := ok.l.c u hu
    show 0 ≤ min 3 u.2
    omega
  · obtain ⟨u, hu, rfl⟩ := List.mem_map.mp ht
    have h0' : (if u.2.2 < 3 then u.2.2 else 2) = 0 := h0
    have hlt : u.2.2 < 3 := by
      by_cases q : u.2.2 < 3
      · exact q
      · rw [if_neg q] at h0'; cases h0'
    have : smT u = u := by unfold smT; rw [if_pos hlt]
    rw [this]; exact hu
  · obtain ⟨u, hu, rfl⟩ := List.mem_map.mp ht
    show (if u.2.2 < 3 then u.2.2 else 2) ≤ 2
    split <;> omega
  · obtain ⟨u, hu, rfl⟩ := List.mem_map.mp hq
    show min 3 u.2 ≤ 3
    omega
end C1
namespace C1
open PySem PySem.Spec L2 L3 C2 PyProof.Rows
local macro_rules | `(tactic| walk_at "l3") => `(tactic| simp only [sSeq, sNext, sIf, sRet, sRetN, sSet, sDrop, sSub, sFor, sAsg, sPar2, sPar3, sCont, sFld3, sFld2, sAug, vVar, vC, vNil, vCons, vOp, vB, vChain, vAnd, vOr, vNot, vAndV, vOrV, vNotV, vIf, vUn, vCB, vLst, vTup, vLstT, vCall, vCal, vMak, vMetA, vFld, vSl, vPart, vNoP, vLc, vLcT, vDc, vBM, vBM0, vGet1, vGet2, vItems, vRev, vLRg, vStar, vDZip, iRg1, iRg2, iRgD, iAny, iEnm, iItm, iVal, vDict0, vDict0T, vDict0N, vDisp, vDispT, vPairs,
  List.getElem?_cons_zero, List.getElem?_cons_succ, List.set_cons_zero, List.set_cons_succ, wipe3, endsOf_rt, endsOf_nx, gLt, gLe, gGt, gGe, L3.gSub, gMul, gMod, gDiv, gPow, g2I, g2I0, gN, gT, gGo, Option.bind_some, gAdd_ii, gAdd_ss, gNeg_i, gMax2_ii, gMin2_ii, gLen_s, gEqS_ii, gEqS_ss, gEqS_bb, gNeS_ii, gNeS_ss, gIsN_n, gNotN_n, gSl_s, isNonD, if_true, if_false, Bool.false_eq_true, Bool.not_true, Bool.not_false])
def momB (marks : List Str) (ties : List Tie) (caps : Lims) (c : Str → Int) : Bool := (marks.all fun e => decide (0 ≤ c e)) && ((caps.all fun q => decide (c q.1 ≤ q.2)) && ties.all fun t => decide (c t.2.1 ≤ c t.1 + t.2.2))
theorem momB_iff {marks : List Str} {ties : List Tie} {caps : Lims} {c : Str → Int} : momB marks ties caps c = true ↔ Mom marks ties caps c := by
  unfold momB
  rw [Bool.and_eq_true, Bool.and_eq_true, List.all_eq_true, List.all_eq_true, List.all_eq_true]
  constructor
  · rintro ⟨h1, h2, h3⟩
    exact ⟨fun e he => of_decide_eq_true (h1 e he), fun t ht => of_decide_eq_true (h3 t ht), fun q hq => of_decide_eq_true (h2 q hq)⟩
  · intro m
    exact ⟨fun e he => decide_eq_true (m.p e he), fun q hq => decide_eq_true (m.l q hq), fun t ht => decide_eq_true (m.t t ht)⟩
theorem filter_nil {α : Type} (p : α → Bool) (xs : List α) : decide (xs.filter (fun x => !p x) = []) = xs.all p := by
  rw [Bool.eq_iff_iff, decide_eq_true_eq, List.all_eq_true, List.filter_eq_nil_iff]
  exact forall_congr' fun x => forall_congr' fun _ => by simp
def sp__law_is_moment : Sp3 := fun ds μ R => ∃ marks ties caps y f, ds = [mdD marks ties caps, y] ∧ PlOk marks ties caps ∧ dctOf μ y = some (ctK marks f) ∧ R (.bl (momB marks ties caps f)) μ
def t__law_is_moment_3 : TS3 := (sRet (vOp gEqX (vLc (iAny (vVar 3)) (gN 6) (vB (vOp gGt (vOp gAt (vVar 1) (vOp gAt (vVar 6) (vC (.int 1)))) (vOp gAdd (vOp gAt (vVar 1) (vOp gAt (vVar 6) (vC (.int 0)))) (vOp gAt (vVar 6) (vC (.int 2)))))) (vVar 6) [6]) (vLst vNil)))
def t__law_is_moment_2 : TS3 := sSeq (sIf (vB (vOp gNeX (vLc (iAny (vVar 4)) (gN 5) (vB (vOp gGt (vOp gAt (vVar 1) (vVar 5)) (vOp gAt (vVar 4) (vVar 5)))) (vVar 5) [5]) (vLst vNil))) (sRet (vC (.bl false))) sNext) t__law_is_moment_3
def t__law_is_moment_1 : TS3 := sSeq (sIf (vOr (vB (vOp gNeX (vCB gSorted (vCons (vVar 1) vNil)) (vCB gSorted (vCons (vVar 2) vNil)))) (vB (vOp gLt (vCB gMin1 (vCons (vLc (iAny (vVar 2)) (gN 5) vYes (vOp gAt (vVar 1) (vVar 5)) [5]) vNil)) (vC (.int 0))))) (sRet (vC (.bl false))) sNext) t__law_is_moment_2
def t__law_is_moment : TS3 := sSeq (sAsg (vVar 0) (gT [(gN 2), (gN 3), (gN 4)])) t__law_is_moment_1
theorem pure__law_is_moment (ds : List D) (μ : Mu) (R : DK) (hl : ds.length = 2) (h : sp__law_is_moment ds μ R) : t__law_is_moment (endsOf R) (start3 ["_law_model_here", "_law_counts", "_law_marks", "_law_cords", "_law_caps", "_law_event", "_law_tie"] ds) μ := by
  obtain ⟨marks, ties, caps, y, f, rfl, ok, hy, h⟩ := h
  have hsl : sizeLine = 16777216 := by decide
  have l1 := ok.e.le
  have l0 := ok.e.pos
  have lt := ok.t.le
  have lc := lims_len ok.l
  generalize hM : mdD marks ties caps = M
  show t__law_is_moment (endsOf R) [some M, some y, none, none, none, none, none] μ
  unfold t__law_is_moment
  rw [← hM]
  walk_at "l3"
  show t__law_is_moment_1 (endsOf R) [some (mdD marks ties caps), some y, some (.lst (sds marks)), some (.lst (ties.map tieD)), some (.dct (limK caps)), none, none] μ
  rw [hM]
  unfold t__law_is_moment_1
  walk_at "l3"
  refine ⟨y, marks, rfl, .inr ⟨_, hy, by rw [ctK, cnK_keys]⟩, by omega, fun ys p1 s1 => ⟨_, marks, rfl, .inl rfl, by omega, fun zs p2 s2 => ?_⟩⟩
  have eyz := sorted_uniq s1 s2 p1 p2
  subst eyz
  refine .inr ⟨1, true, by decide, rfl, eqs_strs (l := ys) rfl rfl, ?_⟩
  simp only [Bool.not_true, Bool.false_eq_true, if_false]
  refine any_lst (xs := sds marks) rfl fun Pm hP => ?_
  refine lcg_map D.str (fun e => .int (f e)) (hP μ rfl) marks [] (fun e he => ⟨_, rfl, fun R' h' => at_ct hy he h'⟩) (by simp; omega) ?_
  rw [List.nil_append]
  refine ⟨_, marks.map f, rfl, by simp [rdL, Function.comp_def], by rw [List.length_map]; omega, fun m hm hle => ?_⟩
  obtain ⟨e0, he0, rfl⟩ := List.mem_map.mp hm
  by_cases hneg : f e0 < 0
  · simp only [hneg, decide_true, if_true]
    have : momB marks ties caps f = false := by
      rw [Bool.eq_false_iff]
      intro q
      have := (momB_iff.mp q).p e0 he0
      omega
    rw [this] at h
    exact fin_now h
  simp only [hneg, decide_false, Bool.false_eq_true, if_false]
  have pos : (marks.all fun e => decide (0 ≤ f e)) = true := List.all_eq_true.mpr fun e he => decide_eq_true (by
    have := hle (f e) (List.mem_map.mpr ⟨e, he, rfl⟩)
    omega)
  unfold momB at h
  rw [pos, Bool.true_and] at h
  unfold t__law_is_moment_2
  walk_at "l3"
  show lcW (fun _ => True) (gN 5) _ _ _ _ ((limK caps).map fun kv => keyD kv.1) [] μ
  have ek : ((limK caps).map fun kv => keyD kv.1) = caps.map fun p => D.str p.1 := by simp [limK, keyD, Function.comp_def]
  rw [ek]
  refine lcg_filter (fun p : Str × Int => !decide (f p.1 ≤ p.2)) (fun p : Str × Int => D.str p.1) (fun p => D.str p.1) trivial caps [] (fun p hp => ⟨_, rfl, fun R' h' => ?_, fun _ R' h' => h'⟩) (by simp; omega) ?_
  · walk_at "l3"
    refine at_ct hy (ok.l.a p hp) (at_d (c := .k (limK caps)) (d := .int p.2) rfl (by show some (valD _ _) = _; rw [val_lim, look_of ok.l.nd hp]; rfl) ?_)
    have : decide (p.2 < f p.1) = !decide (f p.1 ≤ p.2) := by
      rw [Bool.eq_iff_iff]; simp
    show R' (decide (p.2 < f p.1)) μ
    rw [this]; exact h'
  rw [List.nil_append]
  refine ⟨by rw [hsl]; show 0 ≤ _; decide, .inr ⟨1, _, by decide, rfl, eqs_nil6 rfl, ?_⟩⟩
  have em : (decide ((caps.filter fun p : Str × Int => !decide (f p.1 ≤ p.2)).map (fun p => D.str p.1) = [])) = caps.all fun q => decide (f q.1 ≤ q.2) := by
    rw [← filter_nil]; simp
  rw [em]
  cases hc : caps.all fun q => decide (f q.1 ≤ q.2) with
  | false =>
    simp only [Bool.not_false, if_true]
    rw [hc] at h
    exact fin_now h
  | true =>
    simp only [Bool.not_true, Bool.false_eq_true, if_false]
    rw [hc, Bool.true_and] at h
    unfold t__law_is_moment_3
    walk_at "l3"
    refine any_lst (xs := ties.map tieD) rfl fun Pm hP => ?_
    refine lcg_filter (fun t : Tie => !decide (f t.2.1 ≤ f t.1 + t.2.2)) tieD tieD (hP μ rfl) ties [] (fun t ht => ⟨_, rfl, fun R' h' => ?_, fun _ R' h' => h'⟩) (by simp; omega) ?_
    · walk_at "l3"
      refine .inr (.inl ⟨_, _, .str t.2.1, rfl, rfl, rfl, ?_⟩)
      refine at_ct hy (ok.t.b t ht) ?_
      refine .inr (.inl ⟨_, _, .str t.1, rfl, rfl, rfl, ?_⟩)
      refine at_ct hy (ok.t.a t ht) ?_
      refine .inr (.inl ⟨_, _, .int t.2.2, rfl, rfl, rfl, ?_⟩)
      have : decide (f t.1 + t.2.2 < f t.2.1) = !decide (f t.2.1 ≤ f t.1 + t.2.2) := by
        rw [Bool.eq_iff_iff]; simp
      show R' (decide (f t.1 + t.2.2 < f t.2.1)) μ
      rw [this]; exact h'
    rw [List.nil_append]
    refine ⟨by rw [hsl]; show 0 ≤ _; decide, .inr ⟨1, _, by decide, rfl, eqs_nil6 rfl, ?_⟩⟩
    have em : (decide ((ties.filter fun t : Tie => !decide (f t.2.1 ≤ f t.1 + t.2.2)).map tieD = [])) = ties.all fun t => decide (f t.2.1 ≤ f t.1 + t.2.2) := by
      rw [← filter_nil]; simp
    rw [em]
    exact fin_now h
end C1
namespace C1
open PySem PySem.Spec L2 L3 C2 PyProof.Rows
local macro_rules | `(tactic| walk_at "l3") => `(tactic| simp only [sSeq, sNext, sIf, sRet, sRetN, sSet, sDrop, sSub, sFor, sAsg, sPar2, sPar3, sCont, sFld3, sFld2, sAug, vVar, vC, vNil, vCons, vOp, vB, vChain, vAnd, vOr, vNot, vAndV, vOrV, vNotV, vIf, vUn, vCB, vLst, vTup, vLstT, vCall, vCal, vMak, vMetA, vFld, vSl, vPart, vNoP, vLc, vLcT, vDc, vBM, vBM0, vGet1, vGet2, vItems, vRev, vLRg, vStar, vDZip, iRg1, iRg2, iRgD, iAny, iEnm, iItm, iVal, vDict0, vDict0T, vDict0N, vDisp, vDispT, vPairs,
  List.getElem?_cons_zero, List.getElem?_cons_succ, List.set_cons_zero, List.set_cons_succ, wipe3, endsOf_rt, endsOf_nx, gLt, gLe, gGt, gGe, L3.gSub, gMul, gMod, gDiv, gPow, g2I, g2I0, gN, gT, gGo, Option.bind_some, gAdd_ii, gAdd_ss, gNeg_i, gMax2_ii, gMin2_ii, gLen_s, gEqS_ii, gEqS_ss, gEqS_bb, gNeS_ii, gNeS_ss, gIsN_n, gNotN_n, gSl_s, isNonD, if_true, if_false, Bool.false_eq_true, Bool.not_true, Bool.not_false])
def capT (top : Int) (caps : Lims) (e : Str) : Int := min top ((caps.lookup e).getD top)
def ext1 (t : Int) (r : List Int) : List (List Int) := (List.range (t + 1).toNat).map fun j => r ++ [((0 : Int) + (j : Nat))]
def rowsOf (top : Int) (caps : Lims) : List Str → List (List Int) := fun ms => ms.foldl (fun rows e => rows.flatMap (ext1 (capT top caps e))) [[]]
def rowT (r : List Int) : D := .tup (r.map D.int)
theorem rowsOf_snoc (top : Int) (caps : Lims) (ms : List Str) (e : Str) : rowsOf top caps (ms ++ [e]) = (rowsOf top caps ms).flatMap (ext1 (capT top caps e)) := by
  unfold rowsOf; rw [List.foldl_append]; rfl
theorem ext_len {top : Int} {caps : Lims} {e : Str} (h0 : 0 ≤ top) (r : List Int) : (ext1 (capT top caps e) r).length ≤ (top + 1).toNat := by
  unfold ext1 capT
  rw [List.length_map, List.length_range]
  omega
theorem flat_len {α β : Type} (f : α → List β) (m : Nat) (h : ∀ x, (f x).length ≤ m) : ∀ xs : List α, (xs.flatMap f).length ≤ xs.length * m
  | [] => by simp
  | x :: r => by
    have := flat_len f m h r
    have := h x
    rw [List.flatMap_cons, List.length_append, List.length_cons, Nat.succ_mul]
    omega
theorem rows_len' {top : Int} {caps : Lims} (h0 : 0 ≤ top) : ∀ (k : Nat) (ms : List Str), ms.length = k → (rowsOf top caps ms).length ≤ (top + 1).toNat ^ k
  | 0, ms, h => by
    rw [List.length_eq_zero_iff] at h
    subst h
    exact Nat.le_refl 1
  | k + 1, ms, h => by
    obtain ⟨xs, e, rfl⟩ : ∃ xs e, ms = xs ++ [e] := ⟨ms.dropLast, ms.getLast (by intro q; rw [q] at h; cases h), (List.dropLast_concat_getLast _).symm⟩
    rw [rowsOf_snoc]
    have ih := rows_len' (caps := caps) h0 k xs (by simpa using h)
    refine Nat.le_trans (flat_len _ _ (ext_len h0) _) ?_
    rw [Nat.pow_succ]
    exact Nat.mul_le_mul_right _ ih
theorem mem_ext {t : Int} {r s : List Int} : s ∈ ext1 t r ↔ ∃ j : Int, 0 ≤ j ∧ j ≤ t ∧ s = r ++ [j] := by
  unfold ext1
  rw [List.mem_map]
  constructor
  · rintro ⟨j, hj, rfl⟩
    rw [List.mem_range] at hj
    exact ⟨0 + (j : Nat), by omega, by omega, rfl⟩
  · rintro ⟨j, h0, h1, rfl⟩
    exact ⟨j.toNat, by rw [List.mem_range]; omega, by congr 2; omega⟩
def rowC (marks : List Str) (r : List Int) (e : Str) : Int := r.getD (marks.idxOf e) 0
def rowOk (top : Int) (caps : Lims) (ms : List Str) (r : List Int) : Prop := r.length = ms.length ∧ ∀ (i : Nat) (e : Str) (v : Int), ms[i]? = some e → r[i]? = some v → 0 ≤ v ∧ v ≤ capT top caps e
theorem mem_rowsOf {top : Int} {caps : Lims} : ∀ (k : Nat) (ms : List Str), ms.length = k → ∀ r, r ∈ rowsOf top caps ms ↔ rowOk top caps ms r
  | 0, ms, h, r => by
    rw [List.length_eq_zero_iff] at h
    subst h
    show r ∈ [[]] ↔ _
    rw [List.mem_singleton]
    constructor
    · rintro rfl; exact ⟨rfl, fun i e v h => by simp at h⟩
    · rintro ⟨h, _⟩; exact List.length_eq_zero_iff.mp h
  | k + 1, ms, h, r => by
    obtain ⟨xs, e, rfl⟩ : ∃ xs e, ms = xs ++ [e] := ⟨ms.dropLast, ms.getLast (by intro q; rw [q] at h; cases h), (List.dropLast_concat_getLast _).symm⟩
    have hx : xs.length = k := by simpa using h
    rw [rowsOf_snoc, List.mem_flatMap]
    constructor
    · rintro ⟨r0, h0, h1⟩
      obtain ⟨j, j0, j1, rfl⟩ := mem_ext.mp h1
      obtain ⟨l, b⟩ := (mem_rowsOf k xs hx r0).mp h0
      refine ⟨by simp [l], fun i e' v a1 a2 => ?_⟩
      by_cases hi : i < xs.length
      · rw [List.getElem?_append_left hi] at a1
        rw [List.getElem?_append_left (by omega)] at a2
        exact b i e' v a1 a2
      · rw [List.getElem?_append_right (by omega)] at a1
        rw [List.getElem?_append_right (by omega)] at a2
        have i0 : i - xs.length = 0 := by
          have := (List.getElem?_eq_some_iff.mp a1).1
          simp at this
          omega
        rw [i0] at a1
        rw [l, i0] at a2
        cases a1
        cases a2
        exact ⟨j0, j1⟩
    · rintro ⟨l, b⟩
      have hr : r ≠ [] := by rintro rfl; simp at l
      refine ⟨r.dropLast, (mem_rowsOf k xs hx _).mpr ⟨by simp [l], fun i e' v a1 a2 => ?_⟩, mem_ext.mpr ⟨r.getLast hr, ?_, ?_, (List.dropLast_concat_getLast _).symm⟩⟩
      · have hi : i < xs.length := (List.getElem?_eq_some_iff.mp a1).1
        refine b i e' v (by rw [List.getElem?_append_left hi]; exact a1) ?_
        rw [List.getElem?_dropLast] at a2
        split at a2
        · exact a2
        · cases a2
      · refine (b xs.length e (r.getLast hr) (by simp) ?_).1
        rw [List.getLast_eq_getElem, List.getElem?_eq_getElem (by simp [l])]
        congr 2
        simp [l]
      · refine (b xs.length e (r.getLast hr) (by simp) ?_).2
        rw [List.getLast_eq_getElem, List.getElem?_eq_getElem (by simp [l])]
        congr 2
        simp [l]
theorem zip_ct {marks : List Str} (nd : marks.Nodup) {r : List Int} (h : r.length = marks.length) : (marks.map (Sum.inr : Str → Key)).zip (r.map D.int) = ctK marks (rowC marks r) := by
  unfold ctK cnK
  refine List.ext_getElem? fun i => ?_
  rw [List.getElem?_map]
  by_cases hi : i < marks.length
  · have e1 : marks[i]? = some marks[i] := List.getElem?_eq_getElem hi
    have e2 : r[i]? = some r[i] := List.getElem?_eq_getElem (by omega)
    rw [List.getElem?_zip_eq_some (z := ((Sum.inr marks[i] : Key), D.int r[i])) |>.mpr ⟨by rw [List.getElem?_map, e1]; rfl, by rw [List.getElem?_map, e2]; rfl⟩, e1]
    have : marks.idxOf marks[i] = i := List.Nodup.idxOf_getElem nd i hi
    simp only [Option.map_some, rowC, this]
    rw [List.getD_eq_getElem?_getD, e2]
    rfl
  · rw [List.getElem?_eq_none_iff.mpr (by rw [List.length_zip, List.length_map, List.length_map]; omega), List.getElem?_eq_none_iff.mpr (by omega)]
    rfl
theorem rowC_at {marks : List Str} {r : List Int} {top : Int} {caps : Lims} (h : rowOk top caps marks r) {e : Str} (he : e ∈ marks) : 0 ≤ rowC marks r e ∧ rowC marks r e ≤ capT top caps e := by
  have hi := List.idxOf_lt_length_of_mem he
  have e2 : r[marks.idxOf e]? = some (r[marks.idxOf e]'(by rw [h.1]; exact hi)) := List.getElem?_eq_getElem _
  have := h.2 (marks.idxOf e) e _ (by rw [List.getElem?_eq_getElem hi, List.getElem_idxOf]) e2
  unfold rowC
  rw [List.getD_eq_getElem?_getD, e2]
  exact this
theorem row_of {marks : List Str} {ties : List Tie} {caps : Lims} {top : Int} {c : Str → Int} (ok : PlOk marks ties caps) (m : Mom marks ties caps c) (ht : ∀ e ∈ marks, c e ≤ top) : rowOk top caps marks (marks.map c) ∧ ∀ e ∈ marks, rowC marks (marks.map c) e = c e := by
  refine ⟨⟨by simp, fun i e v a1 a2 => ?_⟩, fun e he => ?_⟩
  · rw [List.getElem?_map, a1] at a2
    cases a2
    have he : e ∈ marks := List.mem_of_getElem? a1
    refine ⟨m.p e he, ?_⟩
    unfold capT
    have := ht e he
    cases hl : caps.lookup e with
    | none => show c e ≤ min top top; omega
    | some v =>
      have := m.l _ (look_mem hl)
      show c e ≤ min top v
      simp only at this
      omega
  · have hi := List.idxOf_lt_length_of_mem he
    unfold rowC
    rw [List.getD_eq_getElem?_getD, List.getElem?_map, List.getElem?_eq_getElem hi, List.getElem_idxOf]
    rfl
theorem map_flat {α β γ : Type} (f : α → List β) (g : β → γ) (xs : List α) : (xs.flatMap f).map g = xs.flatMap fun x => (f x).map g := by
  rw [List.map_flatMap]
structure Mms (marks : List Str) (ties : List Tie) (caps : Lims) (top : Int) (ms : List (Str → Int)) : Prop where
  s : ∀ c ∈ ms, Mom marks ties caps c ∧ ∀ e ∈ marks, c e ≤ top
  a : ∀ c, Mom marks ties caps c → (∀ e ∈ marks, c e ≤ top) → ∃ c' ∈ ms, ∀ e ∈ marks, c' e = c e
  n : ms.length ≤ 100000
def mmD (marks : List Str) (c : Str → Int) : D := .dct (ctK marks c)
def sp__law_moments : Sp3 := fun ds μ R => ∃ marks ties caps top, ds = [mdD marks ties caps, .int top] ∧ PlOk marks ties caps ∧ 0 ≤ top ∧ (top + 1).toNat ^ marks.length ≤ 100000 ∧ top ≤ 100 ∧ ∀ ms, Mms marks ties caps top ms → R (.lst (ms.map (mmD marks))) μ
def t__law_moments_5 : TS3 := (sRet (vVar 10))
def t__law_moments_4 : TS3 := sSeq (sFor (iAny (vVar 5)) (gN 8) (sSeq (sSet 11 (vDZip false (vCons (vVar 2) (vCons (vVar 8) vNil)))) (sIf (vB (vCall 2 sp__law_is_moment (vCons (vVar 0) (vCons (vVar 11) vNil)))) (sDrop (vBM "list" gApp (vVar 10) (vCons (vVar 11) vNil))) sNext))) t__law_moments_5
def t__law_moments_3 : TS3 := sSeq (sSet 10 (vLstT vNil)) t__law_moments_4
def t__law_moments_2 : TS3 := sSeq (sFor (iAny (vVar 2)) (gN 6) (sSeq (sSet 7 (vLstT vNil)) (sSeq (sFor (iAny (vVar 5)) (gN 8) (sDrop (vBM "list" gExt (vVar 7) (vCons (vLc (iRg1 (vCons (vOp gAdd (vCB gMin2 (vCons (vVar 1) (vCons (vGet2 (vVar 4) (vVar 6) (vVar 1)) vNil))) (vC (.int 1))) vNil)) (gN 9) vYes (vOp gAdd (vVar 8) (vTup (vCons (vVar 9) vNil))) [9]) vNil)))) (sSet 5 (vVar 7))))) t__law_moments_3
def t__law_moments_1 : TS3 := sSeq (sSet 5 (vLst (vCons (vTup vNil) vNil))) t__law_moments_2
def t__law_moments : TS3 := sSeq (sAsg (vVar 0) (gT [(gN 2), (gN 3), (gN 4)])) t__law_moments_1
theorem pow_le_take {b n k : Nat} (hb : 1 ≤ b) (h : k ≤ n) : b ^ k ≤ b ^ n := Nat.pow_le_pow_right hb h
theorem pure__law_moments (ds : List D) (μ : Mu) (R : DK) (hl : ds.length = 2) (h : sp__law_moments ds μ R) : t__law_moments (endsOf R) (start3 ["_law_model_here", "_law_top", "_law_marks", "_law_cords", "_law_caps", "_law_rows", "_law_event", "_law_longer", "_law_row", "_law_count", "_law_found", "_law_counts"] ds) μ := by
  obtain ⟨marks, ties, caps, top, rfl, ok, t0, tn, t100, h⟩ := h
  have hsl : sizeLine = 16777216 := by decide
  have l1 := ok.e.le
  have cap0 : ∀ e ∈ marks, 0 ≤ capT top caps e ∧ capT top caps e ≤ top := fun e he => by
    unfold capT
    cases hl : caps.lookup e with
    | none => show 0 ≤ min top top ∧ _; simp only [Option.getD_none]; omega
    | some v =>
      have := ok.l.c _ (look_mem hl)
      simp only at this
      simp only [Option.getD_some]; omega
  generalize hM : mdD marks ties caps = M
  show t__law_moments (endsOf R) [some M, some (.int top), none, none, none, none, none, none, none, none, none, none] μ
  unfold t__law_moments
  rw [← hM]
  walk_at "l3"
  show t__law_moments_1 (endsOf R) [some (mdD marks ties caps), some (.int top), some (.lst (sds marks)), some (.lst (ties.map tieD)), some (.dct (limK caps)), none, none, none, none, none, none, none] μ
  rw [hM]
  unfold t__law_moments_1
  walk_at "l3"
  refine ⟨by rw [hsl]; show 0 ≤ _; decide, by rw [hsl]; show 1 ≤ _; decide, ?_⟩
  unfold t__law_moments_2
  walk_at "l3"
  refine any_lst (xs := sds marks) rfl fun Pm hP => ?_
  refine for_ix (sds marks) (fun k δ μ' => Le μ μ' ∧ ∃ X y6 y7 y8 y9, lstOf μ' X = some ((rowsOf top caps (marks.take k)).map rowT) ∧ δ = [some M, some (.int top), some (.lst (sds marks)), some (.lst (ties.map tieD)), some (.dct (limK caps)), some X, y6, y7, y8, y9, none, none])
    ⟨Le.refl μ, .lst [.tup []], none, none, none, none, rfl, rfl⟩ ?_ ?_
  · rintro δ μ1 ⟨le1, X, y6, y7, y8, y9, eX, rfl⟩
    rw [show (sds marks).length = marks.length from by simp [sds], List.take_length] at eX
    refine ⟨hP _ rfl, ?_⟩
    unfold t__law_moments_3
    walk_at "l3"
    refine ⟨Nat.zero_le _, fun q hq => ?_⟩
    have nq : μ q = none := by
      cases e : μ q with
      | none => rfl
      | some o => rw [le1 q o e] at hq; cases hq
    unfold t__law_moments_4
    walk_at "l3"
    have rl : (rowsOf top caps marks).length ≤ 100000 := Nat.le_trans (rows_len' t0 _ marks rfl) tn
    refine any_lst (lst_new eX hq) fun Pm2 hP2 => ?_
    refine for_ix _ (fun k δ μ' => μ' = mset μ1 q (.lst ((((rowsOf top caps marks).take k).filter fun r => momB marks ties caps (rowC marks r)).map fun r => mmD marks (rowC marks r))) ∧
      ∃ y8 y11, δ = [some M, some (.int top), some (.lst (sds marks)), some (.lst (ties.map tieD)), some (.dct (limK caps)), some X, y6, y7, y8, y9, some (.ref q), y11]) ⟨rfl, _, _, rfl⟩ ?_ ?_
    · rintro δ μ2 ⟨rfl, y8, y11, rfl⟩
      refine ⟨hP2 _ (lst_new eX hq), ?_⟩
      unfold t__law_moments_5
      walk_at "l3"
      rw [List.length_map, List.take_length]
      refine fin_lst (fun a o e => ?_) mset_same nq ?_
      · have : a ≠ q := fun z => by rw [z, nq] at e; cases e
        rw [mset_ne this]; exact le1 a o e
      have e2 : ((((rowsOf top caps marks).filter fun r => momB marks ties caps (rowC marks r)).map fun r => mmD marks (rowC marks r))) = (((rowsOf top caps marks).filter fun r => momB marks ties caps (rowC marks r)).map (rowC marks)).map (mmD marks) := by rw [List.map_map]; rfl
      rw [e2]
      refine h _ ⟨fun c hc => ?_, fun c m hc => ?_, ?_⟩
      · obtain ⟨r, hr, rfl⟩ := List.mem_map.mp hc
        obtain ⟨h1, h2⟩ := List.mem_filter.mp hr
        refine ⟨momB_iff.mp h2, fun e he => ?_⟩
        have := rowC_at ((mem_rowsOf _ marks rfl r).mp h1) he
        have := cap0 e he
        omega
      · obtain ⟨h1, h2⟩ := row_of ok m hc
        refine ⟨_, List.mem_map.mpr ⟨marks.map c, List.mem_filter.mpr ⟨(mem_rowsOf _ marks rfl _).mpr h1, momB_iff.mpr ?_⟩, rfl⟩, h2⟩
        refine ⟨fun e he => ?_, fun t ht => ?_, fun p hp => ?_⟩
        · rw [h2 e he]; exact m.p e he
        · rw [h2 _ (ok.t.a t ht), h2 _ (ok.t.b t ht)]; exact m.t t ht
        · rw [h2 _ (ok.l.a p hp)]; exact m.l p hp
      · rw [List.length_map]
        exact Nat.le_trans (List.length_filter_le _ _) rl
    · rintro k d δ μ2 hd ⟨rfl, y8, y11, rfl⟩
      obtain ⟨r, er, rfl⟩ := map_at hd
      have hr := (mem_rowsOf _ marks rfl r).mp (List.mem_of_getElem? er)
      refine ⟨hP2 _ (lst_new eX hq), _, rfl, fun N hN => ?_⟩
      walk_at "l3"
      refine ⟨_, _, marks.map Sum.inr, r.map D.int, rfl, ?_, rfl, ?_⟩
      · simp [rdL, sds, keyD, Function.comp_def]
      have ez : mergeD [] ((marks.map (Sum.inr : Str → Key)).zip (r.map D.int)) = ctK marks (rowC marks r) := by
        rw [zip_ct ok.e.nd hr.1, merge_new _ _ (by rw [List.nil_append]; exact ct_nodup ok.e.nd _), List.nil_append]
      rw [ez, ← hM]
      refine ⟨rfl, marks, ties, caps, _, _, rfl, ok, rfl, ?_⟩
      rw [hM]
      have ts := take_snoc er
      cases hb : momB marks ties caps (rowC marks r) with
      | true =>
        simp only [if_true]
        refine ⟨?_, q, _, _, rfl, rfl, mset_same, ?_, hN _ _ ⟨?_, _, _, rfl⟩⟩
        · exact .inl ⟨rfl, _, mset_same⟩
        · rw [List.length_map]
          have := List.length_filter_le (fun r => momB marks ties caps (rowC marks r)) ((rowsOf top caps marks).take k)
          have l3 : ((rowsOf top caps marks).take k).length ≤ (rowsOf top caps marks).length := by rw [List.length_take]; omega
          omega
        · rw [mset_mset, ts, List.filter_append, List.map_append]
          simp [hb, mmD]
      | false =>
        simp only [Bool.false_eq_true, if_false]
        refine hN _ _ ⟨?_, _, _, rfl⟩
        rw [ts, List.filter_append, List.map_append]
        simp [hb]
  · rintro k d δ μ1 hd ⟨le1, X, y6, y7, y8, y9, eX, rfl⟩
    obtain ⟨e, ee, rfl⟩ := sds_get hd
    have he : e ∈ marks := List.mem_of_getElem? ee
    have hk : k < marks.length := (List.getElem?_eq_some_iff.mp ee).1
    have hk1 : (marks.take k).length = k := by rw [List.length_take]; omega
    have rl : (rowsOf top caps (marks.take k)).length ≤ (top + 1).toNat ^ k := rows_len' t0 _ _ hk1
    have rl2 : (rowsOf top caps (marks.take k)).length * (top + 1).toNat ≤ 100000 := by
      refine Nat.le_trans (Nat.mul_le_mul_right _ rl) (Nat.le_trans ?_ tn)
      rw [← Nat.pow_succ]
      exact pow_le_take (by omega) hk
    refine ⟨hP _ rfl, _, rfl, fun N hN => ?_⟩
    walk_at "l3"
    refine ⟨Nat.zero_le _, fun q hq => ?_⟩
    have nq : μ q = none := by
      cases e : μ q with
      | none => rfl
      | some o => rw [le1 q o e] at hq; cases hq
    refine any_lst (lst_new eX hq) fun Pm2 hP2 => ?_
    refine for_ix _ (fun j δ μ' => μ' = mset μ1 q (.lst (((rowsOf top caps (marks.take k)).take j).flatMap fun r => (ext1 (capT top caps e) r).map rowT)) ∧
      ∃ y8 y9, δ = [some M, some (.int top), some (.lst (sds marks)), some (.lst (ties.map tieD)), some (.dct (limK caps)), some X, some (.str e), some (.ref q), y8, y9, none, none]) ⟨rfl, _, _, rfl⟩ ?_ ?_
    · rintro δ μ2 ⟨rfl, y8, y9, rfl⟩
      refine ⟨hP2 _ (lst_new eX hq), ?_⟩
      walk_at "l3"
      refine hN _ _ ⟨le1.mset nq, .ref q, _, _, _, _, ?_, rfl⟩
      rw [take_snoc ee, rowsOf_snoc, map_flat, List.length_map, List.take_length]
      exact lst_ref mset_same
    · rintro j d δ μ2 hd2 ⟨rfl, y8, y9, rfl⟩
      obtain ⟨r, er, rfl⟩ := map_at hd2
      refine ⟨hP2 _ (lst_new eX hq), _, rfl, fun N2 hN2 => ?_⟩
      walk_at "l3"
      refine ⟨.inl ⟨rfl, _, mset_same⟩, rfl, .k (limK caps), (caps.lookup e).map D.int, rfl, by show some (valD _ _) = _; rw [val_lim], ?_⟩
      have eg : (((caps.lookup e).map D.int).getD (D.int top)) = .int ((caps.lookup e).getD top) := by cases caps.lookup e <;> rfl
      rw [eg]
      have c0 := cap0 e he
      have rj : r.length ≤ marks.length := by
        have := ((mem_rowsOf _ (marks.take k) rfl r).mp (List.mem_of_getElem? er)).1
        rw [hk1] at this; omega
      show (_ : Prop) ∧ (_ : Prop) ∧ lcW _ _ _ _ _ _ _ _ _
      have c0' := c0
      unfold capT at c0'
      refine ⟨by omega, by omega, ?_⟩
      have erg : rgD 0 (min top ((caps.lookup e).getD top) + 1).toNat = (List.range (capT top caps e + 1).toNat).map fun i => D.int (0 + (i : Nat)) := by
        unfold rgD capT; rfl
      rw [erg]
      refine lcg_map (fun i : Nat => D.int (0 + (i : Nat))) (fun i : Nat => rowT (r ++ [(0 : Int) + (i : Nat)])) trivial _ [] (fun i hi => ⟨_, rfl, fun R' h' => ?_⟩) (by simp; omega) ?_
      · walk_at "l3"
        refine ⟨by rw [hsl]; show 1 ≤ _; decide, ?_, ?_⟩
        · simp; omega
        · have : rowT (r ++ [(0 : Int) + (i : Nat)]) = .tup (r.map D.int ++ [D.int (0 + (i : Nat))]) := by simp [rowT]
          rw [this] at h'
          exact h'
      rw [List.nil_append]
      have ex : ((List.range (capT top caps e + 1).toNat).map fun i : Nat => rowT (r ++ [(0 : Int) + (i : Nat)])) = (ext1 (capT top caps e) r).map rowT := by unfold ext1; rw [List.map_map]; rfl
      rw [ex]
      refine ⟨q, _, _, _, rfl, rfl, mset_same, rfl, ?_, hN2 _ _ ⟨?_, _, _, rfl⟩⟩
      · have f1 := flat_len (fun r => (ext1 (capT top caps e) r).map rowT) (top + 1).toNat (fun x => by rw [List.length_map]; exact ext_len t0 x) ((rowsOf top caps (marks.take k)).take j)
        have f2 := ext_len (caps := caps) (e := e) t0 r
        have f3 := List.length_take_le j (rowsOf top caps (marks.take k))
        rw [List.length_map]
        have f4 : ((rowsOf top caps (marks.take k)).take j).length * (top + 1).toNat ≤ 100000 := Nat.le_trans (Nat.mul_le_mul_right _ (by rw [List.length_take]; omega)) rl2
        omega
      · rw [mset_mset, take_snoc er, List.flatMap_append]
        simp
end C1
namespace PySem
structure XNew (B newId : String) : Prop where
  ends : newId.endsWith ".__new__" = true
  owner : newId.dropRight 8 = B
  entry : entryFor table newId = some Builtin.«BaseException.__new__»
  split : splitId newId = some (B, "__new__")
  kind : builtinKind newId = some .builtinFn
  row : Manifest.signature? newId = some ⟨.any, B, B, .cls, [⟨"args", .varPos, false⟩, ⟨"kwargs", .varKw, false⟩]⟩
  canon : Manifest.canonical newId = Manifest.canonical "BaseException.__new__"
  quiet : newId.startsWith "lifetime." = false
  star : (B != "*") = true
structure XIni (B initId : String) : Prop where
  plain : plainId initId = true
  entry : entryFor table initId = some Builtin.«BaseException.__init__»
  split : splitId initId = some (B, "__init__")
  kind : builtinKind initId = some .slot
  row : Manifest.signature? initId = some ⟨.positional, "*", B, .self, [⟨"args", .varPos, false⟩]⟩
  star : (B != "*") = true
theorem XNew.of {B newId initId : String} {bm : List Value} (F : ExcBaseFacts B newId initId bm) : XNew B newId := ⟨F.ends, F.owner, F.entry, F.newSplit, F.newKind, F.newRow, F.canon, F.quiet, F.noStar⟩
theorem XIni.of {B newId initId : String} {bm : List Value} (F : ExcBaseFacts B newId initId bm) : XIni B initId := ⟨F.init.plain, F.initEntry, F.initSplit, F.initKind, F.initRow, F.noStar⟩
end PySem
namespace L2
open PySem PySem.Spec PyProof.Rows PySem.XO
structure OexG (K : PySem.W.Frag) (C : Addr) (bm : List Value) : Prop where
  cls : ∃ nm q N bs sn sub ab col dd k0 k1 k2 k3 k5 B newId, K.lookup C = some (excClassObj nm q C N bs bm true sn sub ab col dd k0 k1 k2 k3 k5 newId) ∧ XNew B newId ∧ bm.contains (.type B) = true
  noA : bm.contains (.type "AttributeError") = false
  noN : bm.contains (.type "NameError") = false
  ob : bm.contains (.type "object") = true
  pass : ∀ self, refuseLoop self "__setattr__" bm = pure ()
  sa : PySem.W.findIn K (.ref C) "__setattr__" = some (some (.builtin "object.__setattr__"))
  exC : PySem.W.subIn K (.ref C) (.type "BaseException") = some true
  tyC : PySem.W.typeIn K (.ref C) = some (.type "type")
  kC : PySem.W.keepIn K (.ref C) = true
structure XBase (K : PySem.W.Frag) (mg : Str → Option Value) (x : Str) (Bi initId : String) : Prop where
  ex : ∃ CB, mg x = some (.ref CB) ∧ PySem.W.specialIn K (.ref CB) "__getattribute__" = some (some (.builtin "type.__getattribute__")) ∧ PySem.W.readsIn K CB (.type "type") = true ∧ PySem.W.findCls K (.ref CB) (.type "type") "__init__" = some (.val (.builtin initId))
  hand : PySem.W.handedIn (.builtin initId) = true
  ini : XIni Bi initId
section
variable {X : Cx} {o e : Expr} {es : List Expr} {to te : TE} {ta : TA} {f x : Str} {p p' p1 p2 pos : Pos} {Bi initId : String} {bm : List Value}
def spXI (C : Addr) (f : Str) : Sp := fun vs H Q _ => ∃ (a : Addr) (v : V), vs = [.ref a, v] ∧ H a = some (exo a C none) ∧ ∀ dx, H dx = none → dx ≠ a → Q .non (upd (upd H dx (exd dx [(f, v)])) a (exo a C (some dx)))
structure XMk (P : Program) (w : World) (K : PySem.W.Frag) (mg : Str → Option Value) (base : Heap) (k : Nat) (x f : Str) : Prop where
  ex : ∃ (C fI : Addr) (bm : List Value) (fd : FuncData) (ps : List Str), PySem.W.nsIn K mainGlobals x = some (some (.ref C)) ∧ mg x = some (.ref C) ∧ OexG K C bm ∧ PySem.W.findIn K (.ref C) "__init__" = some (some (.ref fI)) ∧ PySem.W.typeIn K (.ref fI) = some (.type "function") ∧
    (∀ (s : Shared) (u v : Value), K.In s.heap → BindsTo s fd ⟨[u, v], []⟩ (ps.zip [u, v])) ∧ L3.FnG P w K mg base CX0 k fI fd ps (spXI C f)
end
end L2
namespace L3
open PySem PySem.Spec PyProof.Rows L2
abbrev XK3 := Str → List (Str × D) → Mu → Prop
abbrev XR := Str → List (Str × D) → St3 → Mu → Prop
abbrev Spx := List D → Mu → DK → XK3 → Prop
structure Xz (X : Cx) (Z : Zn X.kn) where
  W : WX
  tk : Takes X W
  rx : XR
  ok : ∀ F H μ σ δ C dd n fs gs, Sim Z F H μ → Sl X.kn F H σ δ → clsA X.kn n C → H dd = some (.xd gs) → Rpf X.kn F H fs gs → rx n fs δ μ → W (.ref C) (some dd) σ H
end L3
namespace L3
open PySem PySem.Spec PyProof.Rows L2
abbrev Spx.calm (sp : Spx) : Sp3 := fun ds μ R => sp ds μ R fun _ _ _ => False
end L3
namespace L3
open PySem PySem.Spec PyProof.Rows L2
abbrev HTs := Addr → Value → Option Addr → TS
inductive HsOk (X : Cx) : List ExceptHandler → List (Value × Option Nat × HTs) → Prop
  | nil : HsOk X [] []
  | plain {x : Str} {c : Value} {ts : HTs} {b : Stmt} {su : List Stmt} {p q : Pos} {hs : List ExceptHandler} {l : List (Value × Option Nat × HTs)} (hc : Names X x c)
      (go : ∀ (a : Addr) (o : Obj) (cls : Value) (d : Option Addr) (pn : List (Addr × Obj)), Zc cls d o → (∃ vs, o.data = .fields vs) → PSs (X.suite a ((a, o) :: pn)) (b :: su) (ts a cls d)) (r : HsOk X hs l) :
      HsOk X (.ExceptHandler (some (.Name x p)) none (b :: su) q :: hs) ((c, none, ts) :: l)
  | named {x n : Str} {i : Nat} {c : Value} {ts : HTs} {b : Stmt} {su : List Stmt} {p q : Pos} {hs : List ExceptHandler} {l : List (Value × Option Nat × HTs)} (hc : Names X x c) (hi : X.N[i]? = some n) (hk : X.env.kindOf n = some .local)
      (go : ∀ (a : Addr) (o : Obj) (cls : Value) (d : Option Addr) (pn : List (Addr × Obj)), Zc cls d o → (∃ vs, o.data = .fields vs) → PSs (X.suite a ((a, o) :: pn)) (b :: su) (ts a cls d)) (r : HsOk X hs l) :
      HsOk X (.ExceptHandler (some (.Name x p)) (some n) (b :: su) q :: hs) ((c, some i, ts) :: l)
end L3
namespace L3
open PySem PySem.Spec PyProof.Rows L2
section
variable {K : Kn} {F : Addr → Prop} {H : Hp} {μ : Mu}
theorem Sim0.xd_free {gs : List (Str × V)} {dd : Addr} (s : Sim0 K F H μ) (hd : H dd = some (.xd gs)) : μ dd = none := by
  cases e : μ dd with
  | none => rfl
  | some o =>
    exfalso
    obtain ⟨_, m⟩ := s.obj dd o e
    cases o with
    | lst xs => obtain ⟨vs, e, r⟩ := m; rw [hd] at e; cases e
    | dct kvs => obtain ⟨vs, e, r⟩ := m; rw [hd] at e; cases e
    | dcn kvs => obtain ⟨vs, e, r⟩ := m; rw [hd] at e; cases e
    | dlk od ks kvs => obtain ⟨e, r⟩ := m; rw [hd] at e; cases e
    | ins n fs => obtain ⟨C, dx, vs, c, e, r⟩ := m; rw [hd] at e; cases e
def Zn.within (Z : Zn K) (F0 : Addr → Prop) (H0 : Hp) (μ0 : Mu) : Zn K where
  his := fun F H μ => Z.his F H μ ∧ Grow F0 H0 F H ∧ Fm F0 μ0 H0 F μ H
  mono := fun g m z h => ⟨Z.mono g m z h.1, h.2.1.trans g, h.2.2.trans m⟩
def Zn.exc (Z : Zn K) (dd : Addr) (gs : List (Str × V)) (fs : List (Str × D)) : Zn K where
  his := fun F H μ => Z.his F H μ ∧ μ dd = none ∧ H dd = some (.xd gs) ∧ Rpf K F H fs gs
  mono := fun {F H μ F' H' μ'} g m z h => by
    obtain ⟨h1, h2, h3, h4⟩ := h
    refine ⟨Z.mono g m z h1, ?_, ?_, h4.grow g⟩
    · by_cases f : F dd
      · exact z.xd_free (g.fix dd _ f rfl h3)
      · exact (m dd _ h3 h2 f).1
    · by_cases f : F dd
      · exact g.fix dd _ f rfl h3
      · exact (m dd _ h3 h2 f).2.1
end
abbrev H3 := List Str × List Str × Option Nat × (Addr → Str → List (Str × D) → TS3)
structure Hc3 (K : PySem.W.Frag) (mg : Str → Option Value) (x : Str) (ys ns : List Str) : Prop where
  ex : ∃ c : Value, (mg x = some c ∨ (mg x = none ∧ bootBuiltins x = some c ∧ x ≠ "__name__")) ∧ (∀ n C, ys.contains n = true → PySem.W.nsIn K mainGlobals n = some (some (.ref C)) → PySem.W.exmOne K (.ref C) c = some true) ∧
    ∀ n C, ns.contains n = true → PySem.W.nsIn K mainGlobals n = some (some (.ref C)) → PySem.W.exmOne K (.ref C) c = some false
def SuOk (X : Cx) (Z : Zn X.kn) (su : List Stmt) (ys : List Str) (ts : Addr → Str → List (Str × D) → TS3) : Prop :=
  ∀ (a : Addr) (o : Obj) (C dd : Addr) (pn : List (Addr × Obj)) (n : Str) (fs : List (Str × D)) (gs : List (Str × V)), Zc (.ref C) (some dd) o → (∃ vs, o.data = .fields vs) → clsA X.kn n C → ys.contains n = true →
    Ss3 (X.suite a ((a, o) :: pn)) (Z.exc dd gs fs) su (ts a n fs)
inductive Hs3 (X : Cx) (Z : Zn X.kn) : List ExceptHandler → List H3 → Prop
  | nil : Hs3 X Z [] []
  | plain {x : Str} {ys ns : List Str} {ts : Addr → Str → List (Str × D) → TS3} {b : Stmt} {su : List Stmt} {p q : Pos} {hs : List ExceptHandler} {l : List H3} (hg : Gl X x ∧ (x == ("__debug__" : Str)) = false) (hc : Hc3 X.K X.mg x ys ns) (go : SuOk X Z (b :: su) ys ts) (r : Hs3 X Z hs l) :
      Hs3 X Z (.ExceptHandler (some (.Name x p)) none (b :: su) q :: hs) ((ys, ns, none, ts) :: l)
  | named {x n : Str} {i : Nat} {ys ns : List Str} {ts : Addr → Str → List (Str × D) → TS3} {b : Stmt} {su : List Stmt} {p q : Pos} {hs : List ExceptHandler} {l : List H3} (hg : Gl X x ∧ (x == ("__debug__" : Str)) = false) (hc : Hc3 X.K X.mg x ys ns) (hi : X.N[i]? = some n ∧ X.env.kindOf n = some .local) (go : SuOk X Z (b :: su) ys ts) (r : Hs3 X Z hs l) :
      Hs3 X Z (.ExceptHandler (some (.Name x p)) (some n) (b :: su) q :: hs) ((ys, ns, some i, ts) :: l)
section
variable {X : Cx} {Z : Zn X.kn} {body : List Stmt} {h0 : ExceptHandler} {hs : List ExceptHandler} {l : List H3} {pos : Pos} {tb : XR → TS3}
structure Xf3 (K : PySem.W.Frag) (n f : Str) : Prop where
  ex : ∀ C, PySem.W.nsIn K mainGlobals n = some (some (.ref C)) → XfC K C ∧ PySem.W.findIn K (.ref C) f = some none
end
end L3
namespace L3
open PySem PySem.Spec PyProof.Rows L2
def keyP : Key → PyData
  | .inl i => .int i
  | .inr x => .str x
mutual
inductive ShX (μ : Mu) : D → PyData → Prop
  | non : ShX μ .non .none
  | bl (b : Bool) : ShX μ (.bl b) (.bool b)
  | int (i : Int) : ShX μ (.int i) (.int i)
  | str (x : Str) : ShX μ (.str x) (.str x)
  | lst {xs : List D} {ps : List PyData} : ShXs μ xs ps → ShX μ (.lst xs) (.list ps)
  | tup {xs : List D} {ps : List PyData} : ShXs μ xs ps → ShX μ (.tup xs) (.tuple ps)
  | dct {ks : List (Key × D)} {ps : List (PyData × PyData)} : ShXk μ ks ps → ShX μ (.dct ks) (.dict ps)
  | ref {a : Addr} {xs : List D} {ps : List PyData} : μ a = some (.lst xs) → ShXs μ xs ps → ShX μ (.ref a) (.list ps)
  | refd {a : Addr} {ks : List (Key × D)} {ps : List (PyData × PyData)} : μ a = some (.dct ks) → ShXk μ ks ps → ShX μ (.ref a) (.dict ps)
inductive ShXs (μ : Mu) : List D → List PyData → Prop
  | nil : ShXs μ [] []
  | cons {x : D} {xs : List D} {p : PyData} {ps : List PyData} : ShX μ x p → ShXs μ xs ps → ShXs μ (x :: xs) (p :: ps)
inductive ShXk (μ : Mu) : List (Key × D) → List (PyData × PyData) → Prop
  | nil : ShXk μ [] []
  | cons {k : Key} {x : D} {xs : List (Key × D)} {p : PyData} {ps : List (PyData × PyData)} : ShX μ x p → ShXk μ xs ps → ShXk μ ((k, x) :: xs) ((keyP k, p) :: ps)
end
def SysB (base : Heap) : Prop := ∃ o, base.get? sysModules = some o
structure BaseS (base : Heap) : Prop where
  x : BaseX base
  sm : SysB base
section
variable {X : Cx} {Z : Zn X.kn} {F : Addr → Prop} {H : Hp} {μ : Mu} {pins : List (Addr × Obj)} {s : Shared} {σ : L2.St}
theorem no_sys (I : Inv X pins σ H s) (sy : SysB X.base) {a : Addr} {u : HO} (h : H a = some u) : a ≠ sysModules := fun z => by
  subst z
  obtain ⟨o, ho⟩ := sy
  have := (I.bs sysModules o ho).2
  rw [h] at this
  cases this
theorem no_sysR (I : Inv X pins σ H s) (sy : SysB X.base) {a : Addr} {u : HO} (h : Rd H a u) : a ≠ sysModules := by
  rcases h with h | ⟨o, h⟩
  · exact no_sys I sy h
  · exact no_sys I sy h
theorem key_reads {h : Heap} {k : Key} {v : Value} (e : keyIs k v = true) : Reads h v (keyP k) [] := by
  rcases keyIs_shape e with ⟨i, t, rfl, rfl⟩ | ⟨x, t, rfl, rfl⟩
  · exact .int i t
  · exact .str x t
mutual
theorem ShX.reads (sm : Sim Z F H μ) (I : Inv X pins σ H s) (sy : SysB X.base) {d : D} {p : PyData} : ∀ {v : V} {u : Value}, ShX μ d p → Rp X.kn F H d v → RelV v u → ∃ as, Reads s.heap u p as ∧ sysModules ∉ as
  | _, _, .non, r, q => by cases r; cases q; exact ⟨_, .none, by simp⟩
  | _, _, .bl b, r, q => by cases r; cases q; exact ⟨_, .bool b, by simp⟩
  | _, _, .int i, r, q => by cases r; obtain ⟨t, rfl⟩ := q; exact ⟨_, .int i t, by simp⟩
  | _, _, .str x, r, q => by cases r; obtain ⟨t, rfl⟩ := q; exact ⟨_, .str x t, by simp⟩
  | _, _, .lst h, r, q => by
    cases r with
    | lst f e rs =>
      cases q
      obtain ⟨its, rv, ⟨o, n, ho, hc, _, hd⟩, _⟩ := I.list (SqL.of e)
      obtain ⟨as, hr, hn⟩ := ShXs.reads sm I sy h rs rv
      exact ⟨_, .list ho hc hd hr, fun z => (List.mem_cons.mp z).elim (fun z => no_sys I sy e z.symm) hn⟩
  | _, _, .tup h, r, q => by
    cases r with
    | tup f e rs =>
      cases q
      obtain ⟨its, rv, ⟨o, ho, hc, n, hd⟩, _⟩ := I.tuple (SqT.of e)
      obtain ⟨as, hr, hn⟩ := ShXs.reads sm I sy h rs rv
      exact ⟨_, .tuple ho hc hd hr, hn⟩
  | _, _, .dct h, r, q => by
    cases r with
    | dct f e rs =>
      cases q
      obtain ⟨_, us, kv, o, es, ep, ho, hx, hd, _, pr, _⟩ := L3.Inv.dic I e
      obtain ⟨as, bs, h1, h2, n1, n2⟩ := ShXk.reads sm I sy h rs kv pr
      exact ⟨_, .dict ho hx.1 hd h1 h2, fun z => (List.mem_cons.mp (List.mem_append.mp z |>.elim (fun z => z) (fun z => absurd z n2))).elim (fun z => no_sysR I sy e z.symm) n1⟩
  | _, _, .ref em h, r, q => by
    cases r
    cases q
    obtain ⟨_, vs, e, rs⟩ := sm.obj _ _ em
    obtain ⟨its, rv, ⟨o, n, ho, hc, _, hd⟩, _⟩ := I.list (SqL.of e)
    obtain ⟨as, hr, hn⟩ := ShXs.reads sm I sy h rs rv
    exact ⟨_, .list ho hc hd hr, fun z => (List.mem_cons.mp z).elim (fun z => no_sys I sy e z.symm) hn⟩
  | _, _, .refd em h, r, q => by
    cases r
    cases q
    obtain ⟨_, vs, e, rs⟩ := sm.obj _ _ em
    obtain ⟨_, us, kv, o, es, ep, ho, hx, hd, _, pr, _⟩ := L3.Inv.dic I (.inl e)
    obtain ⟨as, bs, h1, h2, n1, n2⟩ := ShXk.reads sm I sy h rs kv pr
    exact ⟨_, .dict ho hx.1 hd h1 h2, fun z => (List.mem_cons.mp (List.mem_append.mp z |>.elim (fun z => z) (fun z => absurd z n2))).elim (fun z => no_sys I sy e z.symm) n1⟩
theorem ShXs.reads (sm : Sim Z F H μ) (I : Inv X pins σ H s) (sy : SysB X.base) {ds : List D} {ps : List PyData} : ∀ {vs : List V} {us : List Value}, ShXs μ ds ps → Rps X.kn F H ds vs → Vals vs us → ∃ as, ReadsAll s.heap us ps as ∧ sysModules ∉ as
  | _, _, .nil, r, q => by cases r; cases q; exact ⟨_, .nil, by simp⟩
  | _, _, .cons h t, r, q => by
    cases r with
    | cons r1 rs =>
      cases q with
      | cons q1 qs =>
        obtain ⟨as, h1, n1⟩ := ShX.reads sm I sy h r1 q1
        obtain ⟨bs, h2, n2⟩ := ShXs.reads sm I sy t rs qs
        exact ⟨_, .cons h1 h2, fun z => (List.mem_append.mp z).elim n1 n2⟩
theorem ShXk.reads (sm : Sim Z F H μ) (I : Inv X pins σ H s) (sy : SysB X.base) {ks : List (Key × D)} {ps : List (PyData × PyData)} : ∀ {vs : List (Key × V)} {us : List (Key × Value)} {es : List DictEntry}, ShXk μ ks ps → Rpk X.kn F H ks vs → KV vs us → Pairs (mixKind X.prog X.w) es us →
    ∃ as bs, ReadsAll s.heap (es.map (·.key)) (ps.map (·.1)) as ∧ ReadsAll s.heap (es.map (·.val)) (ps.map (·.2)) bs ∧ sysModules ∉ as ∧ sysModules ∉ bs
  | _, _, _, .nil, r, q, w => by cases r; cases q; cases w; exact ⟨_, _, .nil, .nil, by simp, by simp⟩
  | _, _, _, .cons h t, r, q, w => by
    cases r with
    | cons r1 rs =>
      cases q with
      | cons q1 qs =>
        cases w with
        | cons w1 w2 ws =>
          obtain ⟨as, h1, n1⟩ := ShX.reads sm I sy h r1 q1.2
          obtain ⟨cs, bs, h2, h3, n2, n3⟩ := ShXk.reads sm I sy t rs qs ws
          have hk := key_reads (h := s.heap) (by rw [← q1.1] at w1; exact w1)
          exact ⟨_, _, .cons hk h2, .cons (by show Reads s.heap (DictEntry.val _) _ _; rw [w2]; exact h1) h3, by simpa using n2, fun z => (List.mem_append.mp z).elim n1 n3⟩
end
end
theorem enter_lawS {P : Program} {w : World} {K : PySem.W.Frag} {mg mb : Str → Option Value} {X0 : CXT} {k : Nat} {fa a : Addr} {fd : FuncData} {x : Str} {sp : Sp} {s1 : Shared} {us : List Value} {ns : List Int}
    (KX : K.In s1.heap) (h1 : s1.heap.Ns mainGlobals mg) (h2 : s1.heap.Ns builtinsNs mb) (h3 : ∀ x : Str, x ≠ "__name__" → mb x = bootBuiltins x) (h4 : s1.heap.NoLimit) (h5 : ∃ mc, s1.heap.Ns cStatics mc ∧ mc "sys.int_max_str_digits" = none) (h6 : ∃ mm, s1.heap.Ns sysModules mm) (hg : s1.gens = #[])
    (ha : s1.heap.get? a = some { cls := .type "list", data := .seq us.toArray }) (hi : IntsAre us ns) (hl : ns.length ≤ sizeLine) (hr : RoomG k callerA)
    (F : ∀ base : Heap, K.In base → base.Ns mainGlobals mg → BaseS base → FnG P w K mg base X0 k fa fd [x] sp) (hbind : ∀ (s : Shared) (u : Value), BindsTo s fd ⟨[u], []⟩ [(x, u)])
    (hsp : ∀ H : Hp, SqL K H a (ns.map V.int) → sp [.ref a] H (fun v _ => v = .bl true) fun _ _ _ => False)
    (hX0 : ∀ H e s2, X0 [] H s1 (fun _ _ _ => False) e s2 → False) :
    codeAny (model P w) callerA (.call (.ref fa) ⟨[.ref a], []⟩) (fun r s2 => r = .ok (.ret (.bool true)) ∧ OldK s1.heap s2.heap ∧ s2.os = s1.os ∧ AllBare s2.gens) s1 := by
  have rv := vals_ints hi
  have lz : us.length = ns.length := by rw [← rv.length, List.length_map]
  generalize eH : scrH K a us ns = H
  have look : ∀ {b u}, H b = some u → b = a ∧ K.lookup a = none ∧ u = .frz { cls := .type "list", data := .seq us.toArray } (.lst (ns.map V.int)) := fun h => scrH_some (eH ▸ h)
  have sq : SqL K H a (ns.map V.int) := by
    cases hk : K.lookup a with
    | some o =>
      have e := KX a o hk
      rw [ha] at e
      cases e
      exact .inr ⟨_, us.toArray, _, hk, rfl, rfl, rfl, by rw [List.size_toArray, lz]; exact hl, by simpa using rv⟩
    | none =>
      refine .inl (.inr ⟨{ cls := .type "list", data := .seq us.toArray }, ?_⟩)
      rw [← eH]
      exact if_pos ⟨rfl, hk⟩
  have ok : HOk P w H s1.heap := fun b u h => by
    obtain ⟨rfl, _, rfl⟩ := look h
    exact ⟨ha, by rw [List.length_map]; exact hl, us, _, rv, ha⟩
  have seen : ∀ {b : Addr} {o : Obj}, s1.heap.get? b = some o → (b = a → K.lookup a ≠ none) → (hidT s1.heap H).get? b = some o := fun {b o} e n => hidT_get e (by
    rw [← eH]
    exact scrH_none fun ⟨z1, z2⟩ => n z1 z2)
  have dict : ∀ {b : Addr} {m : Str → Option Value}, s1.heap.Ns b m → (hidT s1.heap H).Ns b m := fun {b m} ⟨o, es, ep, e, dd, rest⟩ => ⟨o, es, ep, seen e (fun z => by
    subst z
    rw [ha] at e
    cases e
    cases (show Data.seq us.toArray _ = Data.dict es ep from dd)), dd, rest⟩
  have KB : K.In (hidT s1.heap H) := fun b o e => seen (KX b o e) fun z n => by rw [z, n] at e; cases e
  have e0 : Env0 P w K mg (hidT s1.heap H) callerA [] s1 H :=
    ⟨rfl, ⟨KB, dict h1, ⟨mb, dict h2, h3⟩, let ⟨mc, q1, q2⟩ := h4; ⟨mc, dict q1, q2⟩⟩, fun b o e => of_hidT e, Nat.le_of_eq (hidT_size _ _), trivial, fun b hb => absurd (show b ∈ ([] : List Addr) from hb) (by simp), ok, .of_eq hg⟩
  have BX : BaseS (hidT s1.heap H) := ⟨⟨let ⟨mc, q1, q2⟩ := h5; ⟨mc, dict q1, q2⟩⟩, let ⟨mm, q1⟩ := h6; let ⟨o, _, _, e, _⟩ := dict q1; ⟨o, e⟩⟩
  refine codeAny_mono ((F _ KB (dict h1) BX).go callerA [] s1 H _ [.ref a] [.ref a] _ _ hr e0 (hbind s1 (.ref a)) (.cons rfl .nil) (hsp H sq)) fun res s2 h => ?_
  match res, h with
  | .error er, h => exact (hX0 H er s2 h).elim
  | .ok (.ret u), h =>
    obtain ⟨v, H2, os, bare, un, ok2, r2, q⟩ := h
    obtain rfl : v = .bl true := q
    obtain rfl : u = Value.bool true := r2
    refine ⟨rfl, OldK.of_keep fun b o e => ?_, os, bare⟩
    cases q : H b with
    | none => exact un.keep b o e q (by intro z; exact absurd (show b ∈ ([] : List Addr) from z) (by simp)) (by simp)
    | some u =>
      obtain ⟨rfl, _, rfl⟩ := look q
      have e2 := (ok2 _ _ (un.frzs _ _ _ q)).1
      rw [ha] at e
      cases e
      exact e2
end L3
namespace L3
open PySem PySem.Spec PyProof.Rows L2
section
variable {X : Cx} {Z : Zn X.kn}
def lOut (tr : Bool) (xs : List D) (μ : Mu) (R : DK) : Prop := if tr then ∀ q, μ q = none → R (.ref q) (mset μ q (.lst xs)) else R (.lst xs) μ
theorem lOut_run {tr : Bool} {xs : List D} {vs : List V} {F : Addr → Prop} {H : Hp} {μ : Mu} {R : DK} {Q : VK} {l : Addr} (s : Sim Z F H μ) (r : Rps X.kn F H xs vs) (h : lOut tr xs μ R)
    (k : ∀ F' v H' d μ', Step Z F H μ F' H' μ' → Rp X.kn F' H' d v → R d μ' → Q v H') (hl : H l = none) : Q (.ref l) (upd H l (.lst vs)) := by
  cases tr with
  | true =>
    have g := s.trkS (o := .lst vs) (m := .lst xs) hl fun g e => ⟨vs, e, r.grow g⟩
    exact k _ _ _ _ _ g (.ref l) (h l (s.free hl))
  | false =>
    have g := s.frzS (o := .lst vs) hl
    exact k _ _ _ _ μ g (.lst (.inr rfl) upd_same (r.st g)) h
theorem Rps.flat {K : Kn} {F : Addr → Prop} {H : Hp} {xs : List D} {vs : List V} (r : Rps K F H xs vs) : ∀ n : Nat, Rps K F H (List.replicate n xs).flatten (List.replicate n vs).flatten
  | 0 => .nil
  | n + 1 => by rw [List.replicate_succ, List.replicate_succ, List.flatten_cons, List.flatten_cons]; exact r.append (Rps.flat r n)
def gRep (tr : Bool) : G2 := fun x y μ R => ∃ xs k, lstOf μ x = some xs ∧ y = .int k ∧ -(2 ^ 63) ≤ k ∧ k < 2 ^ 63 ∧ xs.length * k.toNat ≤ sizeLine ∧ lOut tr (List.replicate k.toNat xs).flatten μ R
theorem o_rep {tr : Bool} : OpL X Z (binaryOp .Mult) (gRep tr) := ⟨_, op_rep, fun F H μ x y vx vy R Q s rx ry q k => by
  obtain ⟨xs, n, ex, rfl, h1, h2, hz, q⟩ := q
  obtain ⟨p, vs, rfl, e1, r1⟩ := lst_of s rx ex
  cases ry
  exact ⟨p, n, vs, rfl, rfl, e1, h1, h2, by rw [← r1.length]; exact hz, fun l hl => lOut_run s (r1.flat _) q k hl⟩⟩
end
end L3
namespace L3
open PySem PySem.Spec PyProof.Rows L2
structure CalV (P : Program) (w : World) (K : PySem.W.Frag) (mg : Str → Option Value) (base : Heap) (X0 : CXT) (k : Nat) (x : Str) (n : Nat) (lsp : Sp) : Prop where
  ex : ∃ (f : Addr) (fd : FuncData) (ps : List Str), PySem.W.nsIn K mainGlobals x = some (some (.ref f)) ∧ mg x = some (.ref f) ∧ PySem.W.keepIn K (.ref f) = true ∧ Bd3 K fd ps n [] (allPos n) [] ∧ FnG P w K mg base X0 k f fd ps lsp
end L3
namespace L3
open PySem PySem.Spec PyProof.Rows L2
section
variable {X : Cx} {Z : Zn X.kn} {X0 : CXT} {k j : Nat} {n : Str} {ns : List Str} {sp : Sp3} {lsp : Sp} {E : XK}
structure Nb3 (K : PySem.W.Frag) (n m : Str) : Prop where
  ex : ∃ C C', PySem.W.nsIn K mainGlobals n = some (some (.ref C)) ∧ PySem.W.nsIn K mainGlobals m = some (some (.ref C')) ∧ PySem.W.notFirst K C (.ref C') = true
structure Ne3 (K : PySem.W.Frag) (n : Str) : Prop where
  ex : ∃ C, PySem.W.nsIn K mainGlobals n = some (some (.ref C)) ∧ PySem.W.findIn K (.ref C) "__ne__" = some (some (.builtin "object.__ne__")) ∧ PySem.W.mroIn K C (.type "object") = some true
end
end L3
namespace L3
open PySem PySem.Spec PyProof.Rows L2
section
variable {X : Cx} {Z : Zn X.kn} {X0 : CXT} {k j : Nat} {n : Str} {ns : List Str} {sp : Sp3} {lsp : Sp} {E : XK}
structure At3 (K : PySem.W.Frag) (n : Str) (m : String) : Prop where
  ex : ∃ C, ClsK K n C ∧ PySem.W.kitOne K (.ref C) (.type m) = some false
end
end L3
namespace L3
open PySem PySem.Spec PyProof.Rows L2
section
variable {X : Cx} {Z : Zn X.kn} {X0 : CXT} {k j : Nat} {n : Str} {sp : Sp3} {lsp : Sp} {E : XK}
structure Ao3 (K : PySem.W.Frag) (n : Str) : Prop where
  ex : ∃ C, PySem.W.nsIn K mainGlobals n = some (some (.ref C)) ∧ PySem.W.subIn K (.ref C) (.type "str") = some false
end
end L3
namespace L3
open PySem PySem.Spec PyProof.Rows L2
section
variable {X : Cx} {Z : Zn X.kn} {e : Expr} {te : TE3} {p pos apos cpos : Pos}
theorem Rpk.valRps {K : Kn} {F : Addr → Prop} {H : Hp} : ∀ {kvs : List (Key × D)} {ks : List (Key × V)}, Rpk K F H kvs ks → Rps K F H (kvs.map (·.2)) (ks.map (·.2))
  | _, _, .nil => .nil
  | _, _, .cons d r => .cons d (Rpk.valRps r)
theorem kv_vals {ks : List (Key × V)} {vs : List (Key × Value)} (h : KV ks vs) : Vals (ks.map (·.2)) (vs.map (·.2)) := by
  unfold KV at h
  induction h with
  | nil => exact .nil
  | cons h _ ih => exact .cons h.2 ih
def vValL (te : TE3) : TE3 := fun δ μ R => te δ μ fun x μ1 => ∃ kvs, dctOf μ1 x = some kvs ∧ R (.lst (kvs.map (·.2))) μ1
theorem e_valL (hc : X.calm = true) (hm : X.mg "list" = none) (he : E3 X Z e te) (hg : Gl X "list" := by rfl) (hv : bootBuiltins "list" = some (.type "list") := by decide +kernel) (hbase : attributeBase e "values" X.env (eval e X.env) = eval e X.env := by rfl) (hline : (apos.endLine == cpos.line) = true := by rfl)
    (hs : starEach [.Call (.Attribute e "values" apos) [] [] cpos] X.env = (false, eval (.Call (.Attribute e "values" apos) [] [] cpos) X.env) :: starEach [] X.env := by rfl) :
    E3 X Z (.Call (.Name "list" p) [.Call (.Attribute e "values" apos) [] [] cpos] [] pos) (vValL te) := by
  refine ⟨fun pins s σ H Q I rd => ?_⟩
  obtain ⟨F, δ, μ, R, sm, sl, rd, kk⟩ := rd
  refine wpAny_Call_Name_kw (ld_blt I hg hm hv (PyProof.Rows.callWith_type1 ?_ hs rfl))
  rw [hs]
  show wpAny _ _ (spliced ((false, eval (.Call (.Attribute e "values" apos) [] [] cpos) X.env) :: backTo pos (starEach [] X.env))) _ _ s
  refine Calls.spliced_cons (wpAny_Call_method (T := "dict") (id := "dict.values") hbase rfl hline PySem.F.plainAttrs_dict PySem.F.slot_dict_values PySem.F.type_dict_values (thn (he.run pins s σ H _ I (got1 sm sl rd)) fun u s1 ⟨v, H1, I1, rx, F1, d, μ1, g, r1, kvs, ek, q⟩ => ?_))
  obtain ⟨D, ks, rfl, rk, rs⟩ := dct_of g.sim r1 ek
  obtain rfl : u = Value.ref D := rx
  obtain ⟨hz, low, vs, kv, dd⟩ := dk_rd I1.hok rk
  obtain ⟨ep, hat⟩ := dd.dictAt
  have lk : ks.length = vs.length := Paired.length kv
  refine ⟨dd.typeIs, dd.mapOf.noDict, ?_⟩
  show wpAny _ _ (callWith cpos (.builtin "dict.values") [.ref D] [] []) _ X.xe s1
  refine method_meetsIn PySem.F.slot_dict_values PySem.F.entry_dict_values rfl (PySem.evalArgs_none ⟨rfl, dd.typeIs, PySem.F.args_dict_values_1 _, _, meets_dict_values (mixKind X.prog X.w) D low, ⟨vs, dd⟩, Calls.spliced_nil ?_⟩)
  refine PySem.W.kdl_call (PySem.W.kdl_values (knd := mixKind X.prog X.w) (kvs := vs) (ep := ep)) (I1.ok.hd hc) ⟨⟨_, Heap.get?_push_size _ rfl, rfl, rfl⟩, hat.push _⟩ (by omega) fun h' tk acc c hk hD hacc => ?_
  have I2 : Inv X pins σ H1 { s1 with heap := s1.heap.push { cls := .type "dict_values", data := .fields #[.ref D] } } := I1.kept (t' := s1.toks) fun _ _ q => Heap.get?_push_of_some _ q
  have ea : acc.toList = vs.map (·.2) := PySem.W.kdl_vals_eq acc.toList (by rw [Array.length_toList]; exact hacc.1) fun j v e => hacc.2 j v (by rw [← Array.getElem?_toList]; exact e)
  have hv2 : Vals (ks.map (·.2)) acc.toList := by
    rw [ea]
    exact kv_vals kv
  have J := I2.laid (t' := tk) (a := ({ s1 with heap := s1.heap.push { cls := .type "dict_values", data := .fields #[.ref D] } } : Shared).heap.objs.size) (o := .lst (ks.map (·.2))) hk (Nat.le_refl _)
    (show ObjOk X.prog X.w _ _ _ (.lst (ks.map (·.2))) from ⟨by rw [List.length_map]; exact hz, acc.toList, c, hv2, by rw [Array.toArray_toList]; exact hD⟩)
  have hfree : H1 ({ s1 with heap := s1.heap.push { cls := .type "dict_values", data := .fields #[.ref D] } } : Shared).heap.objs.size = none := I2.hok.fresh (Nat.le_refl _)
  have g2 := g.sim.frzS (o := .lst (ks.map (·.2))) hfree
  exact ⟨.ref _, _, J, rfl, kk _ _ _ _ μ1 (g.trans g2) (.lst (.inr rfl) upd_same (rs.valRps.st g2)) q⟩
end
end L3
namespace L3
open PySem PySem.Spec PyProof.Rows L2
abbrev tupS (s : Shared) (us : List Value) : Shared := { s with heap := s.heap.push { cls := .type "tuple", data := .seq us.toArray } }
def BdV (fd : FuncData) (ps : List Str) (n : Nat) : Prop := ∀ (u : Value) (us : List Value), us.length = n → bindArgs fd ⟨u :: us, []⟩ = newTuple us >>= fun t => pure (ps.zip [u, t])
structure FnV (P : Program) (w : World) (K : PySem.W.Frag) (mg : Str → Option Value) (base : Heap) (X0 : CXT) (k : Nat) (f : Addr) (fd : FuncData) (ps : List Str) (sp : Sp) : Prop where
  wide : ∀ xs H Q E, sp xs H Q E → xs.length = ps.length
  go : ∀ (A : Around) (fs : List Env) (s : Shared) (H : Hp) (u : Value) (us : List Value) (xs : List V) (Q : VK) (E : XK), RoomG k A → K.In s.heap → us.length ≤ sizeLine → BdV fd ps us.length → Env0 P w K mg base A fs (tupS s us) H →
    Vals xs [u, .ref s.heap.objs.size] → sp xs H Q E → codeAny (model P w) A (.call (.ref f) ⟨u :: us, []⟩) (CR X0 fs P w H (tupS s us) Q E) s
structure MetV (P : Program) (w : World) (K : PySem.W.Frag) (mg : Str → Option Value) (base : Heap) (X0 : CXT) (k : Nat) (n m : Str) (cnt : Nat) (lsp : Sp) : Prop where
  ex : ∃ (C f : Addr) (fd : FuncData) (ps : List Str), PySem.W.nsIn K mainGlobals n = some (some (.ref C)) ∧ Cls K C ∧ Meth K C m f ∧ BdV fd ps cnt ∧ FnV P w K mg base X0 k f fd ps lsp
end L3
namespace L3
open PySem PySem.Spec PyProof.Rows L2
def pAd (K : PySem.W.Frag) (p : Str × Option Str) : Addr := He.fAd K p
def gAd (K : PySem.W.Frag) (p : Str × Option Str) : Addr := match PySem.W.recIn K (pAd K p) "property" with
  | some (.ref g :: _) => g
  | _ => 0
def fnG (K : PySem.W.Frag) (p : Str × Option Str) : He.FnW := match K.lookup (gAd K p) with
  | some ⟨_, _, .func fd, _⟩ => some (fd.name, fd.qualname, fd.params, fd.body, fd.scope, fd.globals, fd.closure, fd.builtins)
  | _ => none
def okG (K : PySem.W.Frag) (d : He.DefD) : Bool := PySem.W.keepIn K (.ref (gAd K d.at_)) && (match K.lookup (gAd K d.at_) with
  | some ⟨_, _, .func fd, _⟩ => PySem.W.codeIn K fd.code d.qual && (He.dflB K fd.defaults (d.dvs K) && He.kwdB K fd.kwdefaults (d.kws K))
  | _ => false)
def obsP (fa : List Fb) (fn gn : List He.DefD) (K : PySem.W.Frag) : He.AlD := ((fa.all fun f => f K) && ((fn.all fun d => d.ok K) && gn.all fun d => okG K d), (fn.map fun d => He.fnW K d.at_) ++ gn.map fun d => fnG K d.at_)
def SaysP (fa : List Fb) (fn gn : List He.DefD) (K : PySem.W.Frag) : Prop := obsP fa fn gn K = He.valD (fn ++ gn)
section
variable {fa : List Fb} {fn gn : List He.DefD} {K : PySem.W.Frag}
theorem SaysP.all (c : SaysP fa fn gn K) : (fa.all fun f => f K) = true ∧ (fn.all fun d => d.ok K) = true ∧ (gn.all fun d => okG K d) = true := by
  obtain ⟨h1, h2⟩ := Bool.and_eq_true_iff.mp (congrArg (fun z : He.AlD => z.1) c)
  obtain ⟨h2, h3⟩ := Bool.and_eq_true_iff.mp h2
  exact ⟨h1, h2, h3⟩
theorem SaysP.two (c : SaysP fa fn gn K) : (fn.map fun d => He.fnW K d.at_) = fn.map He.DefD.val ∧ (gn.map fun d => fnG K d.at_) = gn.map He.DefD.val := by
  have e : ((fn.map fun d => He.fnW K d.at_) ++ gn.map fun d => fnG K d.at_) = (fn ++ gn).map He.DefD.val := congrArg (fun z : He.AlD => z.2) c
  rw [List.map_append] at e
  exact List.append_inj e (by rw [List.length_map, List.length_map])
theorem SaysP.fact (c : SaysP fa fn gn K) (i : Nat) {f : Fb} (h : fa[i]? = some f := by rfl) : f K = true := List.all_eq_true.mp c.all.1 f (List.mem_of_getElem? h)
theorem SaysP.def_ (c : SaysP fa fn gn K) (i : Nat) {d : He.DefD} (h : fn[i]? = some d := by rfl) : ∃ fd, FunD K d.name d.qual d.params d.body d.scope (d.dvs K) (d.kws K) (He.fAd K d.at_) fd := by
  have e2 : (fn.map fun d => He.fnW K d.at_)[i]? = (fn.map He.DefD.val)[i]? := by rw [c.two.1]
  rw [List.getElem?_map, List.getElem?_map, h] at e2
  exact He.DefD.funD (Option.some.inj e2) (List.all_eq_true.mp c.all.2.1 d (List.mem_of_getElem? h))
end
end L3
namespace L3
open PySem PySem.Spec PyProof.Rows L2
structure Prop3 (P : Program) (w : World) (K : PySem.W.Frag) (mg : Str → Option Value) (base : Heap) (X0 : CXT) (k : Nat) (n f : Str) (lsp : Sp) : Prop where
  ex : ∃ (C p g : Addr) (fd : FuncData) (ps : List Str), PySem.W.nsIn K mainGlobals n = some (some (.ref C)) ∧ Cls K C ∧ PropOf K C f p g ∧ Bd3 K fd ps 1 [] (allPos 1) [] ∧ FnG P w K mg base X0 k g fd ps lsp
end L3
namespace L3
open PySem PySem.Spec L2 PyProof.Rows
abbrev TW3 := St3 → Mu → (Bool → St3 → Mu → Prop) → Prop
theorem _root_.L2.PTw.imp {X : Cx} {e : Expr} {t t' : TTw} (h : PTw X e t) (i : ∀ σ H Q, t' σ H Q → t σ H Q) : PTw X e t' := ⟨fun pins s σ H Q I q => h.run pins s σ H Q I (i _ _ _ q)⟩
structure PWw (X : Cx) (e : Expr) (t : TTw) : Prop where
  run : ∀ (whole : Sem Value) (pins : List (Addr × Obj)) (s : Shared) (σ : L2.St) (H : Hp) (Q : Bool → L2.St → Hp → Prop), Inv X pins σ H s → t σ H Q → wpAny (model X.prog X.w) X.A (isTrue e X.env whole) (TPw X pins Q) X.xe s
theorem PWw.pt {X : Cx} {e : Expr} {t : TTw} (h : PWw X e t) : PTw X e t := ⟨h.run _⟩
theorem PWw.imp {X : Cx} {e : Expr} {t t' : TTw} (h : PWw X e t) (i : ∀ σ H Q, t' σ H Q → t σ H Q) : PWw X e t' := ⟨fun wh pins s σ H Q I q => h.run wh pins s σ H Q I (i _ _ _ q)⟩
end L3
namespace L3
open PySem PySem.Spec L2
section
variable {X : Cx} {Z : Zn X.kn}
def cntD (d : D) (xs : List D) : Nat := xs.countP fun z => eqD z d
end
end L3
namespace PySem
open SeqAt MeetsSeq MeetsSeq2 SeqRoads2
open AutoSeq1 (wpAny_loadPart')
def InT (prog : Program) (w : World) (l : Addr) (items : Array Value) (x : Value) (e : Value → Bool) (i : Nat) : Spec := fun A R s => s.heap.IsList l items ∧ (∀ y, y ∈ items → EqIn prog w A.in1 s y x (e y)) ∧ R (.ok (.ret (.bool ((items.toList.drop i).any e)))) s
theorem in_loopT {prog : Program} {w : World} (l : Addr) (items : Array Value) (x : Value) (e : Value → Bool) (k : Nat) : ∀ i : Nat, items.size - i = k → MeetsIn prog w (Builtin.«list.__contains__.loop» ⟨[.ref l, x, rawInt i], []⟩) (InT prog w l items x e i) := by
  induction k with
  | zero =>
    intro i hk A R s h
    obtain ⟨⟨⟨cls, dd, data, sl⟩, hl, hc, n, hd⟩, h3, h4⟩ := h
    simp only at hc hd
    subst hc hd
    obtain ⟨hp, g, d, tk, os⟩ := s
    wp_walk using wpAny_loadPart' hl
    have hi : items[((i : Nat) : Int).toNat]? = none := by simp; omega
    have hdr : items.toList.drop i = [] := by simp; omega
    rw [hdr] at h4
    rw [hi]
    wp_walk
    exact h4
  | succ k ih =>
    intro i hk A R s h
    obtain ⟨⟨⟨cls, dd, data, sl⟩, hl, hc, n, hd⟩, h3, h4⟩ := h
    have hz : s.heap.IsList l items := ⟨⟨cls, dd, data, sl⟩, hl, hc, n, hd⟩
    simp only at hc hd
    subst hc hd
    have hlt : i < items.size := by omega
    have hi : items[((i : Nat) : Int).toNat]? = some items[i] := by simp [hlt]
    have hc : ((i : Int) + 1) = ((i + 1 : Nat) : Int) := by push_cast; rfl
    have go := h3 items[i] (Array.getElem_mem hlt)
    have hdr : items.toList.drop i = items[i] :: items.toList.drop (i + 1) := by simp [List.drop_eq_getElem_cons, hlt]
    rw [hdr, List.any_cons] at h4
    obtain ⟨hp, g, d, tk, os⟩ := s
    wp_walk using wpAny_loadPart' hl
    rw [hi]
    refine wpAny_bind (go _ _ ?_)
    cases he : e items[i] with
    | true =>
      rw [he] at h4
      wp_walk
      exact h4
    | false =>
      rw [he, Bool.false_or] at h4
      wp_walk
      rw [hc]
      exact ⟨plainId_quiet plain_contains_loop _, codeAny_builtin entry_contains_loop (by
        rw [Around.under_plainId plain_contains_loop _]
        exact ih (i + 1) (by omega) A R _ ⟨hz, h3, h4⟩)⟩
theorem list_containsT {prog : Program} {w : World} (l : Addr) (items : Array Value) (x : Value) (e : Value → Bool) : MeetsIn prog w (Builtin.«list.__contains__» ⟨[.ref l, x], []⟩) (InT prog w l items x e 0) := by
  intro A R s h
  have hz := h
  obtain ⟨⟨⟨cls, dd, data, sl⟩, hl, hc, n, hd⟩, h3, h4⟩ := h
  simp only at hc hd
  subst hc hd
  obtain ⟨hp, g, d, tk, os⟩ := s
  wp_walk using wpAny_loadPart' hl
  exact ⟨plainId_quiet plain_contains_loop _, codeAny_builtin entry_contains_loop (by
    rw [Around.under_plainId plain_contains_loop _]
    exact in_loopT l items x e _ 0 rfl A R _ hz)⟩
section
variable {prog : Program} {w : World} {A : Around} {E : Value → Shared → Prop} {s : Shared}
theorem has_listT {l : Addr} {items : Array Value} {x : Value} {Q : Bool → Shared → Prop} (e : Value → Bool) (hl : s.heap.IsList l items) (he : ∀ y, y ∈ items → EqIn prog w A.in1 s y x (e y)) (h : Q (items.any e) s) : wpAny (model prog w) A (contains (.ref l) x) Q E s := by
  obtain ⟨⟨cls, dd, data, sl⟩, ho, hc, n, hd⟩ := id hl
  simp only at hc hd
  subst hc hd
  refine wpAny_contains_slot ⟨_, ho, rfl⟩ F.slot_list_contains (wpAny_mono (call_meetsIn (Q := fun v s' => v = .bool (items.any e) ∧ s' = s) F.slot_list_contains ⟨_, ho, rfl⟩ F.entry_list_contains (F.args_list_contains_2 _ _) (list_containsT l items x e) ⟨hl, he, by rw [List.drop_zero, Array.any_toList]; exact ⟨rfl, rfl⟩⟩) (fun v s' hv => ?_) fun _ _ h => h)
  obtain ⟨rfl, rfl⟩ := hv
  exact wpAny_truthy_bool h
theorem in_listT {l : Addr} {items : Array Value} {x : Value} {Q : Value → Shared → Prop} (e : Value → Bool) (hl : s.heap.IsList l items) (he : ∀ y, y ∈ items → EqIn prog w A.in1 s y x (e y)) (h : Q (.bool (items.any e)) s) : wpAny (model prog w) A (compareOp .In x (.ref l)) Q E s := by
  show wpAny _ A (do return .bool (← contains (.ref l) x)) Q E s
  exact wpAny_bind (has_listT e hl he (wpAny_pure h))
end
end PySem
namespace L3
open PySem PySem.Spec PyProof.Rows L2
theorem vals_refs : ∀ {as : List Addr} {us : List Value}, Vals (as.map V.ref) us → us = as.map Value.ref
  | [], _, .nil => rfl
  | a :: as, u :: us, .cons r t => by
    have e : u = Value.ref a := r
    rw [e, vals_refs t]
    rfl
end L3
namespace PySem.XS
open PySem PySem.W PySem.Calls PyProof.Rows PyProof.V PySem.Spec
theorem sum_src {prog : Program} {w : World} {A : Around} {E : Value → Shared → Prop} {s : Shared} {T : String} {r d : Addr} {n : Nat} {P : Nat → Value → Prop} {OK : Heap → Prop} {Q : Value → Shared → Prop}
    (K : KdlSrc prog w T r d n P OK) (hh : A.handled = none) (hok : OK s.heap) (val : Nat → Int) (hval : ∀ (i : Nat) (v : Value), P i v → ∃ t : Tok, v = Value.int (val i) t)
    (h : ∀ (h' : Heap) (tk : Nat) (t' : Tok), (∀ b o, s.heap.get? b = some o → h'.get? b = some o) → Q (.int (preSum val n) t') { s with heap := h', toks := tk }) :
    wpAny (model prog w) A (call (.builtin "sum") [.ref r]) Q E s := by
  refine call_sum_walkAnyS ?_
  obtain ⟨oI, St, hit, W, st⟩ := K.iter A.in1 s hh hok
  refine hit _ _ ⟨s.heap.objs.size, _, _, _, n, P, _, val, rfl, W.toS, st, fun b hb => ?_, hval, fun s' t' hm => ?_⟩
  · show b < (s.heap.push oI).objs.size
    rw [size_push']
    rcases List.mem_cons.mp hb with e | hb
    · rw [e]; exact Nat.lt_succ_self _
    · rw [List.mem_singleton.mp hb]; exact Nat.lt_succ_of_lt (K.there _ hok).2
  · have hk : ∀ b o, s.heap.get? b = some o → s'.heap.get? b = some o := fun b o e =>
      hm.heap b o (fun hI => absurd (Heap.lt_size e) (by rw [List.mem_singleton.mp hI]; exact Nat.lt_irrefl _)) (Heap.get?_push_of_some _ e)
    rw [Moved.eq_with hm]
    exact h s'.heap s'.toks t' hk
end PySem.XS
namespace L3
open PySem PySem.Spec PyProof.Rows L2
section
variable {X : Cx} {Z : Zn X.kn} {e : Expr} {te : TE3} {p pos apos cpos : Pos}
theorem rps_ints9 {K : Kn} {F : Addr → Prop} {H : Hp} : ∀ {ns : List Int} {vs : List V}, Rps K F H (ns.map D.int) vs → vs = ns.map V.int
  | [], _, h => by cases h; rfl
  | n :: ns, _, h => by
    cases h with
    | cons r t =>
      cases r
      rw [rps_ints9 t]
      rfl
def vSumV (te : TE3) : TE3 := fun δ μ R => te δ μ fun x μ1 => ∃ (kvs : List (Key × D)) (ns : List Int), dctOf μ1 x = some kvs ∧ kvs.map (·.2) = ns.map D.int ∧ R (.int ns.sum) μ1
theorem e_sumV (hc : X.calm = true) (hm : X.mg "sum" = none) (he : E3 X Z e te) (hg : Gl X "sum" := by rfl) (hv : bootBuiltins "sum" = some (.builtin "sum") := by decide +kernel) (hbase : attributeBase e "values" X.env (eval e X.env) = eval e X.env := by rfl) (hline : (apos.endLine == cpos.line) = true := by rfl)
    (hs : starEach [.Call (.Attribute e "values" apos) [] [] cpos] X.env = (false, eval (.Call (.Attribute e "values" apos) [] [] cpos) X.env) :: starEach [] X.env := by rfl) :
    E3 X Z (.Call (.Name "sum" p) [.Call (.Attribute e "values" apos) [] [] cpos] [] pos) (vSumV te) := by
  refine ⟨fun pins s σ H Q I rd => ?_⟩
  obtain ⟨F, δ, μ, R, sm, sl, rd, kk⟩ := rd
  refine wpAny_Call_Name_kw (ld_blt I hg hm hv (PyProof.Rows.callWith_builtin1 ?_ hs rfl))
  rw [hs]
  show wpAny _ _ (spliced ((false, eval (.Call (.Attribute e "values" apos) [] [] cpos) X.env) :: backTo pos (starEach [] X.env))) _ _ s
  refine Calls.spliced_cons (wpAny_Call_method (T := "dict") (id := "dict.values") hbase rfl hline PySem.F.plainAttrs_dict PySem.F.slot_dict_values PySem.F.type_dict_values (thn (he.run pins s σ H _ I (got1 sm sl rd)) fun u s1 ⟨v, H1, I1, rx, F1, d, μ1, g, r1, kvs, ns, ek, en, q⟩ => ?_))
  obtain ⟨D, ks, rfl, rk, rs⟩ := dct_of g.sim r1 ek
  obtain rfl : u = Value.ref D := rx
  obtain ⟨hz, low, vs, kv, dd⟩ := dk_rd I1.hok rk
  obtain ⟨ep, hat⟩ := dd.dictAt
  have lk : ks.length = vs.length := Paired.length kv
  refine ⟨dd.typeIs, dd.mapOf.noDict, ?_⟩
  show wpAny _ _ (callWith cpos (.builtin "dict.values") [.ref D] [] []) _ X.xe s1
  refine method_meetsIn PySem.F.slot_dict_values PySem.F.entry_dict_values rfl (PySem.evalArgs_none ⟨rfl, dd.typeIs, PySem.F.args_dict_values_1 _, _, meets_dict_values (mixKind X.prog X.w) D low, ⟨vs, dd⟩, Calls.spliced_nil ?_⟩)
  have eks : ks.map (·.2) = ns.map V.int := by
    have := rs.valRps
    rw [en] at this
    exact rps_ints9 this
  have kvv := kv_vals kv
  rw [eks] at kvv
  refine PySem.XS.sum_src (PySem.W.kdl_values (knd := mixKind X.prog X.w) (kvs := vs) (ep := ep)) (I1.ok.hd hc) ⟨⟨_, Heap.get?_push_size _ rfl, rfl, rfl⟩, hat.push _⟩ (fun i => ns.getD i 0) (fun i v hv => ?_) fun h' tk t' hk => ?_
  · obtain ⟨k, ek2⟩ := hv
    have h1 : (vs.map (·.2))[i]? = some v := by rw [List.getElem?_map, ek2]; rfl
    have li : i < ns.length := by
      have := (List.getElem?_eq_some_iff.mp h1).1
      rw [← kvv.length, List.length_map] at this
      exact this
    obtain ⟨u, hu, ru⟩ := Vals.get (i := i) (x := V.int ns[i]) kvv (by rw [List.getElem?_map, List.getElem?_eq_getElem li]; rfl)
    rw [h1] at hu
    cases hu
    obtain ⟨t, rfl⟩ := ru
    exact ⟨t, by rw [List.getD_eq_getElem?_getD, List.getElem?_eq_getElem li]; rfl⟩
  · have I2 : Inv X pins σ H1 { s1 with heap := h', toks := tk } := I1.kept fun b o z => hk b o (Heap.get?_push_of_some _ z)
    have ln : ns.length = vs.length := by
      have := kvv.length
      rw [List.length_map, List.length_map] at this
      exact this
    have es : preSum (fun i => ns.getD i 0) vs.length = ns.sum := by
      rw [preSum_getD, List.take_of_length_le (by omega)]
    rw [es]
    exact ⟨.int ns.sum, H1, I2, ⟨_, rfl⟩, kk _ _ _ _ μ1 g (.int _) q⟩
end
end L3
namespace L2
open PySem PySem.Spec PyProof.Rows
section
variable {X : Cx} {e st : Expr} {te : TE} {tp : TO} {p3 pos : Pos}
theorem pick_fwd (a b : Value) : slicePick #[a, b] none none (some 1) = #[a, b] := by
  unfold slicePick
  rw [show (#[a, b] : Array Value).size = 2 from rfl, show sliceBounds none none (some 1) 2 = (0, 2, 1) from by decide]
  show ((sliceRange 0 2 1).filterMap _).toArray = _
  rw [show sliceRange 0 2 1 = [0, 1] from by decide]
  rfl
theorem pick_bwd (a b : Value) : slicePick #[a, b] none none (some (-1)) = #[b, a] := PySem.W.krv_pick #[a, b]
def tStep2 (K : PySem.W.Frag) (te : TE) (tp : TO) : TE := fun σ H Q => te σ H fun x H1 => tp σ H1 fun o H2 => ∃ a v0 v1 i, x = .ref a ∧ o = some i ∧ SqL K H2 a [v0, v1] ∧ (i = 1 ∨ i = -1) ∧ ∀ p, H2 p = none → Q (.ref p) (upd H2 p (.lst (if i = 1 then [v0, v1] else [v1, v0])))
theorem pe_step2 (he : PE X e te) (hst : PO X (some st) tp) : PE X (.Subscript e (.Slice none none (some st) p3) pos) (tStep2 X.K te tp) := by
  refine ⟨fun pins s σ H Q I h => ?_⟩
  refine Subscript_ (thn (he.run pins s σ H _ I h) fun v s1 ⟨x, H1, I1, r1, q1⟩ => ?_)
  refine wpAny_Slice (thn (po_none.run pins s1 σ H1 (fun o H2 => o = none ∧ H2 = H1) I1 ⟨rfl, rfl⟩) fun vl s2 ⟨l, H2, I2, pl, el, e2⟩ => ?_)
  subst el e2
  refine thn (po_none.run pins s2 σ H2 (fun o H3 => o = none ∧ H3 = H2) I2 ⟨rfl, rfl⟩) fun vu s3 ⟨u, H3, I3, pu, eu, e3⟩ => ?_
  subst eu e3
  refine thn (hst.run pins s3 σ H3 _ I3 q1) fun vs s4 ⟨o, H4, I4, ps, q4⟩ => ?_
  obtain ⟨a, v0, v1, i, rfl, rfl, hx, hi, q⟩ := q4
  cases r1
  have I5 : Inv X pins σ H4 { s4 with heap := s4.heap.push { cls := .type "slice", data := .fields #[vl, vu, vs] } } := I4.kept (t' := s4.toks) fun b ob q => Heap.get?_push_of_some _ q
  obtain ⟨its, r, ht, hz⟩ := I5.list hx
  obtain ⟨u0, u1, rfl, ru0, ru1⟩ : ∃ u0 u1, its = [u0, u1] ∧ RelV v0 u0 ∧ RelV v1 u1 := by
    cases r with
    | cons p q =>
      cases q with
      | cons p' q' =>
        cases q'
        exact ⟨_, _, rfl, p, p'⟩
  show wpAny (model X.prog X.w) X.A (subscriptTail e (.Slice none none (some st) p3) (.ref a) (.ref s4.heap.objs.size)) (EP X pins σ Q) X.xe { s4 with heap := s4.heap.push { cls := .type "slice", data := .fields #[vl, vu, vs] } }
  refine tail_any (ops := [.ref a, .ref s4.heap.objs.size]) ht.isList.typeIs (PySem.slot_list_getitem.lookup) ?_ (by with_unfolding_all rfl)
  rcases hi with rfl | rfl
  · refine wpAny_getItem_list_slice ht.isList (Heap.IsSliceOf.new _ vl vu vs) pl pu ps (by decide) ?_ (by show 2 ≤ sizeLine; decide)
    rw [show ([u0, u1] : List Value).toArray = #[u0, u1] from rfl, pick_fwd]
    rw [if_pos rfl] at q
    refine ⟨.ref _, _, I5.laid (t' := s4.toks) (o := .lst [v0, v1]) (fun b ob q => Heap.get?_push_of_some _ q) (Nat.le_refl _) ?_, rfl, q _ (I5.hok.fresh (Nat.le_refl _))⟩
    exact ⟨by show 2 ≤ sizeLine; decide, _, 0, .cons ru0 (.cons ru1 .nil), Heap.get?_push_size _ rfl⟩
  · refine wpAny_getItem_list_slice ht.isList (Heap.IsSliceOf.new _ vl vu vs) pl pu ps (by decide) ?_ (by show 2 ≤ sizeLine; decide)
    rw [show ([u0, u1] : List Value).toArray = #[u0, u1] from rfl, pick_bwd]
    rw [if_neg (by decide)] at q
    refine ⟨.ref _, _, I5.laid (t' := s4.toks) (o := .lst [v1, v0]) (fun b ob q => Heap.get?_push_of_some _ q) (Nat.le_refl _) ?_, rfl, q _ (I5.hok.fresh (Nat.le_refl _))⟩
    exact ⟨by show 2 ≤ sizeLine; decide, _, 0, .cons ru1 (.cons ru0 .nil), Heap.get?_push_size _ rfl⟩
end
end L2
namespace L3
open PySem PySem.Spec PyProof.Rows L2
section
variable {X : Cx} {Z : Zn X.kn} {e st : Expr} {te : TE3} {tp : TO3} {p3 pos : Pos}
def vStep2 (te : TE3) (tp : TO3) : TE3 := fun δ μ R => te δ μ fun x μ1 => tp δ μ1 fun o μ2 => ∃ d0 d1 i, o = some i ∧ rdL μ2 x = some [d0, d1] ∧ (i = 1 ∨ i = -1) ∧ R (.lst (if i = 1 then [d0, d1] else [d1, d0])) μ2
theorem e_step2 (he : E3 X Z e te) (hp : O3 X Z (some st) tp) : E3 X Z (.Subscript e (.Slice none none (some st) p3) pos) (vStep2 te tp) := (pe_step2 he hp).imp fun σ H Q h => by
  obtain ⟨F, δ, μ, R, s, sl, h, k⟩ := h
  refine ⟨F, δ, μ, _, s, sl, h, fun F1 v H1 d μ1 g r1 q1 => ⟨F1, δ, μ1, _, g.sim, sl.st g, q1, fun F2 o H2 μ2 g2 q2 => ?_⟩⟩
  obtain ⟨d0, d1, i, rfl, e1, hi, q2⟩ := q2
  have r2 := r1.st g2
  obtain ⟨p, us, rfl, sq, rr⟩ := rdl_of g2.sim r2 e1
  obtain ⟨v0, v1, rfl, rv0, rv1⟩ : ∃ v0 v1, us = [v0, v1] ∧ Rp X.kn F2 H2 d0 v0 ∧ Rp X.kn F2 H2 d1 v1 := by
    cases rr with
    | cons p q =>
      cases q with
      | cons p' q' =>
        cases q'
        exact ⟨_, _, rfl, p, p'⟩
  refine ⟨p, v0, v1, i, rfl, rfl, sq, hi, fun l hl => ?_⟩
  by_cases h1 : i = 1
  · rw [if_pos h1] at q2 ⊢
    have g3 := g2.sim.frzS (o := .lst [v0, v1]) hl
    exact k _ _ _ _ μ2 ((g.trans g2).trans g3) (.lst (.inr rfl) upd_same ((Rps.cons rv0 (.cons rv1 .nil)).st g3)) q2
  · rw [if_neg h1] at q2 ⊢
    have g3 := g2.sim.frzS (o := .lst [v1, v0]) hl
    exact k _ _ _ _ μ2 ((g.trans g2).trans g3) (.lst (.inr rfl) upd_same ((Rps.cons rv1 (.cons rv0 .nil)).st g3)) q2
end
end L3
namespace C1
open PySem PySem.Spec L2 L3 C2
local macro_rules | `(tactic| walk_at "l3") => `(tactic| simp only [sSeq, sNext, sIf, sRet, sRetN, sSet, sDrop, sSub, sFor, sAsg, sPar2, sPar3, sCont, sFld3, sFld2, sAug, vVar, vC, vNil, vCons, vOp, vB, vChain, vAnd, vOr, vNot, vAndV, vOrV, vNotV, vIf, vUn, vCB, vLst, vTup, vLstT, vCall, vCal, vMak, vMetA, vFld, vSl, vPart, vNoP, vLc, vLcT, vDc, vBM, vBM0, vGet1, vGet2, vItems, vRev, vLRg, vStar, vDZip, iRg1, iRg2, iRgD, iAny, iEnm, iItm, iVal, vDict0, vDict0T, vDict0N, vDisp, vDispT, vPairs,
  List.getElem?_cons_zero, List.getElem?_cons_succ, List.set_cons_zero, List.set_cons_succ, wipe3, endsOf_rt, endsOf_nx, gLt, gLe, gGt, gGe, L3.gSub, gMul, gMod, gDiv, gPow, g2I, g2I0, gN, gT, gGo, Option.bind_some, gAdd_ii, gAdd_ss, gNeg_i, gMax2_ii, gMin2_ii, gLen_s, gEqS_ii, gEqS_ss, gEqS_bb, gNeS_ii, gNeS_ss, gIsN_n, gNotN_n, gSl_s, isNonD, if_true, if_false, Bool.false_eq_true, Bool.not_true, Bool.not_false])
def brk (F : Option Int) (lag : Int) : Bool := match F with
  | none => true
  | some v => decide (lag < v)
def brL (marks : List Str) (t1 : List Tie) (c1 : Lims) (rows : List Tie) : List (Str × Int) := (rows.filter fun t => brk (farL marks t1 c1 t.1 t.2.1) t.2.2).map fun t => (t.2.1, t.2.2 + 1)
def rowsC (t2 : List Tie) (c2 : Lims) : List Tie := t2 ++ c2.map fun p => ((("" : Str), p.1, p.2) : Tie)
def leP (marks : List Str) (t1 : List Tie) (c1 : Lims) (p : Str × Int) : Str → Int := leastC marks t1 c1 p.1 p.2
def tot (marks : List Str) (t1 : List Tie) (c1 : Lims) (p : Str × Int) : Int := (marks.map (leP marks t1 c1 p)).sum
theorem br_mem {marks : List Str} {t1 : List Tie} {c1 : Lims} {rows : List Tie} {p : Str × Int} : p ∈ brL marks t1 c1 rows ↔ ∃ t ∈ rows, brk (farL marks t1 c1 t.1 t.2.1) t.2.2 = true ∧ p = (t.2.1, t.2.2 + 1) := by
  unfold brL
  rw [List.mem_map]
  constructor
  · rintro ⟨t, ht, rfl⟩
    obtain ⟨h1, h2⟩ := List.mem_filter.mp ht
    exact ⟨t, h1, h2, rfl⟩
  · rintro ⟨t, h1, h2, rfl⟩
    exact ⟨t, List.mem_filter.mpr ⟨h1, h2⟩, rfl⟩
theorem rows_mem {t2 : List Tie} {c2 : Lims} {t : Tie} : t ∈ rowsC t2 c2 ↔ t ∈ t2 ∨ ∃ p ∈ c2, t = (("" : Str), p.1, p.2) := by
  unfold rowsC
  rw [List.mem_append, List.mem_map]
  exact or_congr Iff.rfl ⟨fun ⟨p, a, b⟩ => ⟨p, a, b.symm⟩, fun ⟨p, a, b⟩ => ⟨p, a, b.symm⟩⟩
theorem rows_ok {marks : List Str} {t2 : List Tie} {c2 : Lims} (ok : PlOk marks t2 c2) {t : Tie} (h : t ∈ rowsC t2 c2) : t.1 ∈ ("" : Str) :: marks ∧ t.2.1 ∈ marks ∧ 0 ≤ t.2.2 := by
  rcases rows_mem.mp h with h | ⟨p, hp, rfl⟩
  · exact ⟨List.mem_cons_of_mem _ (ok.t.a t h), ok.t.b t h, ok.t.c t h⟩
  · exact ⟨List.mem_cons_self, ok.l.a p hp, ok.l.c p hp⟩
theorem br_lims {marks : List Str} {t1 t2 : List Tie} {c1 c2 : Lims} (lk : LiOk marks c2) {p : Str × Int} : p ∈ brL marks t1 c1 (rowsC t2 (limsOf marks c2)) ↔ p ∈ brL marks t1 c1 (rowsC t2 c2) := by
  have e : ∀ t : Tie, t ∈ rowsC t2 (limsOf marks c2) ↔ t ∈ rowsC t2 c2 := fun t => by
    rw [rows_mem, rows_mem]
    refine or_congr Iff.rfl ⟨fun ⟨p, hp, e⟩ => ⟨p, (mem_limsOf lk).mp hp, e⟩, fun ⟨p, hp, e⟩ => ⟨p, (mem_limsOf lk).mpr hp, e⟩⟩
  rw [br_mem, br_mem]
  exact ⟨fun ⟨t, h, x⟩ => ⟨t, (e t).mp h, x⟩, fun ⟨t, h, x⟩ => ⟨t, (e t).mpr h, x⟩⟩
theorem brk_over {marks : List Str} {t1 : List Tie} {c1 : Lims} (ok : PlOk marks t1 c1) {a b : Str} (ha : a ∈ ("" : Str) :: marks) {lag : Int} (h : brk (farL marks t1 c1 a b) lag = true) : ∀ v, farL marks t1 c1 "" b = some v → lag + 1 ≤ v := fun v hv => by
  rcases List.mem_cons.mp ha with rfl | ha
  · rw [hv] at h
    have := of_decide_eq_true (show decide (lag < v) = true from h)
    omega
  · obtain ⟨i, wv⟩ := (law_isD ok "" b).sound v hv
    obtain ⟨u, hu, l⟩ := (law_isD ok a b).least _ _ (.cons (mem_lawRows.mpr (.inr (.inr ⟨a, ha, rfl⟩))) wv)
    rw [hu] at h
    have := of_decide_eq_true (show decide (lag < u) = true from h)
    omega
theorem far_self {marks : List Str} {ties : List Tie} {caps : Lims} {a b : Str} (ok : PlOk marks ties caps) (ha : a ∈ ("" : Str) :: marks) (hb : b ∈ marks) : ((a = "" ∧ farL marks ties caps a b = (plT marks ties (limsOf marks caps)).L none (some b)) ∨ (a ∈ marks ∧ farL marks ties caps a b = (plT marks ties (limsOf marks caps)).L (some a) (some b))) := by
  have ev : ∀ x ∈ marks, some x ∈ plNodes marks := fun x hx => List.mem_cons_of_mem _ (List.mem_map.mpr ⟨x, hx, rfl⟩)
  rcases List.mem_cons.mp ha with rfl | ha
  · exact .inl ⟨rfl, by rw [lead_eq ok List.mem_cons_self (ev b hb)]; rfl⟩
  · exact .inr ⟨ha, by rw [lead_eq ok (ev a ha) (ev b hb)]; rfl⟩
theorem tl_eq9 {marks : List Str} {ties : List Tie} {caps : Lims} (ok : PlOk marks ties caps) {e : Str} (he : e ∈ marks) (k : Int) : ctK marks (tLeast marks ties (limsOf marks caps) e k) = ctK marks (leastC marks ties caps e k) := by
  unfold ctK cnK
  refine List.map_congr_left fun o ho => ?_
  have ev : ∀ x ∈ marks, some x ∈ plNodes marks := fun x hx => List.mem_cons_of_mem _ (List.mem_map.mpr ⟨x, hx, rfl⟩)
  show ((.inr o : Key), D.int (max 0 (k - ((plT marks ties (limsOf marks caps)).L (some o) (some e)).getD k))) = _
  rw [lead_eq ok (ev o ho) (ev e he)]
  rfl
theorem over_no9 {m : Option Int} {k : Int} (h : ∀ v, m = some v → k ≤ v) : overM m k = false := by
  cases m with
  | none => rfl
  | some v => exact decide_eq_false (by have := h v rfl; omega)
theorem planL9 {marks : List Str} {ties : List Tie} {caps : Lims} (ok : PlOk marks ties caps) : PlOk marks ties (limsOf marks caps) := ⟨ok.e, ok.t, limsOf_ok ok.e ok.l, ok.r⟩
structure Pr2 (marks : List Str) (t1 : List Tie) (c1 : Lims) (t2 : List Tie) (c2 : Lims) : Prop where
  a : PlOk marks t1 c1
  b : PlOk marks t2 c2
theorem Pr2.swap {marks : List Str} {t1 t2 : List Tie} {c1 c2 : Lims} (h : Pr2 marks t1 c1 t2 c2) : Pr2 marks t2 c2 t1 c1 := ⟨h.b, h.a⟩
def brP (marks : List Str) (t1 : List Tie) (c1 : Lims) (t2 : List Tie) (c2 : Lims) : List (Str × Int) := brL marks t1 c1 (rowsC t2 (limsOf marks c2))
def leO9 (marks : List Str) (t1 : List Tie) (c1 : Lims) (p : Str × Int) : MO := .dct (ctK marks (leP marks t1 c1 p))
def PsOk (marks : List Str) (t1 : List Tie) (c1 : Lims) (μ μ' : Mu) (ps : List (Addr × (Str × Int))) : Prop := ∀ x ∈ ps, μ x.1 = none ∧ μ' x.1 = some (leO9 marks t1 c1 x.2)
def spk_breaches : Sp3 := fun ds μ R => ∃ marks t1 c1 t2 c2, ds = [planD marks t1 (limsOf marks c1), planD marks t2 (limsOf marks c2)] ∧ Pr2 marks t1 c1 t2 c2 ∧
  ∀ (ps : List (Addr × (Str × Int))) μ', Le μ μ' → ps.map (·.2) = brP marks t1 c1 t2 c2 → PsOk marks t1 c1 μ μ' ps → R (.lst (ps.map fun x => D.ref x.1)) μ'
def tk_breaches_4 : TS3 := (sRet (vVar 3))
def tk_breaches_3 : TS3 := sSeq (sFor (iItm (vMetA "Plan" "limits" 0 sp_Plan_limits (vVar 1) vNil)) (gT [(gN 8), (gN 9)]) (sSeq (sSet 10 (vMetA "Table" "most" 1 sp_Table_most (vVar 2) (vCons (vVar 8) vNil))) (sIf (vOr (vB (vOp gIsN (vVar 10) (vC .non))) (vB (vOp gGt (vVar 10) (vVar 9)))) (sDrop (vBM "list" gApp (vVar 3) (vCons (vMetA "Table" "least" 2 sp_Table_least (vVar 2) (vCons (vVar 8) (vCons (vOp gAdd (vVar 9) (vC (.int 1))) vNil))) vNil))) sNext))) tk_breaches_4
def tk_breaches_2 : TS3 := sSeq (sFor (iAny (vMetA "Plan" "ties" 0 sp_Plan_ties (vVar 1) vNil)) (gT [(gN 4), (gN 5), (gN 6)]) (sSeq (sSet 7 (vMetA "Table" "lead" 2 sp_Table_lead (vVar 2) (vCons (vVar 4) (vCons (vVar 5) vNil)))) (sIf (vOr (vB (vOp gIsN (vVar 7) (vC .non))) (vB (vOp gGt (vVar 7) (vVar 6)))) (sDrop (vBM "list" gApp (vVar 3) (vCons (vMetA "Table" "least" 2 sp_Table_least (vVar 2) (vCons (vVar 5) (vCons (vOp gAdd (vVar 6) (vC (.int 1))) vNil))) vNil))) sNext))) tk_breaches_3
def tk_breaches_1 : TS3 := sSeq (sSet 3 (vLstT vNil)) tk_breaches_2
def tk_breaches : TS3 := sSeq (sSet 2 (vMak "Table" 1 0 (allPos 2) [] sp_Table___init__ (vCons (vVar 0) vNil) vNil)) tk_breaches_1
theorem purek_breaches (ds : List D) (μ : Mu) (R : DK) (hl : ds.length = 2) (h : spk_breaches ds μ R) : tk_breaches (endsOf R) (start3 ["one", "other", "table", "found", "earlier", "later", "lag", "lead", "event", "limit", "most"] ds) μ := by
  obtain ⟨marks, t1, c1, t2, c2, rfl, pr, h⟩ := h
  have hsl : sizeLine = 16777216 := by decide
  have ok1 := pr.a
  have ok2 := pr.b
  have okL := planL9 ok1
  have okL2 := planL9 ok2
  have tl := ok2.t.le
  have cl := lims_len okL2.l
  have m8 := ok1.e.le
  generalize hP1 : planD marks t1 (limsOf marks c1) = P1
  generalize hP2 : planD marks t2 (limsOf marks c2) = P2
  show tk_breaches (endsOf R) [some P1, some P2, none, none, none, none, none, none, none, none, none] μ
  unfold tk_breaches
  walk_at "l3"
  rw [← hP1]
  refine ⟨rfl, rfl, fun q hq => ⟨q, marks, t1, limsOf marks c1, rfl, mset_same, okL, fun kl ks tk => ⟨rfl, ?_⟩⟩⟩
  rw [mset_mset]
  refine fin_obj (Le.mset_new hq) mset_same hq ?_
  rw [hP1]
  show tk_breaches_1 (endsOf R) [some P1, some P2, some (tabD marks kl ks), none, none, none, none, none, none, none, none] μ
  clear hq q
  generalize hT : tabD marks kl ks = T
  unfold tk_breaches_1
  walk_at "l3"
  refine ⟨Nat.zero_le _, fun q hq => ?_⟩
  have e0 : (mset μ q (.lst [])) q = some (.lst (([] : List (Addr × (Str × Int))).map fun x => D.ref x.1)) := mset_same
  have le0 : Le μ (mset μ q (.lst [])) := Le.mset_new hq
  generalize mset μ q (.lst []) = μ0 at e0 le0
  have add : ∀ {μ1 : Mu} {ps : List (Addr × (Str × Int))} {p : Str × Int} {K : Mu → Prop}, p.1 ∈ marks → 0 ≤ p.2 → (∀ v, farL marks t1 c1 "" p.1 = some v → p.2 ≤ v) → Le μ μ1 → μ1 q = some (.lst (ps.map fun x => D.ref x.1)) → PsOk marks t1 c1 μ μ1 ps → ps.length ≤ 100 →
      (∀ μ2 a, Le μ μ2 → μ2 q = some (.lst ((ps ++ [(a, p)]).map fun x => D.ref x.1)) → PsOk marks t1 c1 μ μ2 (ps ++ [(a, p)]) → K μ2) →
      tyM "list" μ1 (.ref q) ∧ ∃ fs, insOf μ1 "Table" (tabD marks kl ks) = some fs ∧ fs.lookup ("least" : Str) = none ∧ [D.str p.1, D.int p.2].length = 2 ∧ sp_Table_least [tabD marks kl ks, .str p.1, .int p.2] μ1 fun d μ2 => gApp (.ref q) [d] μ2 fun _ μ3 => K μ3 := fun {μ1 ps p K} he hk ho le e po hl hK => by
    refine ⟨.inl ⟨rfl, _, e⟩, tabF marks kl ks, rfl, rfl, rfl, true, marks, t1, limsOf marks c1, kl, ks, p.1, p.2, rfl, ok1.e, tk, he, hk, ?_⟩
    have em : (plT marks t1 (limsOf marks c1)).L none (some p.1) = farL marks t1 c1 "" p.1 := by
      rcases far_self ok1 (a := "") List.mem_cons_self he with ⟨_, w⟩ | ⟨w, _⟩
      · exact w.symm
      · exact absurd rfl (name_ne (ok1.e.nm _ w))
    rw [em, over_no9 ho, tl_eq9 ok1 he]
    simp only [Bool.false_eq_true, if_false]
    intro a ha
    have na : μ a = none := by
      cases z : μ a with
      | none => rfl
      | some o => rw [le a o z] at ha; cases ha
    have aq : a ≠ q := fun z => by rw [z, e] at ha; cases ha
    have eq2 : (mset μ1 a (.dct (ctK marks (leastC marks t1 c1 p.1 p.2)))) q = some (.lst (ps.map fun x => D.ref x.1)) := by rw [mset_ne aq.symm]; exact e
    refine ⟨q, _, _, rfl, rfl, eq2, by rw [List.length_map, hsl]; omega, ?_⟩
    have en : (ps.map fun x => D.ref x.1) ++ [D.ref a] = (ps ++ [(a, p)]).map fun x => D.ref x.1 := by simp
    rw [en]
    refine hK _ a ((le.mset na).mset hq) mset_same fun x hx => ?_
    rcases List.mem_append.mp hx with hx | hx
    · obtain ⟨h1, h2⟩ := po x hx
      have d1 : x.1 ≠ a := fun z => by rw [z, ha] at h2; cases h2
      have d2 : x.1 ≠ q := fun z => by rw [z, e] at h2; cases h2
      exact ⟨h1, by rw [mset_ne d2, mset_ne d1]; exact h2⟩
    · rw [List.mem_singleton.mp hx]
      exact ⟨na, by rw [mset_ne aq, mset_same]; rfl⟩
  have snoc : ∀ {rows : List Tie} {t : Tie}, brL marks t1 c1 (rows ++ [t]) = brL marks t1 c1 rows ++ if brk (farL marks t1 c1 t.1 t.2.1) t.2.2 = true then [(t.2.1, t.2.2 + 1)] else [] := fun {rows t} => by
    unfold brL
    rw [List.filter_append, List.map_append]
    congr 1
    by_cases hb : brk (farL marks t1 c1 t.1 t.2.1) t.2.2 = true
    · rw [if_pos hb, List.filter_cons, if_pos hb]; rfl
    · rw [if_neg hb, List.filter_cons, if_neg hb]; rfl
  have blen : ∀ {rows : List Tie} {ps : List (Addr × (Str × Int))}, ps.map (·.2) = brL marks t1 c1 rows → ps.length ≤ rows.length := fun {rows ps} h => by
    have := congrArg List.length h
    rw [List.length_map] at this
    unfold brL at this
    rw [List.length_map] at this
    have := List.length_filter_le (fun t : Tie => brk (farL marks t1 c1 t.1 t.2.1) t.2.2) rows
    omega
  rw [← hP2]
  unfold tk_breaches_2
  walk_at "l3"
  refine ⟨planF marks t2 (limsOf marks c2), rfl, rfl, rfl, marks, t2, limsOf marks c2, rfl, ?_⟩
  rw [hP2]
  refine any_lst (xs := t2.map tieD) rfl fun Pm hPm => ?_
  refine for_ix (t2.map tieD) (fun k δ μ' => ∃ ps y4 y5 y6 y7, Le μ μ' ∧ μ' q = some (.lst (ps.map fun x => D.ref x.1)) ∧ PsOk marks t1 c1 μ μ' ps ∧ ps.map (·.2) = brL marks t1 c1 (t2.take k) ∧ δ = [some P1, some P2, some T, some (.ref q), y4, y5, y6, y7, none, none, none]) ⟨[], none, none, none, none, le0, e0, (fun x hx => by cases hx), rfl, rfl⟩ ?_ ?_
  · rintro δ μ1 ⟨ps, y4, y5, y6, y7, le, e, po, hps, rfl⟩
    refine ⟨hPm _ rfl, ?_⟩
    rw [List.length_map, List.take_length] at hps
    rw [← hP2]
    unfold tk_breaches_3
    walk_at "l3"
    refine ⟨planF marks t2 (limsOf marks c2), rfl, rfl, rfl, marks, t2, limsOf marks c2, rfl, _, rfl, ?_⟩
    rw [hP2]
    have e1 : (limK (limsOf marks c2)).map pairD = (limsOf marks c2).map fun p => D.tup [.str p.1, .int p.2] := by
      unfold limK; rw [List.map_map]; rfl
    rw [e1]
    generalize hL2 : limsOf marks c2 = L2 at *
    refine for_ix (L2.map fun p => D.tup [.str p.1, .int p.2]) (fun k δ μ' => ∃ ps y8 y9 y10, Le μ μ' ∧ μ' q = some (.lst (ps.map fun x => D.ref x.1)) ∧ PsOk marks t1 c1 μ μ' ps ∧ ps.map (·.2) = brL marks t1 c1 (t2 ++ (L2.take k).map fun p => (("" : Str), p.1, p.2)) ∧ δ = [some P1, some P2, some T, some (.ref q), y4, y5, y6, y7, y8, y9, y10]) ⟨ps, none, none, none, le, e, po, by rw [List.take_zero, List.map_nil, List.append_nil]; exact hps, rfl⟩ ?_ ?_
    · rintro δ μ2 ⟨ps, y8, y9, y10, le, e, po, hps, rfl⟩
      refine ⟨trivial, ?_⟩
      rw [List.length_map, List.take_length] at hps
      unfold tk_breaches_4
      walk_at "l3"
      refine fin_lst (μ' := fun a => if a = q then none else μ2 a) (fun a o z => ?_) e (by simp) (h ps _ (fun a o z => ?_) (by unfold brP rowsC; rw [hL2]; exact hps) fun x hx => ?_)
      · by_cases w : a = q
        · simp [w] at z
        · simpa [w] using z
      · have w : a ≠ q := fun w => by rw [w, hq] at z; cases z
        simp only [w, if_false]
        exact le a o z
      · obtain ⟨h1, h2⟩ := po x hx
        have w : x.1 ≠ q := fun w => by rw [w, e] at h2; cases h2
        exact ⟨h1, by simp only [w, if_false]; exact h2⟩
    · rintro k d δ μ1 hd ⟨ps, y8, y9, y10, le, e, po, hps, rfl⟩
      obtain ⟨p, ep, rfl⟩ : ∃ p, L2[k]? = some p ∧ d = D.tup [.str p.1, .int p.2] := by
        rw [List.getElem?_map] at hd
        cases z : L2[k]? with
        | none => rw [z] at hd; cases hd
        | some p => rw [z] at hd; exact ⟨p, rfl, (Option.some.inj hd).symm⟩
      have hp := List.mem_of_getElem? ep
      have hpm := okL2.l.a p hp
      have plen : ps.length ≤ 100 := by
        have := blen hps
        rw [List.length_append, List.length_map, List.length_take] at this
        omega
      refine ⟨trivial, _, rfl, fun N hN => ?_⟩
      walk_at "l3"
      rw [← hT]
      refine ⟨tabF marks kl ks, rfl, rfl, rfl, marks, t1, limsOf marks c1, kl, ks, p.1, rfl, ok1.e, tk, hpm, ?_⟩
      have em : (plT marks t1 (limsOf marks c1)).L none (some p.1) = farL marks t1 c1 "" p.1 := by
        rcases far_self ok1 (a := "") List.mem_cons_self hpm with ⟨_, w⟩ | ⟨w, _⟩
        · exact w.symm
        · exact absurd rfl (name_ne (ok1.e.nm _ w))
      have c0 := okL2.l.c p hp
      have tk1 : t2 ++ ((L2.take (k + 1)).map fun p => ((("" : Str), p.1, p.2) : Tie)) = (t2 ++ (L2.take k).map fun p => ((("" : Str), p.1, p.2) : Tie)) ++ [(("" : Str), p.1, p.2)] := by rw [take_snoc ep]; simp
      have over : brk (farL marks t1 c1 "" p.1) p.2 = true → ∀ v, farL marks t1 c1 "" p.1 = some v → p.2 + 1 ≤ v := fun hb => brk_over ok1 List.mem_cons_self hb
      rw [em, hT]
      cases hF : farL marks t1 c1 "" p.1 with
      | none =>
        have hb : brk (farL marks t1 c1 "" p.1) p.2 = true := by rw [hF]; rfl
        rw [← hT]
        refine add (p := (p.1, p.2 + 1)) hpm (by show 0 ≤ p.2 + 1; omega) (over hb) le e po plen fun μ2 a le2 e2 po2 => ?_
        rw [hT]
        exact hN _ _ ⟨_, _, _, _, le2, e2, po2, by rw [tk1, snoc, if_pos hb, List.map_append, hps]; rfl, rfl⟩
      | some v =>
        simp only [optD, Option.map_some, Option.getD_some, Bool.false_eq_true, if_false]
        by_cases hv : p.2 < v
        · have hb : brk (farL marks t1 c1 "" p.1) p.2 = true := by rw [hF]; exact decide_eq_true hv
          simp only [hv, decide_true, if_true]
          rw [← hT]
          refine add (p := (p.1, p.2 + 1)) hpm (by show 0 ≤ p.2 + 1; omega) (over hb) le e po plen fun μ2 a le2 e2 po2 => ?_
          rw [hT]
          exact hN _ _ ⟨_, _, _, _, le2, e2, po2, by rw [tk1, snoc, if_pos hb, List.map_append, hps]; rfl, rfl⟩
        · have hb : ¬ brk (farL marks t1 c1 "" p.1) p.2 = true := by rw [hF]; exact fun z => hv (of_decide_eq_true z)
          simp only [hv, decide_false, Bool.false_eq_true, if_false]
          exact hN _ _ ⟨_, _, _, _, le, e, po, by rw [tk1, snoc, if_neg hb, List.append_nil]; exact hps, rfl⟩
  · rintro k d δ μ1 hd ⟨ps, y4, y5, y6, y7, le, e, po, hps, rfl⟩
    obtain ⟨t, et, rfl⟩ : ∃ t, t2[k]? = some t ∧ d = tieD t := by
      rw [List.getElem?_map] at hd
      cases z : t2[k]? with
      | none => rw [z] at hd; cases hd
      | some t => rw [z] at hd; exact ⟨t, rfl, (Option.some.inj hd).symm⟩
    have ht := List.mem_of_getElem? et
    have plen : ps.length ≤ 100 := by
      have := blen hps
      rw [List.length_take] at this
      omega
    refine ⟨hPm _ rfl, _, rfl, fun N hN => ?_⟩
    walk_at "l3"
    rw [← hT]
    refine ⟨tabF marks kl ks, rfl, rfl, rfl, marks, t1, limsOf marks c1, kl, ks, t.1, t.2.1, rfl, ok1.e, tk, ok2.t.a t ht, ok2.t.b t ht, ?_⟩
    have em : (plT marks t1 (limsOf marks c1)).L (some t.1) (some t.2.1) = farL marks t1 c1 t.1 t.2.1 := by
      rcases far_self ok1 (a := t.1) (List.mem_cons_of_mem _ (ok2.t.a t ht)) (ok2.t.b t ht) with ⟨w, _⟩ | ⟨_, w⟩
      · exact absurd w (name_ne (ok1.e.nm _ (ok2.t.a t ht)))
      · exact w.symm
    have c0 := ok2.t.c t ht
    have over : brk (farL marks t1 c1 t.1 t.2.1) t.2.2 = true → ∀ v, farL marks t1 c1 "" t.2.1 = some v → t.2.2 + 1 ≤ v := fun hb => brk_over ok1 (List.mem_cons_of_mem _ (ok2.t.a t ht)) hb
    rw [em, hT]
    cases hF : farL marks t1 c1 t.1 t.2.1 with
    | none =>
      have hb : brk (farL marks t1 c1 t.1 t.2.1) t.2.2 = true := by rw [hF]; rfl
      rw [← hT]
      refine add (p := (t.2.1, t.2.2 + 1)) (ok2.t.b t ht) (by show 0 ≤ t.2.2 + 1; omega) (over hb) le e po plen fun μ2 a le2 e2 po2 => ?_
      rw [hT]
      exact hN _ _ ⟨_, _, _, _, _, le2, e2, po2, by rw [take_snoc et, snoc, if_pos hb, List.map_append, hps]; rfl, rfl⟩
    | some v =>
      simp only [optD, Option.map_some, Option.getD_some, Bool.false_eq_true, if_false]
      by_cases hv : t.2.2 < v
      · have hb : brk (farL marks t1 c1 t.1 t.2.1) t.2.2 = true := by rw [hF]; exact decide_eq_true hv
        simp only [hv, decide_true, if_true]
        rw [← hT]
        refine add (p := (t.2.1, t.2.2 + 1)) (ok2.t.b t ht) (by show 0 ≤ t.2.2 + 1; omega) (over hb) le e po plen fun μ2 a le2 e2 po2 => ?_
        rw [hT]
        exact hN _ _ ⟨_, _, _, _, _, le2, e2, po2, by rw [take_snoc et, snoc, if_pos hb, List.map_append, hps]; rfl, rfl⟩
      · have hb : ¬ brk (farL marks t1 c1 t.1 t.2.1) t.2.2 = true := by rw [hF]; exact fun z => hv (of_decide_eq_true z)
        simp only [hv, decide_false, Bool.false_eq_true, if_false]
        exact hN _ _ ⟨_, _, _, _, _, le, e, po, by rw [take_snoc et, snoc, if_neg hb, List.append_nil]; exact hps, rfl⟩
end C1
namespace C1
open PySem PySem.Spec L2 L3 C2
local macro_rules | `(tactic| walk_at "l3") => `(tactic| simp only [sSeq, sNext, sIf, sRet, sRetN, sSet, sDrop, sSub, sFor, sAsg, sPar2, sPar3, sCont, sFld3, sFld2, sAug, vVar, vC, vNil, vCons, vOp, vB, vChain, vAnd, vOr, vNot, vAndV, vOrV, vNotV, vIf, vUn, vCB, vLst, vTup, vLstT, vCall, vCal, vMak, vMetA, vFld, vSl, vPart, vNoP, vLc, vLcT, vDc, vBM, vBM0, vGet1, vGet2, vItems, vRev, vLRg, vStar, vDZip, iRg1, iRg2, iRgD, iAny, iEnm, iItm, iVal, vDict0, vDict0T, vDict0N, vDisp, vDispT, vPairs,
  List.getElem?_cons_zero, List.getElem?_cons_succ, List.set_cons_zero, List.set_cons_succ, wipe3, endsOf_rt, endsOf_nx, gLt, gLe, gGt, gGe, L3.gSub, gMul, gMod, gDiv, gPow, g2I, g2I0, gN, gT, gGo, Option.bind_some, gAdd_ii, gAdd_ss, gNeg_i, gMax2_ii, gMin2_ii, gLen_s, gEqS_ii, gEqS_ss, gEqS_bb, gNeS_ii, gNeS_ss, gIsN_n, gNotN_n, gSl_s, isNonD, if_true, if_false, Bool.false_eq_true, Bool.not_true, Bool.not_false])
local macro_rules | `(tactic| walk_at "s9") => `(tactic| simp only [vSumV, vStep2])
theorem fin_keep {μ μ' : Mu} {R : DK} {a : Addr} {o : MO} (l : Le μ μ') (na : μ a = none) (e : μ' a = some o) (h : ∀ q, μ q = none → R (.ref q) (mset μ q o)) : fin R (.ref a) μ' :=
  fin_same (fun b ob eb => by
    by_cases z : b = a
    · subst z; rw [mset_same] at eb; rw [e]; exact eb
    · rw [mset_ne z] at eb; exact l b ob eb) (h a na)
theorem fin_keepT {μ μ' : Mu} {R : DK} {a : Addr} {o : MO} {i : Int} (l : Le μ μ') (na : μ a = none) (e : μ' a = some o) (h : ∀ q, μ q = none → R (.tup [.ref q, .int i]) (mset μ q o)) : fin R (.tup [.ref a, .int i]) μ' :=
  fin_same (fun b ob eb => by
    by_cases z : b = a
    · subst z; rw [mset_same] at eb; rw [e]; exact eb
    · rw [mset_ne z] at eb; exact l b ob eb) (h a na)
def sp_total : Sp3 := fun ds μ R => ∃ v marks f, ds = [v] ∧ dctOf μ v = some (ctK marks f) ∧ R (.int (marks.map f).sum) μ
def t_total : TS3 := (sRet (vSumV (vVar 0)))
theorem pure_total (ds : List D) (μ : Mu) (R : DK) (hl : ds.length = 1) (h : sp_total ds μ R) : t_total (endsOf R) (start3 ["counts"] ds) μ := by
  obtain ⟨v, marks, f, rfl, hv, h⟩ := h
  show t_total (endsOf R) [some v] μ
  unfold t_total
  walk_at "l3"
  walk_at "s9"
  walk_at "l3"
  refine ⟨_, marks.map f, hv, ?_, fin_now h⟩
  unfold ctK cnK
  rw [List.map_map, List.map_map]
  rfl
def WiK (marks : List Str) (t1 : List Tie) (c1 : Lims) (t2 : List Tie) (c2 : Lims) (μ : Mu) (R : DK) : Prop := (brP marks t1 c1 t2 c2 = [] → R .non μ) ∧
  ∀ p ∈ brP marks t1 c1 t2 c2, (∀ p' ∈ brP marks t1 c1 t2 c2, tot marks t1 c1 p ≤ tot marks t1 c1 p') → ∀ q, μ q = none → R (.ref q) (mset μ q (leO9 marks t1 c1 p))
def spk_within : Sp3 := fun ds μ R => ∃ marks t1 c1 t2 c2, ds = [planD marks t1 (limsOf marks c1), planD marks t2 (limsOf marks c2)] ∧ Pr2 marks t1 c1 t2 c2 ∧ WiK marks t1 c1 t2 c2 μ R
def tk_within_3 : TS3 := (sRet (vVar 2))
def tk_within_2 : TS3 := sSeq (sFor (iAny (vCall 2 spk_breaches (vCons (vVar 0) (vCons (vVar 1) vNil)))) (gN 3) (sIf (vOr (vB (vOp gIsN (vVar 2) (vC .non))) (vB (vOp gLt (vCall 1 sp_total (vCons (vVar 3) vNil)) (vCall 1 sp_total (vCons (vVar 2) vNil))))) (sSet 2 (vVar 3)) sNext)) tk_within_3
def tk_within_1 : TS3 := sSeq (sSet 2 (vC .non)) tk_within_2
def tk_within : TS3 := sSeq (sDrop (vCall 2 sp_need_alike_events (vCons (vVar 0) (vCons (vVar 1) vNil)))) tk_within_1
theorem purek_within (ds : List D) (μ : Mu) (R : DK) (hl : ds.length = 2) (h : spk_within ds μ R) : tk_within (endsOf R) (start3 ["one", "other", "found", "counts"] ds) μ := by
  obtain ⟨marks, t1, c1, t2, c2, rfl, pr, h1, h2⟩ := h
  generalize hP1 : planD marks t1 (limsOf marks c1) = P1
  generalize hP2 : planD marks t2 (limsOf marks c2) = P2
  show tk_within (endsOf R) [some P1, some P2, none, none] μ
  unfold tk_within
  walk_at "l3"
  refine ⟨rfl, marks, t1, limsOf marks c1, t2, limsOf marks c2, by rw [hP1, hP2], pr.a.e, ?_⟩
  unfold tk_within_1
  walk_at "l3"
  unfold tk_within_2
  walk_at "l3"
  refine ⟨rfl, marks, t1, c1, t2, c2, by rw [hP1, hP2], pr, fun ps μ1 le hps po => ?_⟩
  refine any_lst (xs := ps.map fun x => D.ref x.1) rfl fun Pm hPm => ?_
  refine for_ix (ps.map fun x => D.ref x.1) (fun k δ μ' => μ' = μ1 ∧ ∃ d2 y3, δ = [some P1, some P2, some d2, y3] ∧ ((k = 0 ∧ d2 = .non) ∨ ∃ x ∈ ps, d2 = .ref x.1 ∧ ∀ y ∈ ps.take k, tot marks t1 c1 x.2 ≤ tot marks t1 c1 y.2)) ⟨rfl, .non, none, rfl, .inl ⟨rfl, rfl⟩⟩ ?_ ?_
  · rintro δ μ2 ⟨rfl, d2, y3, rfl, hd⟩
    refine ⟨hPm _ rfl, ?_⟩
    unfold tk_within_3
    walk_at "l3"
    rcases hd with ⟨h0, rfl⟩ | ⟨x, hx, rfl, hle⟩
    · have : ps = [] := by
        rw [List.length_map] at h0
        exact List.length_eq_zero_iff.mp h0
      subst this
      exact fin_same le (h1 hps.symm)
    · obtain ⟨a1, a2⟩ := po x hx
      rw [List.length_map, List.take_length] at hle
      refine fin_keep le a1 a2 (h2 x.2 (by rw [← hps]; exact List.mem_map.mpr ⟨x, hx, rfl⟩) fun p' hp' => ?_)
      rw [← hps] at hp'
      obtain ⟨y, hy, rfl⟩ := List.mem_map.mp hp'
      exact hle y hy
  · rintro k d δ μ2 hd ⟨rfl, d2, y3, rfl, hd2⟩
    obtain ⟨x, ex, rfl⟩ : ∃ x, ps[k]? = some x ∧ d = D.ref x.1 := by
      rw [List.getElem?_map] at hd
      cases z : ps[k]? with
      | none => rw [z] at hd; cases hd
      | some x => rw [z] at hd; exact ⟨x, rfl, (Option.some.inj hd).symm⟩
    have hx := List.mem_of_getElem? ex
    refine ⟨hPm _ rfl, _, rfl, fun N hN => ?_⟩
    have hdx : ∀ y ∈ ps, dctOf μ2 (.ref y.1) = some (ctK marks (leP marks t1 c1 y.2)) := fun y hy => by
      have := (po y hy).2
      simp only [dctOf, this, leO9]
    have tk1 : ∀ y ∈ ps.take (k + 1), y ∈ ps.take k ∨ y = x := fun y hy => by
      rw [take_snoc ex] at hy
      rcases List.mem_append.mp hy with hy | hy
      · exact .inl hy
      · exact .inr (List.mem_singleton.mp hy)
    walk_at "l3"
    rcases hd2 with ⟨rfl, rfl⟩ | ⟨z, hz, rfl, hle⟩
    · simp only [gIsN, isNonD, if_true]
      refine hN _ _ ⟨rfl, _, _, rfl, .inr ⟨x, hx, rfl, fun y hy => ?_⟩⟩
      rcases tk1 y hy with h | rfl
      · cases h
      · exact Int.le_refl _
    · simp only [gIsN, isNonD, Bool.false_eq_true, if_false]
      refine ⟨rfl, .ref x.1, marks, leP marks t1 c1 x.2, rfl, hdx x hx, rfl, .ref z.1, marks, leP marks t1 c1 z.2, rfl, hdx z hz, ?_⟩
      by_cases hlt : (marks.map (leP marks t1 c1 x.2)).sum < (marks.map (leP marks t1 c1 z.2)).sum
      · simp only [hlt, decide_true, if_true]
        refine hN _ _ ⟨rfl, _, _, rfl, .inr ⟨x, hx, rfl, fun y hy => ?_⟩⟩
        rcases tk1 y hy with h | rfl
        · exact Int.le_trans (Int.le_of_lt hlt) (hle y h)
        · exact Int.le_refl _
      · simp only [hlt, decide_false, Bool.false_eq_true, if_false]
        refine hN _ _ ⟨rfl, _, _, rfl, .inr ⟨z, hz, rfl, fun y hy => ?_⟩⟩
        rcases tk1 y hy with h | rfl
        · exact hle y h
        · exact Int.not_lt.mp hlt
def AlK (marks : List Str) (t1 : List Tie) (c1 : Lims) (t2 : List Tie) (c2 : Lims) (μ : Mu) (R : DK) : Prop := (brP marks t1 c1 t2 c2 = [] → brP marks t2 c2 t1 c1 = [] → R .non μ) ∧
  (∀ p ∈ brP marks t1 c1 t2 c2, (∀ p' ∈ brP marks t1 c1 t2 c2, tot marks t1 c1 p ≤ tot marks t1 c1 p') → (∀ p' ∈ brP marks t2 c2 t1 c1, tot marks t1 c1 p ≤ tot marks t2 c2 p') → ∀ q, μ q = none → R (.tup [.ref q, .int 0]) (mset μ q (leO9 marks t1 c1 p))) ∧
  ∀ p ∈ brP marks t2 c2 t1 c1, (∀ p' ∈ brP marks t2 c2 t1 c1, tot marks t2 c2 p ≤ tot marks t2 c2 p') → (∀ p' ∈ brP marks t1 c1 t2 c2, tot marks t2 c2 p ≤ tot marks t1 c1 p') → ∀ q, μ q = none → R (.tup [.ref q, .int 1]) (mset μ q (leO9 marks t2 c2 p))
def spk_alike : Sp3 := fun ds μ R => ∃ marks t1 c1 t2 c2, ds = [planD marks t1 (limsOf marks c1), planD marks t2 (limsOf marks c2)] ∧ Pr2 marks t1 c1 t2 c2 ∧ AlK marks t1 c1 t2 c2 μ R
def tk_alike_3 : TS3 := (sRet (vTup (vCons (vVar 3) (vCons (vC (.int 1)) vNil))))
def tk_alike_2 : TS3 := sSeq (sIf (vOr (vB (vOp gIsN (vVar 3) (vC .non))) (vAnd (vB (vOp gNotN (vVar 2) (vC .non))) (vB (vOp gLe (vCall 1 sp_total (vCons (vVar 2) vNil)) (vCall 1 sp_total (vCons (vVar 3) vNil)))))) (sRet (vTup (vCons (vVar 2) (vCons (vC (.int 0)) vNil)))) sNext) tk_alike_3
def tk_alike_1 : TS3 := sSeq (sIf (vAnd (vB (vOp gIsN (vVar 2) (vC .non))) (vB (vOp gIsN (vVar 3) (vC .non)))) (sRet (vC .non)) sNext) tk_alike_2
def tk_alike : TS3 := sSeq (sPar2 2 3 (vCons (vCall 2 spk_within (vCons (vVar 0) (vCons (vVar 1) vNil))) (vCons (vCall 2 spk_within (vCons (vVar 1) (vCons (vVar 0) vNil))) vNil))) tk_alike_1
theorem purek_alike (ds : List D) (μ : Mu) (R : DK) (hl : ds.length = 2) (h : spk_alike ds μ R) : tk_alike (endsOf R) (start3 ["one", "other", "first", "second"] ds) μ := by
  obtain ⟨marks, t1, c1, t2, c2, rfl, pr, h0, h1, h2⟩ := h
  have hsl : sizeLine = 16777216 := by decide
  generalize hP1 : planD marks t1 (limsOf marks c1) = P1
  generalize hP2 : planD marks t2 (limsOf marks c2) = P2
  show tk_alike (endsOf R) [some P1, some P2, none, none] μ
  unfold tk_alike
  walk_at "l3"
  have le1 : ∀ {q : Addr} {o : MO}, μ q = none → Le μ (mset μ q o) := fun {q o} hq => Le.mset_new hq
  have z2 : ∀ x y : D, ([x, y] : List D).length ≤ sizeLine := fun x y => by rw [hsl]; show 2 ≤ _; decide
  refine ⟨rfl, marks, t1, c1, t2, c2, by rw [hP1, hP2], pr, fun e1 => ?_, fun p hp hle q hq => ?_⟩
  · refine ⟨rfl, marks, t2, c2, t1, c1, by rw [hP1, hP2], pr.swap, fun e2 => ?_, fun p2 hp2 hle2 q2 hq2 => ?_⟩
    · unfold tk_alike_1
      walk_at "l3"
      exact fin_now (h0 e1 e2)
    · unfold tk_alike_1
      walk_at "l3"
      unfold tk_alike_2
      walk_at "l3"
      unfold tk_alike_3
      walk_at "l3"
      exact ⟨z2 _ _, fin_keepT (le1 hq2) hq2 mset_same (h2 p2 hp2 hle2 fun p' hp' => by rw [e1] at hp'; cases hp')⟩
  · have eq1 : (mset μ q (leO9 marks t1 c1 p)) q = some (leO9 marks t1 c1 p) := mset_same
    have la := le1 (o := leO9 marks t1 c1 p) hq
    generalize mset μ q (leO9 marks t1 c1 p) = μ1 at eq1 la
    refine ⟨rfl, marks, t2, c2, t1, c1, by rw [hP1, hP2], pr.swap, fun e2 => ?_, fun p2 hp2 hle2 q2 hq2 => ?_⟩
    · unfold tk_alike_1
      walk_at "l3"
      unfold tk_alike_2
      walk_at "l3"
      exact ⟨z2 _ _, fin_keepT la hq eq1 (h1 p hp hle fun p' hp' => by rw [e2] at hp'; cases hp')⟩
    · have n2 : μ q2 = none := by
        cases z : μ q2 with
        | none => rfl
        | some o => rw [la q2 o z] at hq2; cases hq2
      have d2 : q ≠ q2 := fun z => by rw [z, hq2] at eq1; cases eq1
      have lb := la.mset (o := leO9 marks t2 c2 p2) n2
      have eq2 : (mset μ1 q2 (leO9 marks t2 c2 p2)) q = some (leO9 marks t1 c1 p) := by rw [mset_ne d2]; exact eq1
      have eq3 : (mset μ1 q2 (leO9 marks t2 c2 p2)) q2 = some (leO9 marks t2 c2 p2) := mset_same
      generalize mset μ1 q2 (leO9 marks t2 c2 p2) = μ2 at lb eq2 eq3
      unfold tk_alike_1
      walk_at "l3"
      unfold tk_alike_2
      walk_at "l3"
      refine ⟨rfl, .ref q, marks, leP marks t1 c1 p, rfl, by simp only [dctOf, eq2, leO9], rfl, .ref q2, marks, leP marks t2 c2 p2, rfl, by simp only [dctOf, eq3, leO9], ?_⟩
      by_cases hle3 : (marks.map (leP marks t1 c1 p)).sum ≤ (marks.map (leP marks t2 c2 p2)).sum
      · simp only [hle3, decide_true, if_true]
        exact ⟨z2 _ _, fin_keepT lb hq eq2 (h1 p hp hle fun p' hp' => Int.le_trans hle3 (hle2 p' hp'))⟩
      · simp only [hle3, decide_false, Bool.false_eq_true, if_false]
        unfold tk_alike_3
        walk_at "l3"
        exact ⟨z2 _ _, fin_keepT lb n2 eq3 (h2 p2 hp2 hle2 fun p' hp' => Int.le_trans (Int.le_of_lt (Int.not_le.mp hle3)) (hle p' hp'))⟩
end C1
namespace L3
open PySem PySem.Spec PyProof.Rows L2
def IntK (ks : List (Key × D)) : Prop := ∀ p ∈ ks, ∃ i : Int, p.2 = .int i
def gInK : G2 := fun x y μ R => ∃ (kss : List (List (Key × D))) (f : List (Key × D) → Bool) (n : Nat), n ≤ 60 ∧ lstOf μ y = some (kss.map D.dct) ∧ (∀ ks ∈ kss, IntK ks) ∧ (∀ ks ∈ kss, Eqs μ n (.dct ks) x (f ks)) ∧ R (.bl (kss.any f)) μ
theorem rpk_inj {K : Kn} {F : Addr → Prop} {H : Hp} : ∀ {ks ks' : List (Key × D)} {vs : List (Key × V)}, Rpk K F H ks vs → Rpk K F H ks' vs → IntK ks → IntK ks' → ks = ks'
  | _, _, _, .nil, h', _, _ => by cases h'; rfl
  | _, _, _, .cons r t, h', i1, i2 => by
    cases h' with
    | cons r' t' =>
      obtain ⟨a, ea⟩ := i1 _ List.mem_cons_self
      obtain ⟨b, eb⟩ := i2 _ List.mem_cons_self
      simp only at ea eb
      subst ea eb
      cases r
      cases r'
      rw [rpk_inj t t' (fun p hp => i1 p (List.mem_cons_of_mem _ hp)) fun p hp => i2 p (List.mem_cons_of_mem _ hp)]
section
variable {X : Cx} {Z : Zn X.kn}
theorem dct_inj {K : Kn} {F : Addr → Prop} {H : Hp} {ks ks' : List (Key × D)} {p : Addr} (h : Rp K F H (.dct ks) (.ref p)) (h' : Rp K F H (.dct ks') (.ref p)) (i1 : IntK ks) (i2 : IntK ks') : ks = ks' := by
  cases h with
  | dct f e r =>
    cases h' with
    | dct f' e' r' =>
      have := rd_dK e e'
      subst this
      exact rpk_inj r r' i1 i2
theorem rps_dcts {K : Kn} {F : Addr → Prop} {H : Hp} : ∀ {kss : List (List (Key × D))} {vs : List V}, Rps K F H (kss.map D.dct) vs → ∃ as : List Addr, vs = as.map V.ref ∧ as.length = kss.length ∧ ∀ (j : Nat) (ks : List (Key × D)) (a : Addr), kss[j]? = some ks → as[j]? = some a → Rp K F H (.dct ks) (.ref a)
  | [], _, .nil => ⟨[], rfl, rfl, fun j ks a h => by simp at h⟩
  | ks :: kss, _, .cons (v := v) r t => by
    obtain ⟨as, e, l, h⟩ := rps_dcts t
    obtain ⟨a, rfl⟩ : ∃ a, v = V.ref a := by cases r; exact ⟨_, rfl⟩
    refine ⟨a :: as, by rw [e]; rfl, by rw [List.length_cons, l, List.length_cons], fun j ks' a' hk ha => ?_⟩
    cases j with
    | zero =>
      simp at hk ha
      subst hk ha
      exact r
    | succ j => exact h j ks' a' (by simpa using hk) (by simpa using ha)
theorem inK_run {k : Nat} (hr : RoomG k X.A) {F : Addr → Prop} {H : Hp} {μ : Mu} {n : Nat} {x y : D} {kss : List (List (Key × D))} {f : List (Key × D) → Bool} {vx vy : V} {v u : Value} {pins : List (Addr × Obj)} {s : Shared} {σ : L2.St} (sm : Sim Z F H μ) (I : Inv X pins σ H s)
    (hn : n ≤ 60) (hy : lstOf μ y = some (kss.map D.dct)) (hi : ∀ ks ∈ kss, IntK ks) (h : ∀ ks ∈ kss, Eqs μ n (.dct ks) x (f ks)) (rx : Rp X.kn F H x vx) (ry : Rp X.kn F H y vy) (rv : RelV vx v) (ru : RelV vy u) (E Q : Value → Shared → Prop) (q : Q (.bool (kss.any f)) s) :
    wpAny (model X.prog X.w) X.A (compareOp .In v u) Q E s := by
  have hu : X.A.units + 64 < cLine := by have := hr.rm.un; omega
  obtain ⟨p, vs, rfl, e1, r1⟩ := lst_of sm ry hy
  obtain ⟨as, rfl, la, hra⟩ := rps_dcts r1
  obtain rfl : u = Value.ref p := ru
  obtain ⟨its, t1, pl, _⟩ := I.list (SqL.of e1)
  obtain rfl := vals_refs t1
  let e : Value → Bool := fun w => @decide (∃ ks ∈ kss, f ks = true ∧ ∃ a, w = .ref a ∧ Rp X.kn F H (.dct ks) (.ref a)) (Classical.propDecidable _)
  have key : ∀ (j : Nat) (ks : List (Key × D)) (a : Addr), kss[j]? = some ks → as[j]? = some a → e (.ref a) = f ks := fun j ks a hk ha => by
    have hks := List.mem_of_getElem? hk
    have ra := hra j ks a hk ha
    cases hf : f ks with
    | true => exact @decide_eq_true _ (Classical.propDecidable _) ⟨ks, hks, hf, a, rfl, ra⟩
    | false =>
      refine @decide_eq_false _ (Classical.propDecidable _) fun ⟨ks', hk', hf', a', ea, ra'⟩ => ?_
      cases ea
      rw [dct_inj ra ra' (hi ks hks) (hi ks' hk')] at hf
      rw [hf'] at hf
      cases hf
  have at_ : ∀ (j : Nat) (a : Addr), as[j]? = some a → ∃ ks, kss[j]? = some ks := fun j a ha => by
    have := (List.getElem?_eq_some_iff.mp ha).1
    exact ⟨kss[j]'(by omega), List.getElem?_eq_getElem _⟩
  have he : ∀ w, w ∈ (as.map Value.ref).toArray → SeqAt.EqIn X.prog X.w X.A.in1 s w v (e w) := fun w hw => by
    obtain ⟨a, ha, rfl⟩ := List.mem_map.mp (show w ∈ as.map Value.ref by simpa using hw)
    obtain ⟨j, hj⟩ := List.getElem?_of_mem ha
    obtain ⟨ks, hks⟩ := at_ j a hj
    rw [key j ks a hks hj]
    exact ((h ks (List.mem_of_getElem? hks)).tree sm I (hra j ks a hks hj) rx (show RelV (.ref a) (.ref a) from rfl) rv).at X.A.in1 (by show X.A.units + 1 + _ < cLine; omega)
  have ea : (as.map Value.ref).toArray.any e = kss.any f := by
    rw [List.any_toArray, List.any_map, Bool.eq_iff_iff, List.any_eq_true, List.any_eq_true]
    constructor
    · rintro ⟨a, ha, h2⟩
      obtain ⟨j, hj⟩ := List.getElem?_of_mem ha
      obtain ⟨ks, hks⟩ := at_ j a hj
      exact ⟨ks, List.mem_of_getElem? hks, by rw [← key j ks a hks hj]; exact h2⟩
    · rintro ⟨ks, hks, h2⟩
      obtain ⟨j, hj⟩ := List.getElem?_of_mem hks
      have lj := (List.getElem?_eq_some_iff.mp hj).1
      have ha : as[j]? = some (as[j]'(by omega)) := List.getElem?_eq_getElem _
      exact ⟨_, List.mem_of_getElem? ha, by show e (.ref _) = true; rw [key j ks _ hj ha]; exact h2⟩
  exact in_listT e pl.isList he (by rw [ea]; exact q)
theorem o_inK {k : Nat} (hr : RoomG k X.A) : OpL X Z (compareOp .In) gInK := ⟨_, op_X, fun F H μ x y vx vy R Q s rx ry q kk => by
  obtain ⟨kss, f, n, hn, hy, hi, h, q⟩ := q
  exact ⟨kss.any f, fun pins sh σ v u I rv ru E Q' q' => inK_run hr s I hn hy hi h rx ry rv ru E Q' q', kk F _ H _ μ (Step.refl s) (.bl _) q⟩⟩
end
end L3
namespace C1
open PySem PySem.Spec L2 L3 C2
local macro_rules | `(tactic| walk_at "l3") => `(tactic| simp only [sSeq, sNext, sIf, sRet, sRetN, sSet, sDrop, sSub, sFor, sAsg, sPar2, sPar3, sCont, sFld3, sFld2, sAug, vVar, vC, vNil, vCons, vOp, vB, vChain, vAnd, vOr, vNot, vAndV, vOrV, vNotV, vIf, vUn, vCB, vLst, vTup, vLstT, vCall, vCal, vMak, vMetA, vFld, vSl, vPart, vNoP, vLc, vLcT, vDc, vBM, vBM0, vGet1, vGet2, vItems, vRev, vLRg, vStar, vDZip, iRg1, iRg2, iRgD, iAny, iEnm, iItm, iVal, vDict0, vDict0T, vDict0N, vDisp, vDispT, vPairs,
  List.getElem?_cons_zero, List.getElem?_cons_succ, List.set_cons_zero, List.set_cons_succ, wipe3, endsOf_rt, endsOf_nx, gLt, gLe, gGt, gGe, L3.gSub, gMul, gMod, gDiv, gPow, g2I, g2I0, gN, gT, gGo, Option.bind_some, gAdd_ii, gAdd_ss, gNeg_i, gMax2_ii, gMin2_ii, gLen_s, gEqS_ii, gEqS_ss, gEqS_bb, gNeS_ii, gNeS_ss, gIsN_n, gNotN_n, gSl_s, isNonD, if_true, if_false, Bool.false_eq_true, Bool.not_true, Bool.not_false])
local macro_rules | `(tactic| walk_at "s9") => `(tactic| simp only [vSumV, vStep2, vValL])
def brQ (marks : List Str) (t1 : List Tie) (c1 : Lims) (t2 : List Tie) (c2 : Lims) : List (Str × Int) := brL marks t1 c1 (rowsC t2 c2)
def sp__law_breaches : Sp3 := fun ds μ R => ∃ marks t1 c1 t2 c2, ds = [mdD marks t1 c1, mdD marks t2 c2] ∧ Pr2 marks t1 c1 t2 c2 ∧ R (.lst ((brQ marks t1 c1 t2 c2).map fun p => D.dct (ctK marks (leP marks t1 c1 p)))) μ
def t__law_breaches_2 : TS3 := (sRet (vVar 3))
def t__law_breaches_1 : TS3 := sSeq (sFor (iAny (vOp gAdd (vCB gList (vCons (vOp gAt (vVar 1) (vC (.int 1))) vNil)) (vLc (iAny (vOp gAt (vVar 1) (vC (.int 2)))) (gN 7) vYes (vTup (vCons (vC (.str "")) (vCons (vVar 7) (vCons (vOp gAt (vOp gAt (vVar 1) (vC (.int 2))) (vVar 7)) vNil)))) [7]))) (gT [(gN 4), (gN 5), (gN 6)]) (sIf (vOr (vB (vOp (gIn true) (vVar 5) (vOp gAt (vVar 2) (vVar 4)))) (vB (vOp gGt (vOp gAt (vOp gAt (vVar 2) (vVar 4)) (vVar 5)) (vVar 6)))) (sDrop (vBM "list" gApp (vVar 3) (vCons (vCall 4 sp__law_least (vCons (vVar 0) (vCons (vVar 2) (vCons (vVar 5) (vCons (vOp gAdd (vVar 6) (vC (.int 1))) vNil))))) vNil))) sNext)) t__law_breaches_2
def t__law_breaches : TS3 := sSeq (sPar2 2 3 (vCons (vCall 1 sp__law_leads (vCons (vVar 0) vNil)) (vCons (vLstT vNil) vNil))) t__law_breaches_1
theorem pure__law_breaches (ds : List D) (μ : Mu) (R : DK) (hl : ds.length = 2) (h : sp__law_breaches ds μ R) : t__law_breaches (endsOf R) (start3 ["_law_one", "_law_other", "_law_leads_here", "_law_found", "_law_begin", "_law_end", "_law_lag_here", "_law_event"] ds) μ := by
  obtain ⟨marks, t1, c1, t2, c2, rfl, pr, h⟩ := h
  have hsl : sizeLine = 16777216 := by decide
  have ok1 := pr.a
  have ok2 := pr.b
  have tl := ok2.t.le
  have cl := lims_len ok2.l
  have m8 := ok1.e.le
  generalize hM1 : mdD marks t1 c1 = M1
  generalize hM2 : mdD marks t2 c2 = M2
  show t__law_breaches (endsOf R) [some M1, some M2, none, none, none, none, none, none] μ
  unfold t__law_breaches
  walk_at "l3"
  rw [← hM1]
  refine ⟨rfl, marks, t1, c1, rfl, ok1, fun kvs ld => ⟨Nat.zero_le _, fun q hq => ?_⟩⟩
  rw [hM1]
  have e0 : (mset μ q (.lst [])) q = some (.lst (([] : List (Str × Int)).map fun p => D.dct (ctK marks (leP marks t1 c1 p)))) := mset_same
  unfold t__law_breaches_1
  walk_at "l3"
  rw [← hM2]
  refine at_l (xs := modelL marks _ _) (d := .lst (t2.map tieD)) rfl ⟨.lst (t2.map tieD), t2.map tieD, rfl, rfl, ?_⟩
  refine at_l (xs := modelL marks _ _) (d := .dct (limK c2)) rfl ?_
  show lcW (fun _ => True) _ _ _ _ _ ((limK c2).map fun kv => keyD kv.1) [] _
  have ek : ((limK c2).map fun kv => keyD kv.1) = c2.map fun p => D.str p.1 := by simp [limK, keyD, Function.comp_def]
  rw [ek]
  refine lcg_map (fun p : Str × Int => D.str p.1) (fun p => tieD (("" : Str), p.1, p.2)) trivial c2 [] (fun p hp => ⟨_, rfl, fun R' k => ?_⟩) (by rw [hsl]; show 0 + _ ≤ _; omega) ?_
  · walk_at "l3"
    refine at_l (xs := modelL marks _ _) (d := .dct (limK c2)) rfl ?_
    refine at_d (c := .k (limK c2)) (d := .int p.2) rfl (by show some (valD _ _) = _; rw [val_lim, look_of ok2.l.nd hp]; rfl) ?_
    exact ⟨by rw [hsl]; show 3 ≤ _; decide, k⟩
  rw [List.nil_append]
  refine gAdd_ll (by rw [List.length_map, List.length_map, hsl]; omega) ?_
  rw [hM2]
  have er : t2.map tieD ++ c2.map (fun p => tieD (("" : Str), p.1, p.2)) = (rowsC t2 c2).map tieD := by
    unfold rowsC
    rw [List.map_append, List.map_map]
    rfl
  rw [er]
  have rl : (rowsC t2 c2).length ≤ 68 := by
    unfold rowsC
    rw [List.length_append, List.length_map]
    omega
  have snoc : ∀ {rows : List Tie} {t : Tie}, brL marks t1 c1 (rows ++ [t]) = brL marks t1 c1 rows ++ if brk (farL marks t1 c1 t.1 t.2.1) t.2.2 = true then [(t.2.1, t.2.2 + 1)] else [] := fun {rows t} => by
    unfold brL
    rw [List.filter_append, List.map_append]
    congr 1
    by_cases hb : brk (farL marks t1 c1 t.1 t.2.1) t.2.2 = true
    · rw [if_pos hb, List.filter_cons, if_pos hb]; rfl
    · rw [if_neg hb, List.filter_cons, if_neg hb]; rfl
  generalize hrows : rowsC t2 c2 = rows at *
  refine any_lst (xs := rows.map tieD) rfl fun Pm hPm => ?_
  refine for_ix (rows.map tieD) (fun k δ μ' => ∃ y4 y5 y6, μ' = mset μ q (.lst ((brL marks t1 c1 (rows.take k)).map fun p => D.dct (ctK marks (leP marks t1 c1 p)))) ∧ δ = [some M1, some M2, some (.dct kvs), some (.ref q), y4, y5, y6, none]) ⟨none, none, none, rfl, rfl⟩ ?_ ?_
  · rintro δ μ1 ⟨y4, y5, y6, rfl, rfl⟩
    refine ⟨hPm _ rfl, ?_⟩
    rw [List.length_map, List.take_length]
    unfold t__law_breaches_2
    walk_at "l3"
    unfold brQ at h
    rw [hrows] at h
    exact fin_lst (Le.mset_new hq) mset_same hq h
  · rintro k d δ μ1 hd ⟨y4, y5, y6, rfl, rfl⟩
    obtain ⟨t, et, rfl⟩ : ∃ t, rows[k]? = some t ∧ d = tieD t := by
      rw [List.getElem?_map] at hd
      cases z : rows[k]? with
      | none => rw [z] at hd; cases hd
      | some t => rw [z] at hd; exact ⟨t, rfl, (Option.some.inj hd).symm⟩
    have ht : t ∈ rowsC t2 c2 := by rw [hrows]; exact List.mem_of_getElem? et
    obtain ⟨ta, tb, tc⟩ := rows_ok ok2 ht
    obtain ⟨kb, hv, rep⟩ := ld t.1 ta
    have bl : (brL marks t1 c1 (rows.take k)).length ≤ 68 := by
      unfold brL
      rw [List.length_map]
      have := List.length_filter_le (fun t : Tie => brk (farL marks t1 c1 t.1 t.2.1) t.2.2) (rows.take k)
      rw [List.length_take] at this
      omega
    refine ⟨hPm _ rfl, _, rfl, fun N hN => ?_⟩
    have add : brk (farL marks t1 c1 t.1 t.2.1) t.2.2 = true → tyM "list" (mset μ q (.lst ((brL marks t1 c1 (rows.take k)).map fun p => D.dct (ctK marks (leP marks t1 c1 p))))) (.ref q) ∧ [M1, .dct kvs, .str t.2.1, .int (t.2.2 + 1)].length = 4 ∧
        sp__law_least [M1, .dct kvs, .str t.2.1, .int (t.2.2 + 1)] (mset μ q (.lst ((brL marks t1 c1 (rows.take k)).map fun p => D.dct (ctK marks (leP marks t1 c1 p))))) fun d μ1 => gApp (.ref q) [d] μ1 fun _ μ1 => N [some M1, some M2, some (.dct kvs), some (.ref q), some (.str t.1), some (.str t.2.1), some (.int t.2.2), none] μ1 := fun hb => by
      rw [← hM1]
      refine ⟨.inl ⟨rfl, _, mset_same⟩, rfl, marks, t1, c1, kvs, t.2.1, t.2.2 + 1, rfl, ok1, ld, tb, ?_⟩
      refine ⟨q, _, _, rfl, rfl, mset_same, by rw [List.length_map, hsl]; omega, ?_⟩
      rw [mset_mset, hM1]
      refine hN _ _ ⟨_, _, _, ?_, rfl⟩
      rw [take_snoc et, snoc, if_pos hb, List.map_append]
      rfl
    walk_at "l3"
    refine at_d (c := .k kvs) (d := .dct kb) rfl (by show some (valD _ _) = _; rw [hv]) ?_
    refine in_d (c := .k kb) (r := (farL marks t1 c1 t.1 t.2.1).map D.int) rfl (by show some (valD kb (.inr t.2.1)) = _; rw [rep]) ?_
    cases hF : farL marks t1 c1 t.1 t.2.1 with
    | none =>
      have hb : brk (farL marks t1 c1 t.1 t.2.1) t.2.2 = true := by rw [hF]; rfl
      simp only [Option.map_none, Option.isSome_none, Bool.not_false, if_true]
      exact add hb
    | some v =>
      simp only [Option.map_some, Option.isSome_some, Bool.not_true, if_true, Bool.false_eq_true, if_false]
      refine at_d (c := .k kvs) (d := .dct kb) rfl (by show some (valD _ _) = _; rw [hv]) ?_
      refine at_d (c := .k kb) (d := .int v) rfl (by show some (valD kb (.inr t.2.1)) = _; rw [rep, hF]; rfl) ?_
      walk_at "l3"
      by_cases hlt : t.2.2 < v
      · have hb : brk (farL marks t1 c1 t.1 t.2.1) t.2.2 = true := by rw [hF]; exact decide_eq_true hlt
        simp only [hlt, decide_true, if_true]
        exact add hb
      · have hb : ¬ brk (farL marks t1 c1 t.1 t.2.1) t.2.2 = true := by rw [hF]; exact fun z => hlt (of_decide_eq_true z)
        simp only [hlt, decide_false, Bool.false_eq_true, if_false]
        refine hN _ _ ⟨_, _, _, ?_, rfl⟩
        rw [take_snoc et, snoc, if_neg hb, List.append_nil]
def sp__law_sum : Sp3 := fun ds μ R => ∃ v marks f, ds = [v] ∧ dctOf μ v = some (ctK marks f) ∧ R (.int (marks.map f).sum) μ
def t__law_sum : TS3 := (sRet (vCB gSum (vCons (vValL (vVar 0)) vNil)))
theorem pure__law_sum (ds : List D) (μ : Mu) (R : DK) (hl : ds.length = 1) (h : sp__law_sum ds μ R) : t__law_sum (endsOf R) (start3 ["_law_counts"] ds) μ := by
  obtain ⟨v, marks, f, rfl, hv, h⟩ := h
  show t__law_sum (endsOf R) [some v] μ
  unfold t__law_sum
  walk_at "l3"
  walk_at "s9"
  walk_at "l3"
  refine ⟨_, hv, _, marks.map f, rfl, ?_, fin_now h⟩
  unfold ctK cnK
  show some _ = some _
  rw [List.map_map, List.map_map]
  rfl
theorem br_ok {marks : List Str} {t1 t2 : List Tie} {c1 c2 : Lims} (pr : Pr2 marks t1 c1 t2 c2) {p : Str × Int} (h : p ∈ brQ marks t1 c1 t2 c2) : p.1 ∈ marks ∧ 0 ≤ p.2 ∧ Mom marks t1 c1 (leP marks t1 c1 p) ∧ ¬ Mom marks t2 c2 (leP marks t1 c1 p) := by
  obtain ⟨t, ht, hb, rfl⟩ := br_mem.mp h
  obtain ⟨ta, tb, tc⟩ := rows_ok pr.b ht
  refine ⟨tb, by show 0 ≤ t.2.2 + 1; omega, least_mom pr.a tb (brk_over pr.a ta hb), fun m => ?_⟩
  have e1 : leP marks t1 c1 (t.2.1, t.2.2 + 1) t.2.1 = t.2.2 + 1 := least_self pr.a tb (by omega)
  rcases rows_mem.mp ht with h2 | ⟨p, hp, rfl⟩
  · have e2 : leP marks t1 c1 (t.2.1, t.2.2 + 1) t.1 = 0 := by
      show max 0 (t.2.2 + 1 - (farL marks t1 c1 t.1 t.2.1).getD (t.2.2 + 1)) = 0
      cases hF : farL marks t1 c1 t.1 t.2.1 with
      | none => rw [Option.getD_none]; omega
      | some v =>
        rw [hF] at hb
        have := of_decide_eq_true (show decide (t.2.2 < v) = true from hb)
        rw [Option.getD_some]
        omega
    have := m.t t h2
    rw [e1, e2] at this
    omega
  · have := m.l p hp
    simp only at e1
    rw [e1] at this
    omega
theorem br_iff {marks : List Str} {t1 t2 : List Tie} {c1 c2 : Lims} (pr : Pr2 marks t1 c1 t2 c2) {p : Str × Int} : p ∈ brP marks t1 c1 t2 c2 ↔ p ∈ brQ marks t1 c1 t2 c2 := br_lims pr.b.l
theorem br_nil {marks : List Str} {t1 t2 : List Tie} {c1 c2 : Lims} (pr : Pr2 marks t1 c1 t2 c2) : brP marks t1 c1 t2 c2 = [] ↔ brQ marks t1 c1 t2 c2 = [] := by
  rw [List.eq_nil_iff_forall_not_mem, List.eq_nil_iff_forall_not_mem]
  exact forall_congr' fun p => not_congr (br_iff pr)
end C1
namespace C1
open PySem PySem.Spec L2 L3 C2
local macro_rules | `(tactic| walk_at "l3") => `(tactic| simp only [sSeq, sNext, sIf, sRet, sRetN, sSet, sDrop, sSub, sFor, sAsg, sPar2, sPar3, sCont, sFld3, sFld2, sAug, vVar, vC, vNil, vCons, vOp, vB, vChain, vAnd, vOr, vNot, vAndV, vOrV, vNotV, vIf, vUn, vCB, vLst, vTup, vLstT, vCall, vCal, vMak, vMetA, vFld, vSl, vPart, vNoP, vLc, vLcT, vDc, vBM, vBM0, vGet1, vGet2, vItems, vRev, vLRg, vStar, vDZip, iRg1, iRg2, iRgD, iAny, iEnm, iItm, iVal, vDict0, vDict0T, vDict0N, vDisp, vDispT, vPairs,
  List.getElem?_cons_zero, List.getElem?_cons_succ, List.set_cons_zero, List.set_cons_succ, wipe3, endsOf_rt, endsOf_nx, gLt, gLe, gGt, gGe, L3.gSub, gMul, gMod, gDiv, gPow, g2I, g2I0, gN, gT, gGo, Option.bind_some, gAdd_ii, gAdd_ss, gNeg_i, gMax2_ii, gMin2_ii, gLen_s, gEqS_ii, gEqS_ss, gEqS_bb, gNeS_ii, gNeS_ss, gIsN_n, gNotN_n, gSl_s, isNonD, if_true, if_false, Bool.false_eq_true, Bool.not_true, Bool.not_false])
local macro_rules | `(tactic| walk_at "s9") => `(tactic| simp only [vSumV, vStep2, vValL])
def totQ (marks : List Str) (t1 : List Tie) (c1 : Lims) (t2 : List Tie) (c2 : Lims) : List Int := (brQ marks t1 c1 t2 c2).map (tot marks t1 c1)
theorem lc_tot {marks : List Str} {t1 t2 : List Tie} {c1 c2 : Lims} (pr : Pr2 marks t1 c1 t2 c2) {Pm : Mu → Prop} {μ : Mu} {δ : St3} {K : List D → Mu → Prop} {j : Nat} (hP : Pm μ) (hj : j < δ.length) (k : K ((totQ marks t1 c1 t2 c2).map D.int) μ) :
    lcW Pm (gN j) vYes (vCall 1 sp__law_sum (vCons (vVar j) vNil)) δ K ((brQ marks t1 c1 t2 c2).map fun p => D.dct (ctK marks (leP marks t1 c1 p))) [] μ := by
  have hsl : sizeLine = 16777216 := by decide
  have bl : (brQ marks t1 c1 t2 c2).length ≤ 68 := by
    unfold brQ brL
    rw [List.length_map]
    have := List.length_filter_le (fun t : Tie => brk (farL marks t1 c1 t.1 t.2.1) t.2.2) (rowsC t2 c2)
    have tl := pr.b.t.le
    have cl := lims_len pr.b.l
    have m8 := pr.a.e.le
    unfold rowsC at this ⊢
    rw [List.length_append, List.length_map] at this
    omega
  refine lcg_map (fun p => D.dct (ctK marks (leP marks t1 c1 p))) (fun p => D.int (tot marks t1 c1 p)) hP (brQ marks t1 c1 t2 c2) [] (fun p hp => ⟨_, rfl, fun R' h => ?_⟩) (by rw [hsl]; show 0 + _ ≤ _; omega) ?_
  · show (vCons (vVar j) vNil) _ _ _
    simp only [vCons, vVar, vNil, List.getElem?_set_self hj]
    exact ⟨rfl, _, marks, leP marks t1 c1 p, rfl, rfl, h⟩
  · rw [List.nil_append]
    unfold totQ at k
    rw [List.map_map] at k
    exact k
def WiD (marks : List Str) (t1 : List Tie) (c1 : Lims) (t2 : List Tie) (c2 : Lims) (μ : Mu) (d : D) : Prop := (d = .non ∧ brQ marks t1 c1 t2 c2 = []) ∨ ∃ a p, d = .ref a ∧ μ a = some (leO9 marks t1 c1 p) ∧ p ∈ brQ marks t1 c1 t2 c2 ∧ ∀ p' ∈ brQ marks t1 c1 t2 c2, tot marks t1 c1 p ≤ tot marks t1 c1 p'
def sp__law_within_right : Sp3 := fun ds μ R => ∃ marks t1 c1 t2 c2 d, ds = [mdD marks t1 c1, mdD marks t2 c2, d] ∧ Pr2 marks t1 c1 t2 c2 ∧ WiD marks t1 c1 t2 c2 μ d ∧ R (.bl true) μ
def t__law_within_right_2 : TS3 := (sRet (vAndV (vCall 2 sp__law_is_moment (vCons (vVar 0) (vCons (vVar 2) vNil))) (vAndV (vNotV (vCall 2 sp__law_is_moment (vCons (vVar 1) (vCons (vVar 2) vNil)))) (vOp gEqS (vCall 1 sp__law_sum (vCons (vVar 2) vNil)) (vCB gMin1 (vCons (vVar 3) vNil))))))
def t__law_within_right_1 : TS3 := sSeq (sIf (vOr (vB (vOp gIsN (vVar 2) (vC .non))) (vB (vOp gEqX (vVar 3) (vLst vNil)))) (sRet (vAndV (vOp gIsN (vVar 2) (vC .non)) (vOp gEqX (vVar 3) (vLst vNil)))) sNext) t__law_within_right_2
def t__law_within_right : TS3 := sSeq (sSet 3 (vLc (iAny (vCall 2 sp__law_breaches (vCons (vVar 0) (vCons (vVar 1) vNil)))) (gN 4) vYes (vCall 1 sp__law_sum (vCons (vVar 4) vNil)) [4])) t__law_within_right_1
theorem pure__law_within_right (ds : List D) (μ : Mu) (R : DK) (hl : ds.length = 3) (h : sp__law_within_right ds μ R) : t__law_within_right (endsOf R) (start3 ["_law_one", "_law_other", "_law_told", "_law_totals", "_law_counts"] ds) μ := by
  obtain ⟨marks, t1, c1, t2, c2, d, rfl, pr, hd, h⟩ := h
  have hsl : sizeLine = 16777216 := by decide
  generalize hM1 : mdD marks t1 c1 = M1
  generalize hM2 : mdD marks t2 c2 = M2
  show t__law_within_right (endsOf R) [some M1, some M2, some d, none, none] μ
  unfold t__law_within_right
  walk_at "l3"
  refine ⟨rfl, marks, t1, c1, t2, c2, by rw [hM1, hM2], pr, ?_⟩
  refine any_lst (xs := (brQ marks t1 c1 t2 c2).map fun p => D.dct (ctK marks (leP marks t1 c1 p))) rfl fun Pm hP => ?_
  refine lc_tot pr (hP _ rfl) (by simp) ?_
  unfold t__law_within_right_1
  walk_at "l3"
  have nilT : totQ marks t1 c1 t2 c2 = [] ↔ brQ marks t1 c1 t2 c2 = [] := List.map_eq_nil_iff
  rcases hd with ⟨rfl, e0⟩ | ⟨a, p, rfl, ea, hp, hle⟩
  · simp only [gIsN, isNonD, if_true]
    refine ⟨Nat.zero_le _, .inr ⟨1, _, by decide, rfl, eqs_nil6 rfl, ?_⟩⟩
    rw [nilT.mpr e0]
    exact fin_now h
  · simp only [gIsN, isNonD, Bool.false_eq_true, if_false]
    refine ⟨Nat.zero_le _, .inr ⟨1, _, by decide, rfl, eqs_nil6 rfl, ?_⟩⟩
    have ne : (totQ marks t1 c1 t2 c2).map D.int ≠ [] := fun z => by
      have := nilT.mp (List.map_eq_nil_iff.mp z)
      rw [this] at hp
      cases hp
    simp only [ne, decide_false, Bool.false_eq_true, if_false]
    obtain ⟨b1, b2, b3, b4⟩ := br_ok pr hp
    have hda : dctOf μ (.ref a) = some (ctK marks (leP marks t1 c1 p)) := by simp only [dctOf, ea, leO9]
    unfold t__law_within_right_2
    walk_at "l3"
    rw [← hM1, ← hM2]
    refine ⟨rfl, marks, t1, c1, .ref a, leP marks t1 c1 p, rfl, pr.a, hda, ?_⟩
    rw [momB_iff.mpr b3]
    refine ⟨rfl, marks, t2, c2, .ref a, leP marks t1 c1 p, rfl, pr.b, hda, ?_⟩
    have nb : momB marks t2 c2 (leP marks t1 c1 p) = false := by
      cases z : momB marks t2 c2 (leP marks t1 c1 p) with
      | false => rfl
      | true => exact absurd (momB_iff.mp z) b4
    rw [nb]
    refine ⟨rfl, .ref a, marks, leP marks t1 c1 p, rfl, hda, ?_⟩
    refine ⟨_, totQ marks t1 c1 t2 c2, rfl, rfl, ?_, fun m hm hml => ?_⟩
    · cases z : totQ marks t1 c1 t2 c2 with
      | nil => rw [z] at ne; exact absurd rfl ne
      | cons x r => exact Nat.succ_pos _
    · have e : (marks.map (leP marks t1 c1 p)).sum = m := by
        have h1 : m ≤ tot marks t1 c1 p := hml _ (List.mem_map.mpr ⟨p, hp, rfl⟩)
        obtain ⟨p', hp', rfl⟩ := List.mem_map.mp hm
        exact Int.le_antisymm (hle p' hp') h1
      walk_at "l3"
      rw [e]
      simp only [decide_true]
      exact fin_now h
def AlD (marks : List Str) (t1 : List Tie) (c1 : Lims) (t2 : List Tie) (c2 : Lims) (μ : Mu) (d : D) : Prop := (d = .non ∧ brQ marks t1 c1 t2 c2 = [] ∧ brQ marks t2 c2 t1 c1 = []) ∨
  (∃ a p, d = .tup [.ref a, .int 0] ∧ μ a = some (leO9 marks t1 c1 p) ∧ p ∈ brQ marks t1 c1 t2 c2 ∧ (∀ m ∈ totQ marks t1 c1 t2 c2 ++ totQ marks t2 c2 t1 c1, tot marks t1 c1 p ≤ m)) ∨
  ∃ a p, d = .tup [.ref a, .int 1] ∧ μ a = some (leO9 marks t2 c2 p) ∧ p ∈ brQ marks t2 c2 t1 c1 ∧ ∀ m ∈ totQ marks t1 c1 t2 c2 ++ totQ marks t2 c2 t1 c1, tot marks t2 c2 p ≤ m
theorem shown_0 : (PyData.int 0).shown = "0" := by decide +kernel
theorem shown_1 : (PyData.int 1).shown = "1" := by decide +kernel
def sp__law_alike_right : Sp3 := fun ds μ R => ∃ marks t1 c1 t2 c2 d, ds = [mdD marks t1 c1, mdD marks t2 c2, d] ∧ Pr2 marks t1 c1 t2 c2 ∧ AlD marks t1 c1 t2 c2 μ d ∧ R (.bl true) μ
def t__law_alike_right_6 : TS3 := (sRet (vOp gEqS (vCall 1 sp__law_sum (vCons (vOp gAt (vVar 2) (vC (.int 0))) vNil)) (vCB gMin1 (vCons (vOp gAdd (vVar 3) (vVar 5)) vNil))))
def t__law_alike_right_5 : TS3 := sSeq (sIf (vOr (vNot (vB (vCall 2 sp__law_is_moment (vCons (vOp gAt (vVar 6) (vC (.int 0))) (vCons (vOp gAt (vVar 2) (vC (.int 0))) vNil))))) (vB (vCall 2 sp__law_is_moment (vCons (vOp gAt (vVar 6) (vC (.int 1))) (vCons (vOp gAt (vVar 2) (vC (.int 0))) vNil))))) (sRet (vC (.bl false))) sNext) t__law_alike_right_6
def t__law_alike_right_4 : TS3 := sSeq (sSet 6 (vStep2 (vLst (vCons (vVar 0) (vCons (vVar 1) vNil))) (vPart (vOp gAt (vLst (vCons (vC (.int 1)) (vCons (vUn gNeg (vC (.int 1))) vNil))) (vOp gAt (vVar 2) (vC (.int 1))))))) t__law_alike_right_5
def t__law_alike_right_3 : TS3 := sSeq (sIf (vOr (vNot (vB (vCB gIsi (vCons (vVar 2) (vCons (vC (.ty "tuple")) vNil))))) (vOr (vB (vOp gNeS (vCB gLen (vCons (vVar 2) vNil)) (vC (.int 2)))) (vB (vOp (gIn true) (vCB gRepr (vCons (vOp gAt (vVar 2) (vC (.int 1))) vNil)) (vTup (vCons (vC (.str "0")) (vCons (vC (.str "1")) vNil))))))) (sRet (vC (.bl false))) sNext) t__law_alike_right_4
def t__law_alike_right_2 : TS3 := sSeq (sIf (vOr (vB (vOp gIsN (vVar 2) (vC .non))) (vB (vOp gEqX (vOp gAdd (vVar 3) (vVar 5)) (vLst vNil)))) (sRet (vAndV (vOp gIsN (vVar 2) (vC .non)) (vOp gEqX (vOp gAdd (vVar 3) (vVar 5)) (vLst vNil)))) sNext) t__law_alike_right_3
def t__law_alike_right_1 : TS3 := sSeq (sSet 5 (vLc (iAny (vCall 2 sp__law_breaches (vCons (vVar 1) (vCons (vVar 0) vNil)))) (gN 4) vYes (vCall 1 sp__law_sum (vCons (vVar 4) vNil)) [4])) t__law_alike_right_2
def t__law_alike_right : TS3 := sSeq (sSet 3 (vLc (iAny (vCall 2 sp__law_breaches (vCons (vVar 0) (vCons (vVar 1) vNil)))) (gN 4) vYes (vCall 1 sp__law_sum (vCons (vVar 4) vNil)) [4])) t__law_alike_right_1
theorem pure__law_alike_right (ds : List D) (μ : Mu) (R : DK) (hl : ds.length = 3) (h : sp__law_alike_right ds μ R) : t__law_alike_right (endsOf R) (start3 ["_law_one", "_law_other", "_law_told", "_law_first", "_law_counts", "_law_second", "_law_models"] ds) μ := by
  obtain ⟨marks, t1, c1, t2, c2, d, rfl, pr, hd, h⟩ := h
  have hsl : sizeLine = 16777216 := by decide
  generalize hM1 : mdD marks t1 c1 = M1
  generalize hM2 : mdD marks t2 c2 = M2
  show t__law_alike_right (endsOf R) [some M1, some M2, some d, none, none, none, none] μ
  unfold t__law_alike_right
  walk_at "l3"
  refine ⟨rfl, marks, t1, c1, t2, c2, by rw [hM1, hM2], pr, ?_⟩
  refine any_lst (xs := (brQ marks t1 c1 t2 c2).map fun p => D.dct (ctK marks (leP marks t1 c1 p))) rfl fun Pm hP => ?_
  refine lc_tot pr (hP _ rfl) (by simp) ?_
  unfold t__law_alike_right_1
  walk_at "l3"
  refine ⟨rfl, marks, t2, c2, t1, c1, by rw [hM1, hM2], pr.swap, ?_⟩
  refine any_lst (xs := (brQ marks t2 c2 t1 c1).map fun p => D.dct (ctK marks (leP marks t2 c2 p))) rfl fun Pm2 hP2 => ?_
  refine lc_tot pr.swap (hP2 _ rfl) (by simp) ?_
  unfold t__law_alike_right_2
  walk_at "l3"
  have nilT : totQ marks t1 c1 t2 c2 ++ totQ marks t2 c2 t1 c1 = [] ↔ brQ marks t1 c1 t2 c2 = [] ∧ brQ marks t2 c2 t1 c1 = [] := by
    rw [List.append_eq_nil_iff]
    exact and_congr List.map_eq_nil_iff List.map_eq_nil_iff
  have tl1 : (totQ marks t1 c1 t2 c2).length ≤ 100 ∧ (totQ marks t2 c2 t1 c1).length ≤ 100 := by
    have one : ∀ {ta tb : List Tie} {ca cb : Lims}, Pr2 marks ta ca tb cb → (totQ marks ta ca tb cb).length ≤ 100 := fun {ta tb ca cb} pr => by
      unfold totQ brQ brL
      rw [List.length_map, List.length_map]
      have := List.length_filter_le (fun t : Tie => brk (farL marks ta ca t.1 t.2.1) t.2.2) (rowsC tb cb)
      have tl := pr.b.t.le
      have cl := lims_len pr.b.l
      have m8 := pr.a.e.le
      unfold rowsC at this ⊢
      rw [List.length_append, List.length_map] at this
      omega
    exact ⟨one pr, one pr.swap⟩
  have catT : ∀ {K : D → Mu → Prop}, K (.lst ((totQ marks t1 c1 t2 c2 ++ totQ marks t2 c2 t1 c1).map D.int)) μ → gAdd (D.lst ((totQ marks t1 c1 t2 c2).map D.int)) (D.lst ((totQ marks t2 c2 t1 c1).map D.int)) μ K := fun {K} k => by
    refine gAdd_ll (by rw [List.length_map, List.length_map, hsl]; omega) ?_
    rw [← List.map_append]
    exact k
  have side : ∀ (ta tb : List Tie) (ca cb : Lims) (i : Int) (a : Addr) (p : Str × Int) (MA MB : D), Pr2 marks ta ca tb cb → MA = mdD marks ta ca → MB = mdD marks tb cb → (i = 0 ∨ i = 1) → (D.lst (if (if i = 0 then (1 : Int) else -1) = 1 then [M1, M2] else [M2, M1]) = .lst [MA, MB]) → d = .tup [.ref a, .int i] → μ a = some (leO9 marks ta ca p) → p ∈ brQ marks ta ca tb cb → tot marks ta ca p ∈ totQ marks t1 c1 t2 c2 ++ totQ marks t2 c2 t1 c1 → (∀ m ∈ totQ marks t1 c1 t2 c2 ++ totQ marks t2 c2 t1 c1, tot marks ta ca p ≤ m) →
      t__law_alike_right_3 (endsOf R) [some M1, some M2, some (.tup [.ref a, .int i]), some (.lst ((totQ marks t1 c1 t2 c2).map D.int)), none, some (.lst ((totQ marks t2 c2 t1 c1).map D.int)), none] μ := fun ta tb ca cb i a p MA MB pr2 eA eB hi hmod _ ea hp hin hle => by
    obtain ⟨b1, b2, b3, b4⟩ := br_ok pr2 hp
    have hda : dctOf μ (.ref a) = some (ctK marks (leP marks ta ca p)) := by simp only [dctOf, ea, leO9]
    have nb : momB marks tb cb (leP marks ta ca p) = false := by
      cases z : momB marks tb cb (leP marks ta ca p) with
      | false => rfl
      | true => exact absurd (momB_iff.mp z) b4
    unfold t__law_alike_right_3
    walk_at "l3"
    refine ⟨"tuple", true, rfl, by decide, ?_⟩
    simp only [Bool.not_true, Bool.false_eq_true, if_false]
    refine gLen_of (xs := [.ref a, .int i]) rfl ?_
    walk_at "l3"
    rw [show decide ((([D.ref a, D.int i] : List D).length : Int) = 2) = true from rfl]
    simp only [Bool.not_true, Bool.false_eq_true, if_false]
    refine at_t (d := .int i) rfl ?_
    have rep : ∀ {K : D → Mu → Prop}, (∀ z : Str, (z = "0" ∨ z = "1") → K (.str z) μ) → gRepr [.int i] μ K := fun {K} k => by
      rcases hi with rfl | rfl
      · exact ⟨.int 0, .int 0, rfl, .int 0, ⟨by decide, by decide, by decide⟩, k _ (.inl shown_0)⟩
      · exact ⟨.int 1, .int 1, rfl, .int 1, ⟨by decide, by decide, by decide⟩, k _ (.inr shown_1)⟩
    refine rep fun z hz => ?_
    refine ⟨by rw [hsl]; show 2 ≤ _; decide, ?_⟩
    refine in_q (xs := [.str "0", .str "1"]) rfl rfl rfl ?_
    have : inD (.str z) [.str "0", .str "1"] = true := by rcases hz with rfl | rfl <;> decide
    rw [this]
    simp only [Bool.not_true, if_true, Bool.false_eq_true, if_false]
    unfold t__law_alike_right_4
    walk_at "l3"
    walk_at "s9"
    walk_at "l3"
    refine ⟨by rw [hsl]; show 2 ≤ _; decide, by rw [hsl]; show 2 ≤ _; decide, ?_⟩
    refine at_t (d := .int i) rfl ?_
    have mod : ∀ {K : D → Mu → Prop}, (∀ j : Int, (j = 1 ∨ j = -1) → j = (if i = 0 then 1 else -1) → K (.int j) μ) → gAt (D.lst [D.int 1, D.int (-1)]) (.int i) μ K := fun {K} k => by
      rcases hi with rfl | rfl
      · exact at_l (xs := [D.int 1, D.int (-1)]) (d := .int 1) rfl (k 1 (.inl rfl) rfl)
      · exact at_l (xs := [D.int 1, D.int (-1)]) (d := .int (-1)) rfl (k (-1) (.inr rfl) rfl)
    refine mod fun j hj ej => ?_
    refine ⟨M1, M2, j, rfl, rfl, hj, ?_⟩
    rw [ej, hmod]
    unfold t__law_alike_right_5
    walk_at "l3"
    refine at_l (xs := [MA, MB]) (d := MA) rfl (at_t (d := .ref a) rfl ?_)
    rw [eA]
    refine ⟨rfl, marks, ta, ca, .ref a, leP marks ta ca p, rfl, pr2.a, hda, ?_⟩
    rw [momB_iff.mpr b3]
    simp only [Bool.not_true, Bool.false_eq_true, if_false]
    refine at_l (xs := [mdD marks ta ca, MB]) (d := MB) rfl (at_t (d := .ref a) rfl ?_)
    rw [eB]
    refine ⟨rfl, marks, tb, cb, .ref a, leP marks ta ca p, rfl, pr2.b, hda, ?_⟩
    rw [nb]
    simp only [Bool.false_eq_true, if_false]
    unfold t__law_alike_right_6
    walk_at "l3"
    refine at_t (d := .ref a) rfl ?_
    refine ⟨rfl, .ref a, marks, leP marks ta ca p, rfl, hda, ?_⟩
    refine catT ⟨_, totQ marks t1 c1 t2 c2 ++ totQ marks t2 c2 t1 c1, rfl, rfl, List.length_pos_of_mem hin, fun m hm hml => ?_⟩
    have e : (marks.map (leP marks ta ca p)).sum = m := Int.le_antisymm (hle m hm) (hml _ hin)
    walk_at "l3"
    rw [e]
    simp only [decide_true]
    exact fin_now h
  rcases hd with ⟨rfl, e1, e2⟩ | ⟨a, p, rfl, ea, hp, hle⟩ | ⟨a, p, rfl, ea, hp, hle⟩
  · simp only [gIsN, isNonD, if_true]
    refine catT ⟨Nat.zero_le _, .inr ⟨1, _, by decide, rfl, eqs_nil6 rfl, ?_⟩⟩
    rw [nilT.mpr ⟨e1, e2⟩]
    exact fin_now h
  · simp only [gIsN, isNonD, Bool.false_eq_true, if_false]
    have hin : tot marks t1 c1 p ∈ totQ marks t1 c1 t2 c2 ++ totQ marks t2 c2 t1 c1 := List.mem_append_left _ (List.mem_map.mpr ⟨p, hp, rfl⟩)
    refine catT ⟨Nat.zero_le _, .inr ⟨1, _, by decide, rfl, eqs_nil6 rfl, ?_⟩⟩
    have ne : (totQ marks t1 c1 t2 c2 ++ totQ marks t2 c2 t1 c1).map D.int ≠ [] := fun z => by
      rw [List.map_eq_nil_iff.mp z] at hin
      cases hin
    simp only [ne, decide_false, Bool.false_eq_true, if_false]
    exact side t1 t2 c1 c2 0 a p M1 M2 pr hM1.symm hM2.symm (.inl rfl) rfl rfl ea hp hin hle
  · simp only [gIsN, isNonD, Bool.false_eq_true, if_false]
    have hin : tot marks t2 c2 p ∈ totQ marks t1 c1 t2 c2 ++ totQ marks t2 c2 t1 c1 := List.mem_append_right _ (List.mem_map.mpr ⟨p, hp, rfl⟩)
    refine catT ⟨Nat.zero_le _, .inr ⟨1, _, by decide, rfl, eqs_nil6 rfl, ?_⟩⟩
    have ne : (totQ marks t1 c1 t2 c2 ++ totQ marks t2 c2 t1 c1).map D.int ≠ [] := fun z => by
      rw [List.map_eq_nil_iff.mp z] at hin
      cases hin
    simp only [ne, decide_false, Bool.false_eq_true, if_false]
    exact side t2 t1 c2 c1 1 a p M2 M1 pr.swap hM2.symm hM1.symm (.inr rfl) rfl rfl ea hp hin hle
end C1
namespace C1
open PySem PySem.Spec L2 L3 C2
local macro_rules | `(tactic| walk_at "l3") => `(tactic| simp only [sSeq, sNext, sIf, sRet, sRetN, sSet, sDrop, sSub, sFor, sAsg, sPar2, sPar3, sCont, sFld3, sFld2, sAug, vVar, vC, vNil, vCons, vOp, vB, vChain, vAnd, vOr, vNot, vAndV, vOrV, vNotV, vIf, vUn, vCB, vLst, vTup, vLstT, vCall, vCal, vMak, vMetA, vFld, vSl, vPart, vNoP, vLc, vLcT, vDc, vBM, vBM0, vGet1, vGet2, vItems, vRev, vLRg, vStar, vDZip, iRg1, iRg2, iRgD, iAny, iEnm, iItm, iVal, vDict0, vDict0T, vDict0N, vDisp, vDispT, vPairs,
  List.getElem?_cons_zero, List.getElem?_cons_succ, List.set_cons_zero, List.set_cons_succ, wipe3, endsOf_rt, endsOf_nx, gLt, gLe, gGt, gGe, L3.gSub, gMul, gMod, gDiv, gPow, g2I, g2I0, gN, gT, gGo, Option.bind_some, gAdd_ii, gAdd_ss, gNeg_i, gMax2_ii, gMin2_ii, gLen_s, gEqS_ii, gEqS_ss, gEqS_bb, gNeS_ii, gNeS_ss, gIsN_n, gNotN_n, gSl_s, isNonD, if_true, if_false, Bool.false_eq_true, Bool.not_true, Bool.not_false])
theorem cut_fst {xs : List D} {k : Nat} : cutD xs none (some (k : Int)) = xs.take (min k xs.length) := by
  unfold cutD
  rw [HT.sIx_none, HT.sIx_nat, Nat.sub_zero, List.drop_zero]
theorem cut_snd {xs : List D} {k : Nat} : cutD xs (some (k : Int)) none = xs.drop (min k xs.length) := by
  unfold cutD
  rw [HT.sIx_none, HT.sIx_nat]
  exact List.take_of_length_le (by rw [List.length_drop]; exact Nat.le_refl _)
theorem ring_sub9 {marks : List Str} {ties ties' : List Tie} (h : NoRing marks ties) (s : ∀ t ∈ ties', t.2.2 = 0 → t ∈ ties) : NoRing marks ties' := fun e he r => by
  have one : ∀ {x z : Str}, z ∈ adj0 ties' x → z ∈ adj0 ties x := fun {x z} hz => by
    obtain ⟨c, hc, h1, h2, h3⟩ := mem_adj.mp hz
    have h1' : c.2.2 = 0 := of_decide_eq_true h1
    exact mem_adj.mpr ⟨c, s c hc h1', decide_eq_true h1', h2, h3⟩
  refine h e he ?_
  have key : ∀ z, Rch (adj0 ties') (adj0 ties' e) z → Rch (adj0 ties) (adj0 ties e) z := fun z r => by
    induction r with
    | base k => exact .base (one k)
    | step _ k ih => exact .step ih (one k)
  exact key e r
theorem lim_put {marks : List Str} {C : Lims} {e : Str} {v : Int} (lk : LiOk marks C) (he : e ∈ marks) (hv : 0 ≤ v) : ∃ C', putD (limK C) (.inr e) (.int v) = limK C' ∧ LiOk marks C' := by
  unfold putD
  split
  · refine ⟨C.map fun p => if p.1 = e then (p.1, v) else p, ?_, ?_, fun p hp => ?_, fun p hp => ?_⟩
    · unfold limK
      rw [List.map_map, List.map_map]
      refine List.map_congr_left fun p _ => ?_
      simp only [Function.comp, Sum.inr.injEq]
      split <;> rfl
    · have : (C.map fun p => if p.1 = e then (p.1, v) else p).map (·.1) = C.map (·.1) := by
        rw [List.map_map]
        refine List.map_congr_left fun p _ => ?_
        simp only [Function.comp]
        split <;> rfl
      rw [this]; exact lk.nd
    · obtain ⟨q, hq, rfl⟩ := List.mem_map.mp hp
      split
      · exact lk.a q hq
      · exact lk.a q hq
    · obtain ⟨q, hq, rfl⟩ := List.mem_map.mp hp
      split
      · exact hv
      · exact lk.c q hq
  · rename_i hn
    have ne : e ∉ C.map (·.1) := fun h => by
      obtain ⟨p, hp, rfl⟩ := List.mem_map.mp h
      exact hn (List.any_eq_true.mpr ⟨(.inr p.1, .int p.2), List.mem_map.mpr ⟨p, hp, rfl⟩, decide_eq_true rfl⟩)
    refine ⟨C ++ [(e, v)], by unfold limK; rw [List.map_append]; rfl, ?_, fun p hp => ?_, fun p hp => ?_⟩
    · rw [List.map_append, List.nodup_append]
      refine ⟨lk.nd, by simp, fun a ha b hb => ?_⟩
      rw [show b = e by simpa using hb]
      exact fun z => ne (z ▸ ha)
    · rcases List.mem_append.mp hp with hp | hp
      · exact lk.a p hp
      · rw [List.mem_singleton.mp hp]; exact he
    · rcases List.mem_append.mp hp with hp | hp
      · exact lk.c p hp
      · rw [List.mem_singleton.mp hp]; exact hv
def sp__law_near : Sp3 := fun ds μ R => ∃ b n marks T C, ds = [.ref b, mdD marks T C] ∧ Box μ b n ∧ n < 100000000 ∧ PlOk marks T C ∧ T.length ≤ 50 ∧ ∀ T' C' μ', PlOk marks T' C' → Onl b μ μ' → Box μ' b (n + 100) → R (mdD marks T' C') μ'
def t__law_near_2 : TS3 := (sRet (vLst (vCons (vVar 2) (vCons (vVar 3) (vCons (vVar 4) vNil)))))
def t__law_near_1 : TS3 := sSeq (sFor (iRg1 (vCons (vOp gAdd (vC (.int 1)) (vCall 2 sp__law_take (vCons (vVar 0) (vCons (vC (.int 3)) vNil)))) vNil)) (gN 5) (sSeq (sSet 6 (vCall 2 sp__law_take (vCons (vVar 0) (vCons (vC (.int 6)) vNil)))) (sSeq (sSet 7 (vCall 2 sp__law_take (vCons (vVar 0) (vCons (vOp gAdd (vCB gLen (vCons (vVar 3) vNil)) (vC (.int 1))) vNil)))) (sSeq (sIf (vAnd (vB (vOp gLt (vVar 6) (vC (.int 2)))) (vB (vOp gLt (vVar 7) (vCB gLen (vCons (vVar 3) vNil))))) (sSeq (sAsg (vOp gAt (vVar 3) (vVar 7)) (gT [(gN 8), (gN 9), (gN 10)])) (sSet 3 (vOp gAdd (vOp gAdd (vSl (vVar 3) vNoP (vPart (vVar 7))) (vOp (gRep false) (vLst (vCons (vTup (vCons (vVar 8) (vCons (vVar 9) (vCons (vOp gAt (vLst (vCons (vOp gAdd (vVar 10) (vC (.int 1))) (vCons (vCB gMax2 (vCons (vC (.int 1)) (vCons (vOp gSub (vVar 10) (vC (.int 1))) vNil))) vNil))) (vVar 6)) vNil)))) vNil)) (vCall 2 sp__law_take (vCons (vVar 0) (vCons (vC (.int 2)) vNil))))) (vSl (vVar 3) (vPart (vOp gAdd (vVar 7) (vC (.int 1)))) vNoP)))) sNext) (sSeq (sIf (vB (vOp (gIn false) (vVar 6) (vTup (vCons (vC (.int 2)) (vCons (vC (.int 3)) vNil))))) (sSeq (sSet 11 (vTup (vCons (vOp gAt (vVar 2) (vCall 2 sp__law_take (vCons (vVar 0) (vCons (vCB gLen (vCons (vVar 2) vNil)) vNil)))) (vCons (vOp gAt (vVar 2) (vOp gMod (vVar 7) (vCB gLen (vCons (vVar 2) vNil)))) (vCons (vOp gAdd (vC (.int 1)) (vCall 1 sp__law_lag (vCons (vVar 0) vNil))) vNil))))) (sSet 3 (vOp gAdd (vOp gAdd (vSl (vVar 3) vNoP (vPart (vVar 7))) (vLst (vCons (vVar 11) vNil))) (vSl (vVar 3) (vPart (vVar 7)) vNoP)))) sNext) (sSeq (sIf (vB (vOp gEqS (vVar 6) (vC (.int 4)))) (sSet 4 (vCB (gDict false) (vCons (vLc (iAny (vVar 4)) (gN 12) (vB (vOp gEqS (vCall 2 sp__law_take (vCons (vVar 0) (vCons (vC (.int 2)) vNil))) (vC (.int 0)))) (vTup (vCons (vVar 12) (vCons (vOp gAt (vVar 4) (vVar 12)) vNil))) [12]) vNil))) sNext) (sIf (vB (vOp gEqS (vVar 6) (vC (.int 5)))) (sSet 4 (vCB (gDict false) (vCons (vOp gAdd (vItems (vVar 4)) (vLst (vCons (vTup (vCons (vOp gAt (vVar 2) (vOp gMod (vVar 7) (vCB gLen (vCons (vVar 2) vNil)))) (vCons (vCall 2 sp__law_take (vCons (vVar 0) (vCons (vC (.int 7)) vNil))) vNil))) vNil))) vNil))) sNext))))))) t__law_near_2
def t__law_near : TS3 := sSeq (sAsg (vVar 1) (gT [(gN 2), (gN 3), (gN 4)])) t__law_near_1
def nB2 : TS3 := (sSeq (sIf (vB (vOp (gIn false) (vVar 6) (vTup (vCons (vC (.int 2)) (vCons (vC (.int 3)) vNil))))) (sSeq (sSet 11 (vTup (vCons (vOp gAt (vVar 2) (vCall 2 sp__law_take (vCons (vVar 0) (vCons (vCB gLen (vCons (vVar 2) vNil)) vNil)))) (vCons (vOp gAt (vVar 2) (vOp gMod (vVar 7) (vCB gLen (vCons (vVar 2) vNil)))) (vCons (vOp gAdd (vC (.int 1)) (vCall 1 sp__law_lag (vCons (vVar 0) vNil))) vNil))))) (sSet 3 (vOp gAdd (vOp gAdd (vSl (vVar 3) vNoP (vPart (vVar 7))) (vLst (vCons (vVar 11) vNil))) (vSl (vVar 3) (vPart (vVar 7)) vNoP)))) sNext) (sSeq (sIf (vB (vOp gEqS (vVar 6) (vC (.int 4)))) (sSet 4 (vCB (gDict false) (vCons (vLc (iAny (vVar 4)) (gN 12) (vB (vOp gEqS (vCall 2 sp__law_take (vCons (vVar 0) (vCons (vC (.int 2)) vNil))) (vC (.int 0)))) (vTup (vCons (vVar 12) (vCons (vOp gAt (vVar 4) (vVar 12)) vNil))) [12]) vNil))) sNext) (sIf (vB (vOp gEqS (vVar 6) (vC (.int 5)))) (sSet 4 (vCB (gDict false) (vCons (vOp gAdd (vItems (vVar 4)) (vLst (vCons (vTup (vCons (vOp gAt (vVar 2) (vOp gMod (vVar 7) (vCB gLen (vCons (vVar 2) vNil)))) (vCons (vCall 2 sp__law_take (vCons (vVar 0) (vCons (vC (.int 7)) vNil))) vNil))) vNil))) vNil))) sNext)))
def nB3 : TS3 := (sSeq (sIf (vB (vOp gEqS (vVar 6) (vC (.int 4)))) (sSet 4 (vCB (gDict false) (vCons (vLc (iAny (vVar 4)) (gN 12) (vB (vOp gEqS (vCall 2 sp__law_take (vCons (vVar 0) (vCons (vC (.int 2)) vNil))) (vC (.int 0)))) (vTup (vCons (vVar 12) (vCons (vOp gAt (vVar 4) (vVar 12)) vNil))) [12]) vNil))) sNext) (sIf (vB (vOp gEqS (vVar 6) (vC (.int 5)))) (sSet 4 (vCB (gDict false) (vCons (vOp gAdd (vItems (vVar 4)) (vLst (vCons (vTup (vCons (vOp gAt (vVar 2) (vOp gMod (vVar 7) (vCB gLen (vCons (vVar 2) vNil)))) (vCons (vCall 2 sp__law_take (vCons (vVar 0) (vCons (vC (.int 7)) vNil))) vNil))) vNil))) vNil))) sNext))
def nB4 : TS3 := (sIf (vB (vOp gEqS (vVar 6) (vC (.int 5)))) (sSet 4 (vCB (gDict false) (vCons (vOp gAdd (vItems (vVar 4)) (vLst (vCons (vTup (vCons (vOp gAt (vVar 2) (vOp gMod (vVar 7) (vCB gLen (vCons (vVar 2) vNil)))) (vCons (vCall 2 sp__law_take (vCons (vVar 0) (vCons (vC (.int 7)) vNil))) vNil))) vNil))) vNil))) sNext)
section
variable {marks : List Str} {T C : List Tie} {b : Addr} {n : Nat} {μ : Mu} {Z : Ends3} {M : D} {y5 y8 y9 y10 y11 y12 : Option D} {way : Int} {at_ : Nat}
theorem near4 {T : List Tie} {C : Lims} {y8 y9 y10 y11 y12 : Option D} (ok : PlOk marks T C) (B : Box μ b n) (hn : n < 200000000)
    (go : ∀ C' μ' y12, PlOk marks T C' → Onl b μ μ' → Box μ' b (n + 1) → Z.nx [some (.ref b), some M, some (.lst (sds marks)), some (.lst (T.map tieD)), some (.dct (limK C')), y5, some (.int way), some (.int (at_ : Nat)), y8, y9, y10, y11, y12] μ') :
    nB4 Z [some (.ref b), some M, some (.lst (sds marks)), some (.lst (T.map tieD)), some (.dct (limK C)), y5, some (.int way), some (.int (at_ : Nat)), y8, y9, y10, y11, y12] μ := by
  have hsl : sizeLine = 16777216 := by decide
  have bm : bigB = 1000000000 := rfl
  have m8 := ok.e.le
  have mp := ok.e.pos
  have cl := lims_len ok.l
  unfold nB4
  walk_at "l3"
  by_cases h5 : way = 5
  · simp only [h5, decide_true, if_true]
    rw [h5] at go
    refine ⟨limK C, rfl, ?_⟩
    refine gLen_of (xs := sds marks) rfl ?_
    rw [show (sds marks).length = marks.length by simp [sds]]
    have mpos : (0 : Int) < (marks.length : Nat) := by omega
    refine ⟨mpos, ?_⟩
    have r0 : 0 ≤ ((at_ : Nat) : Int) % (marks.length : Nat) := Int.emod_nonneg _ (by omega)
    have r1 : ((at_ : Nat) : Int) % (marks.length : Nat) < (marks.length : Nat) := Int.emod_lt_of_pos _ mpos
    obtain ⟨d, hd, ed, _⟩ := pick (xs := sds marks) r0 (by rw [show (sds marks).length = marks.length by simp [sds]]; exact r1)
    obtain ⟨e, he, rfl⟩ := List.mem_map.mp hd
    refine at_l ed ?_
    refine ⟨rfl, b, 7, _, rfl, B, by omega, by decide, by decide, fun v μ1 v0 v1 o1 b1 => ?_⟩
    refine ⟨by rw [hsl]; show 2 ≤ _; decide, by rw [hsl]; show 1 ≤ _; decide, ?_⟩
    refine gAdd_ll (by unfold limK; rw [List.length_map, List.length_map, hsl]; simp; omega) ?_
    have ea : (limK C).map pairD ++ [D.tup [.str e, .int v]] = (limK C ++ [((.inr e : Key), D.int v)]).map pairD := by rw [List.map_append]; rfl
    rw [ea]
    obtain ⟨C', e1, lk⟩ := lim_put ok.l he v0
    refine ⟨_, limK C', rfl, .inr ⟨limK C ++ [((.inr e : Key), D.int v)], rfl, ?_⟩, ?_⟩
    · have nk : ((limK C).map (·.1)).Nodup := by
        have e : (limK C).map (·.1) = (C.map (·.1)).map Sum.inr := by unfold limK; rw [List.map_map, List.map_map]; rfl
        rw [e]
        exact List.Pairwise.map _ (fun a b h z => h (Sum.inr.inj z)) ok.l.nd
      have hm : mergeD [] (limK C) = limK C := by rw [merge_new _ _ (by rw [List.nil_append]; exact nk), List.nil_append]
      have : mergeD [] (limK C ++ [((.inr e : Key), D.int v)]) = putD (mergeD [] (limK C)) (.inr e) (.int v) := by
        unfold mergeD
        rw [List.foldl_append]
        rfl
      rw [this, hm, e1]
    rw [if_neg Bool.false_ne_true]
    exact go C' μ1 y12 ⟨ok.e, ok.t, lk, ok.r⟩ o1 b1
  · simp only [h5, decide_false, Bool.false_eq_true, if_false]
    exact go C μ y12 ok (Onl.refl b μ) (B.mono (by omega))
theorem near3 {T : List Tie} {C : Lims} {y8 y9 y10 y11 y12 : Option D} (ok : PlOk marks T C) (B : Box μ b n) (hn : n < 150000000)
    (go : ∀ C' μ' y12, PlOk marks T C' → Onl b μ μ' → Box μ' b (n + 9) → Z.nx [some (.ref b), some M, some (.lst (sds marks)), some (.lst (T.map tieD)), some (.dct (limK C')), y5, some (.int way), some (.int (at_ : Nat)), y8, y9, y10, y11, y12] μ') :
    nB3 Z [some (.ref b), some M, some (.lst (sds marks)), some (.lst (T.map tieD)), some (.dct (limK C)), y5, some (.int way), some (.int (at_ : Nat)), y8, y9, y10, y11, y12] μ := by
  have hsl : sizeLine = 16777216 := by decide
  have bm : bigB = 1000000000 := rfl
  have m8 := ok.e.le
  have cl := lims_len ok.l
  show sSeq (sIf _ _ sNext) nB4 Z _ μ
  walk_at "l3"
  by_cases h4 : way = 4
  · simp only [h4, decide_true, if_true]
    rw [h4] at go
    show lcW (fun _ => True) _ _ _ _ _ ((limK C).map fun kv => keyD kv.1) [] μ
    have ek : ((limK C).map fun kv => keyD kv.1) = C.map fun p => D.str p.1 := by simp [limK, keyD, Function.comp_def]
    rw [ek]
    refine lc_ind (W := fun ds acc μ' => ∃ todo done kept : Lims, ds = todo.map (fun p => D.str p.1) ∧ C = done ++ todo ∧ acc = kept.map (fun p => D.tup [.str p.1, .int p.2]) ∧ kept.Sublist done ∧ Onl b μ μ' ∧ Box μ' b (n + done.length)) ?_ ?_ (C.map fun p => D.str p.1) [] μ ⟨C, [], [], rfl, rfl, rfl, .slnil, Onl.refl b μ, B⟩
    · rintro acc μ1 ⟨todo, done, kept, e, ed, rfl, ks, o1, b1⟩
      cases todo with
      | cons a r => cases e
      | nil =>
      rw [List.append_nil] at ed
      subst ed
      refine ⟨trivial, ?_⟩
      have kn : (kept.map (·.1)).Nodup := ok.l.nd.sublist (ks.map _)
      have nk : ((limK kept).map (·.1)).Nodup := by
        have e : (limK kept).map (·.1) = (kept.map (·.1)).map Sum.inr := by unfold limK; rw [List.map_map, List.map_map]; rfl
        rw [e]
        exact List.Pairwise.map _ (fun a b h z => h (Sum.inr.inj z)) kn
      refine ⟨_, limK kept, rfl, .inr ⟨limK kept, ?_, ?_⟩, ?_⟩
      · unfold limK
        show some _ = some _
        rw [List.map_map]; rfl
      · rw [merge_new _ _ (by rw [List.nil_append]; exact nk), List.nil_append]
      rw [if_neg Bool.false_ne_true]
      refine near4 (C := kept) ⟨ok.e, ok.t, ⟨kn, fun p hp => ok.l.a p (ks.subset hp), fun p hp => ok.l.c p (ks.subset hp)⟩, ok.r⟩ b1 (by omega) fun C' μ2 y12 ok2 o2 b2 => go C' μ2 y12 ok2 (o1.trans o2) (b2.mono (by omega))
    · rintro d ds acc μ1 ⟨todo, done, kept, e, ed, rfl, ks, o1, b1⟩
      cases todo with
      | nil => cases e
      | cons p todo =>
      obtain ⟨rfl, rfl⟩ := List.cons.inj (show d :: ds = D.str p.1 :: todo.map (fun p => D.str p.1) from e)
      have hp : p ∈ C := by rw [ed]; simp
      have dl : done.length < 8 := by
        have := congrArg List.length ed
        rw [List.length_append, List.length_cons] at this
        omega
      have kl := ks.length_le
      refine ⟨trivial, by rw [List.length_map, hsl]; omega, _, rfl, fun N hN => ?_⟩
      walk_at "l3"
      refine ⟨rfl, b, 2, _, rfl, b1, by omega, by decide, by decide, fun r μ2 r0 r1 o2 b2 => ?_⟩
      walk_at "l3"
      by_cases hr : r = 0
      · simp only [hr, decide_true, if_true]
        refine at_d (c := .k (limK C)) (d := .int p.2) rfl (by show some (valD _ _) = _; rw [val_lim, look_of ok.l.nd hp]; rfl) ?_
        refine ⟨by rw [hsl]; show 2 ≤ _; decide, ?_⟩
        have ea : kept.map (fun p => D.tup [.str p.1, .int p.2]) ++ [D.tup [.str p.1, .int p.2]] = (kept ++ [p]).map fun p => D.tup [.str p.1, .int p.2] := by simp
        rw [ea]
        exact hN _ _ ⟨todo, done ++ [p], kept ++ [p], rfl, by rw [ed]; simp, rfl, ks.append_right [p], o1.trans o2, b2.mono (by rw [List.length_append]; simp; omega)⟩
      · simp only [hr, decide_false, Bool.false_eq_true, if_false]
        exact hN _ _ ⟨todo, done ++ [p], kept, rfl, by rw [ed]; simp, rfl, ks.trans (List.sublist_append_left _ _), o1.trans o2, b2.mono (by rw [List.length_append]; simp; omega)⟩
  · simp only [h4, decide_false, Bool.false_eq_true, if_false]
    exact near4 ok B (by omega) fun C' μ2 y12 ok2 o2 b2 => go C' μ2 y12 ok2 o2 (b2.mono (by omega))
theorem near2 {T : List Tie} {C : Lims} {y8 y9 y10 y11 y12 : Option D} (ok : PlOk marks T C) (tl : T.length ≤ 58) (w0 : 0 ≤ way) (w6 : way < 6) (B : Box μ b n) (hn : n < 120000000)
    (go : ∀ T' C' μ' y11 y12, PlOk marks T' C' → T'.length ≤ T.length + 1 → Onl b μ μ' → Box μ' b (n + 12) → Z.nx [some (.ref b), some M, some (.lst (sds marks)), some (.lst (T'.map tieD)), some (.dct (limK C')), y5, some (.int way), some (.int (at_ : Nat)), y8, y9, y10, y11, y12] μ') :
    nB2 Z [some (.ref b), some M, some (.lst (sds marks)), some (.lst (T.map tieD)), some (.dct (limK C)), y5, some (.int way), some (.int (at_ : Nat)), y8, y9, y10, y11, y12] μ := by
  have hsl : sizeLine = 16777216 := by decide
  have bm : bigB = 1000000000 := rfl
  have m8 := ok.e.le
  have mp := ok.e.pos
  show sSeq (sIf _ _ sNext) nB3 Z _ μ
  walk_at "l3"
  refine ⟨by rw [hsl]; show 2 ≤ _; decide, ?_⟩
  refine in_q (xs := [.int 2, .int 3]) rfl rfl rfl ?_
  have hin : inD (.int way) [.int 2, .int 3] = decide (way = 2 ∨ way = 3) := by
    have : way = 0 ∨ way = 1 ∨ way = 2 ∨ way = 3 ∨ way = 4 ∨ way = 5 := by omega
    rcases this with rfl | rfl | rfl | rfl | rfl | rfl <;> decide
  rw [hin]
  by_cases h23 : way = 2 ∨ way = 3
  · simp only [h23, decide_true, Bool.false_eq_true, if_false, if_true]
    have hl : (sds marks).length = marks.length := by simp [sds]
    refine gLen_of (xs := sds marks) rfl ?_
    rw [hl]
    refine ⟨rfl, b, (marks.length : Nat), _, rfl, B, by omega, by omega, by omega, fun r μ1 r0 r1 o1 b1 => ?_⟩
    obtain ⟨d, hd, ed, _⟩ := pick (xs := sds marks) r0 (by rw [hl]; exact r1)
    obtain ⟨e1, he1, rfl⟩ := List.mem_map.mp hd
    refine at_l ed ?_
    refine gLen_of (xs := sds marks) rfl ?_
    rw [hl]
    have mpos : (0 : Int) < (marks.length : Nat) := by omega
    refine ⟨mpos, ?_⟩
    have q0 : 0 ≤ ((at_ : Nat) : Int) % (marks.length : Nat) := Int.emod_nonneg _ (by omega)
    have q1 : ((at_ : Nat) : Int) % (marks.length : Nat) < (marks.length : Nat) := Int.emod_lt_of_pos _ mpos
    obtain ⟨d2, hd2, ed2, _⟩ := pick (xs := sds marks) q0 (by rw [hl]; exact q1)
    obtain ⟨e2, he2, rfl⟩ := List.mem_map.mp hd2
    refine at_l ed2 ?_
    refine ⟨rfl, b, _, rfl, b1, by omega, fun v μ2 v0 v1 o2 b2 => ?_⟩
    show gAdd (.int 1) (.int v) μ2 _
    rw [gAdd_ii]
    refine ⟨by rw [hsl]; show 3 ≤ _; decide, ?_⟩
    refine sl_lst (xs := T.map tieD) rfl ?_
    rw [cut_fst]
    refine ⟨by rw [hsl]; show 1 ≤ _; decide, ?_⟩
    refine gAdd_ll (by rw [List.length_take, List.length_map, hsl]; simp; omega) ?_
    refine sl_lst (xs := T.map tieD) rfl ?_
    rw [cut_snd]
    refine gAdd_ll (by rw [List.length_append, List.length_take, List.length_drop, List.length_map, hsl]; simp; omega) ?_
    rw [List.length_map]
    have eT : (T.map tieD).take (min at_ T.length) ++ [D.tup [.str e1, .str e2, .int (1 + v)]] ++ (T.map tieD).drop (min at_ T.length) = (T.take (min at_ T.length) ++ [(e1, e2, 1 + v)] ++ T.drop (min at_ T.length)).map tieD := by
      rw [List.map_append, List.map_append, List.map_take, List.map_drop]
      rfl
    rw [eT]
    generalize hT' : T.take (min at_ T.length) ++ [(e1, e2, 1 + v)] ++ T.drop (min at_ T.length) = T'
    have tm : ∀ t ∈ T', t ∈ T ∨ t = (e1, e2, 1 + v) := fun t ht => by
      rw [← hT'] at ht
      rcases List.mem_append.mp ht with ht | ht
      · rcases List.mem_append.mp ht with ht | ht
        · exact .inl (List.mem_of_mem_take ht)
        · exact .inr (List.mem_singleton.mp ht)
      · exact .inl (List.mem_of_mem_drop ht)
    have tl2 : T'.length = T.length + 1 := by
      rw [← hT', List.length_append, List.length_append, List.length_take, List.length_drop]
      simp
      omega
    have ok' : PlOk marks T' C := by
      refine ⟨ok.e, ⟨by omega, fun t ht => ?_, fun t ht => ?_, fun t ht => ?_⟩, ok.l, ring_sub9 ok.r fun t ht h0 => ?_⟩
      · rcases tm t ht with h | rfl
        · exact ok.t.a t h
        · exact he1
      · rcases tm t ht with h | rfl
        · exact ok.t.b t h
        · exact he2
      · rcases tm t ht with h | rfl
        · exact ok.t.c t h
        · show 0 ≤ 1 + v; omega
      · rcases tm t ht with h | rfl
        · exact h
        · have h0 : 1 + v = 0 := h0
          omega
    refine near3 (T := T') ok' b2 (by omega) fun C' μ3 y12 ok3 o3 b3 => go T' C' μ3 _ y12 ok3 (by omega) ((o1.trans o2).trans o3) (b3.mono (by omega))
  · simp only [h23, decide_false, Bool.false_eq_true, if_false]
    exact near3 ok B (by omega) fun C' μ3 y12 ok3 o3 b3 => go T C' μ3 _ y12 ok3 (by omega) o3 (b3.mono (by omega))
end
theorem pure__law_near (ds : List D) (μ : Mu) (R : DK) (hl : ds.length = 2) (h : sp__law_near ds μ R) : t__law_near (endsOf R) (start3 ["_law_box_here", "_law_model_here", "_law_marks", "_law_cords", "_law_caps", "_law_turn", "_law_way", "_law_at", "_law_one", "_law_other", "_law_lag_here", "_law_tie", "_law_event"] ds) μ := by
  obtain ⟨b, n, marks, T0, C0, rfl, B0, hn, ok0, tl0, h⟩ := h
  have hsl : sizeLine = 16777216 := by decide
  have bm : bigB = 1000000000 := rfl
  generalize hM : mdD marks T0 C0 = M
  show t__law_near (endsOf R) [some (.ref b), some M, none, none, none, none, none, none, none, none, none, none, none] μ
  unfold t__law_near
  rw [← hM]
  walk_at "l3"
  show t__law_near_1 (endsOf R) [some (.ref b), some (mdD marks T0 C0), some (.lst (sds marks)), some (.lst (T0.map tieD)), some (.dct (limK C0)), none, none, none, none, none, none, none, none] μ
  rw [hM]
  unfold t__law_near_1
  show sFor _ (gN 5) (sSeq _ (sSeq _ (sSeq _ nB2))) _ _ _
  walk_at "l3"
  refine ⟨rfl, b, 3, _, rfl, B0, by omega, by decide, by decide, fun r μ1 r0 r1 o1 b1 => ?_⟩
  walk_at "l3"
  refine ⟨by omega, by omega, ?_⟩
  refine for_rg (fun k δ μ' => ∃ T C y5 y6 y7 y8 y9 y10 y11 y12, PlOk marks T C ∧ T.length ≤ 50 + k ∧ Onl b μ μ' ∧ Box μ' b (n + 1 + 20 * k) ∧ δ = [some (.ref b), some M, some (.lst (sds marks)), some (.lst (T.map tieD)), some (.dct (limK C)), y5, y6, y7, y8, y9, y10, y11, y12]) ⟨T0, C0, none, none, none, none, none, none, none, none, ok0, tl0, o1, b1, rfl⟩ ?_ ?_
  · rintro δ μ2 ⟨T, C, y5, y6, y7, y8, y9, y10, y11, y12, ok, tl, o2, b2, rfl⟩
    unfold t__law_near_2
    walk_at "l3"
    exact ⟨by rw [hsl]; show 3 ≤ _; decide, fin_now (h T C μ2 ok o2 (b2.mono (by omega)))⟩
  · rintro k δ μ2 hk ⟨T, C, y5, y6, y7, y8, y9, y10, y11, y12, ok, tl, o2, b2, rfl⟩ N hN
    have hk3 : k < 3 := by omega
    have m8 := ok.e.le
    walk_at "l3"
    refine ⟨rfl, b, 6, _, rfl, b2, by omega, by decide, by decide, fun way μ3 w0 w1 o3 b3 => ?_⟩
    refine gLen_of (xs := T.map tieD) rfl ?_
    rw [List.length_map]
    walk_at "l3"
    refine ⟨rfl, b, (T.length : Nat) + 1, _, rfl, b3, by omega, by omega, by omega, fun a μ4 a0 a1 o4 b4 => ?_⟩
    obtain ⟨at_, rfl⟩ : ∃ j : Nat, a = (j : Int) := ⟨a.toNat, by omega⟩
    have rest : ∀ (T' : List Tie) (μ' : Mu) (y8 y9 y10 : Option D), PlOk marks T' C → T'.length ≤ T.length → Onl b μ μ' → Box μ' b (n + 1 + 20 * k + 3) → nB2 { endsOf R with nx := N, ct := N, bk := (t__law_near_2 (endsOf R)) } [some (.ref b), some M, some (.lst (sds marks)), some (.lst (T'.map tieD)), some (.dct (limK C)), some (.int (0 + (k : Nat))), some (.int way), some (.int (at_ : Nat)), y8, y9, y10, y11, y12] μ' := fun T' μ' y8 y9 y10 ok' tl' o' b' =>
      near2 ok' (by omega) w0 w1 b' (by omega) fun T2 C2 μ5 y11 y12 ok2 tl2 o5 b5 => hN _ _ ⟨T2, C2, _, _, _, _, _, _, _, _, ok2, by omega, o'.trans o5, b5.mono (by omega), rfl⟩
    have oo := (o2.trans o3).trans o4
    by_cases hw : way < 2
    · simp only [hw, decide_true, if_true]
      refine gLen_of (xs := T.map tieD) rfl ?_
      rw [List.length_map]
      by_cases ha : ((at_ : Nat) : Int) < (T.length : Nat)
      · walk_at "l3"
        simp only [ha, decide_true, if_true]
        obtain ⟨d, hd, ed, _⟩ := pick (xs := T.map tieD) (r := (at_ : Nat)) (by omega) (by rw [List.length_map]; exact ha)
        obtain ⟨t, ht, rfl⟩ := List.mem_map.mp hd
        refine at_l ed ?_
        simp only [tieD]
        walk_at "l3"
        refine sl_lst (xs := T.map tieD) rfl ?_
        rw [cut_fst]
        have hw2 : way = 0 ∨ way = 1 := by omega
        refine ⟨by rw [hsl]; show 2 ≤ _; decide, ?_⟩
        have pickw : ∀ {K : D → Mu → Prop}, (∀ v : Int, 1 ≤ v → K (.int v) μ4) → gAt (D.lst [.int (t.2.2 + 1), .int (max 1 (t.2.2 - 1))]) (.int way) μ4 K := fun {K} k => by
          have := ok.t.c t ht
          rcases hw2 with rfl | rfl
          · exact at_l (xs := [.int (t.2.2 + 1), .int (max 1 (t.2.2 - 1))]) (d := .int (t.2.2 + 1)) rfl (k _ (by omega))
          · exact at_l (xs := [.int (t.2.2 + 1), .int (max 1 (t.2.2 - 1))]) (d := .int (max 1 (t.2.2 - 1))) rfl (k _ (by omega))
        refine pickw fun v v1 => ?_
        refine ⟨by rw [hsl]; show 3 ≤ _; decide, by rw [hsl]; show 1 ≤ _; decide, ?_⟩
        refine ⟨rfl, b, 2, _, rfl, b4, by omega, by decide, by decide, fun r2 μ5 r20 r21 o5 b5 => ?_⟩
        have hr2 : r2 = 0 ∨ r2 = 1 := by omega
        have rep : ∀ {K : D → Mu → Prop}, (∀ X : List Tie, (X = [] ∨ X = [(t.1, t.2.1, v)]) → K (.lst (X.map tieD)) μ5) → gRep false (D.lst [D.tup [.str t.1, .str t.2.1, .int v]]) (.int r2) μ5 K := fun {K} k => by
          rcases hr2 with rfl | rfl
          · exact ⟨[D.tup [.str t.1, .str t.2.1, .int v]], 0, rfl, rfl, by decide, by decide, by rw [hsl]; show 1 * 0 ≤ 16777216; decide, k [] (.inl rfl)⟩
          · exact ⟨[D.tup [.str t.1, .str t.2.1, .int v]], 1, rfl, rfl, by decide, by decide, by rw [hsl]; show 1 * 1 ≤ 16777216; decide, k [(t.1, t.2.1, v)] (.inr rfl)⟩
        refine rep fun X hX => ?_
        have xl : X.length ≤ 1 := by
          rcases hX with rfl | rfl
          · exact Nat.zero_le _
          · exact Nat.le_refl _
        refine gAdd_ll (by rw [List.length_take, List.length_map, List.length_map, hsl]; omega) ?_
        refine sl_lst (xs := T.map tieD) rfl ?_
        rw [show ((at_ : Nat) : Int) + 1 = ((at_ + 1 : Nat) : Int) by omega, cut_snd]
        refine gAdd_ll (by rw [List.length_append, List.length_take, List.length_drop, List.length_map, List.length_map, hsl]; omega) ?_
        rw [List.length_map]
        have eT : (T.map tieD).take (min at_ T.length) ++ X.map tieD ++ (T.map tieD).drop (min (at_ + 1) T.length) = (T.take (min at_ T.length) ++ X ++ T.drop (min (at_ + 1) T.length)).map tieD := by
          rw [List.map_append, List.map_append, List.map_take, List.map_drop]
        rw [eT]
        generalize hT' : T.take (min at_ T.length) ++ X ++ T.drop (min (at_ + 1) T.length) = T'
        have tm : ∀ z ∈ T', z ∈ T ∨ z = (t.1, t.2.1, v) := fun z hz => by
          rw [← hT'] at hz
          rcases List.mem_append.mp hz with hz | hz
          · rcases List.mem_append.mp hz with hz | hz
            · exact .inl (List.mem_of_mem_take hz)
            · rcases hX with rfl | rfl
              · cases hz
              · exact .inr (List.mem_singleton.mp hz)
          · exact .inl (List.mem_of_mem_drop hz)
        have tl2 : T'.length ≤ T.length := by
          rw [← hT', List.length_append, List.length_append, List.length_take, List.length_drop]
          omega
        have ok' : PlOk marks T' C := by
          refine ⟨ok.e, ⟨by omega, fun z hz => ?_, fun z hz => ?_, fun z hz => ?_⟩, ok.l, ring_sub9 ok.r fun z hz h0 => ?_⟩
          · rcases tm z hz with h | rfl
            · exact ok.t.a z h
            · exact ok.t.a t ht
          · rcases tm z hz with h | rfl
            · exact ok.t.b z h
            · exact ok.t.b t ht
          · rcases tm z hz with h | rfl
            · exact ok.t.c z h
            · show 0 ≤ v; omega
          · rcases tm z hz with h | rfl
            · exact h
            · have h0 : v = 0 := h0
              omega
        exact rest T' μ5 _ _ _ ok' tl2 (oo.trans o5) (b5.mono (by omega))
      · walk_at "l3"
        simp only [ha, decide_false, Bool.false_eq_true, if_false]
        exact rest T μ4 _ _ _ ok (Nat.le_refl _) oo (b4.mono (by omega))
    · simp only [hw, decide_false, Bool.false_eq_true, if_false]
      exact rest T μ4 _ _ _ ok (Nat.le_refl _) oo (b4.mono (by omega))
end C1
namespace C1
open PySem PySem.Spec L2 L3 C2
local macro_rules | `(tactic| walk_at "l3") => `(tactic| simp only [sSeq, sNext, sIf, sRet, sRetN, sSet, sDrop, sSub, sFor, sAsg, sPar2, sPar3, sCont, sFld3, sFld2, sAug, vVar, vC, vNil, vCons, vOp, vB, vChain, vAnd, vOr, vNot, vAndV, vOrV, vNotV, vIf, vUn, vCB, vLst, vTup, vLstT, vCall, vCal, vMak, vMetA, vFld, vSl, vPart, vNoP, vLc, vLcT, vDc, vBM, vBM0, vGet1, vGet2, vItems, vRev, vLRg, vStar, vDZip, iRg1, iRg2, iRgD, iAny, iEnm, iItm, iVal, vDict0, vDict0T, vDict0N, vDisp, vDispT, vPairs,
  List.getElem?_cons_zero, List.getElem?_cons_succ, List.set_cons_zero, List.set_cons_succ, wipe3, endsOf_rt, endsOf_nx, gLt, gLe, gGt, gGe, L3.gSub, gMul, gMod, gDiv, gPow, g2I, g2I0, gN, gT, gGo, Option.bind_some, gAdd_ii, gAdd_ss, gNeg_i, gMax2_ii, gMin2_ii, gLen_s, gEqS_ii, gEqS_ss, gEqS_bb, gNeS_ii, gNeS_ss, gIsN_n, gNotN_n, gSl_s, isNonD, if_true, if_false, Bool.false_eq_true, Bool.not_true, Bool.not_false])
section
variable {marks : List Str} {t1 t2 : List Tie} {c1 c2 : Lims} {μ : Mu} {R : DK}
theorem WiD.le {μ' : Mu} {d : D} (l : Le μ μ') (h : WiD marks t1 c1 t2 c2 μ d) : WiD marks t1 c1 t2 c2 μ' d := h.imp id fun ⟨a, p, e, ea, x⟩ => ⟨a, p, e, l _ _ ea, x⟩
theorem AlD.le {μ' : Mu} {d : D} (l : Le μ μ') (h : AlD marks t1 c1 t2 c2 μ d) : AlD marks t1 c1 t2 c2 μ' d := h.imp id fun h => h.imp (fun ⟨a, p, e, ea, x⟩ => ⟨a, p, e, l _ _ ea, x⟩) fun ⟨a, p, e, ea, x⟩ => ⟨a, p, e, l _ _ ea, x⟩
theorem wi_go (pr : Pr2 marks t1 c1 t2 c2) (h : ∀ d μ', Le μ μ' → WiD marks t1 c1 t2 c2 μ' d → (∀ a, d = .ref a → μ a = none) → R d μ') : spk_within [planD marks t1 (limsOf marks c1), planD marks t2 (limsOf marks c2)] μ R :=
  ⟨marks, t1, c1, t2, c2, rfl, pr, fun e => h _ _ (Le.refl μ) (.inl ⟨rfl, (br_nil pr).mp e⟩) (fun a e => by cases e), fun p hp hle q hq => h _ _ (Le.mset_new hq) (.inr ⟨q, p, rfl, mset_same, (br_iff pr).mp hp, fun p' hp' => hle p' ((br_iff pr).mpr hp')⟩) (fun a e => by cases e; exact hq)⟩
theorem al_go (pr : Pr2 marks t1 c1 t2 c2) (h : ∀ d μ', Le μ μ' → AlD marks t1 c1 t2 c2 μ' d → (∀ a i, d = .tup [.ref a, .int i] → μ a = none) → R d μ') : spk_alike [planD marks t1 (limsOf marks c1), planD marks t2 (limsOf marks c2)] μ R := by
  refine ⟨marks, t1, c1, t2, c2, rfl, pr, fun e1 e2 => h _ _ (Le.refl μ) (.inl ⟨rfl, (br_nil pr).mp e1, (br_nil pr.swap).mp e2⟩) (fun a i e => by cases e), fun p hp hle hle2 q hq => ?_, fun p hp hle hle2 q hq => ?_⟩
  · refine h _ _ (Le.mset_new hq) (.inr (.inl ⟨q, p, rfl, mset_same, (br_iff pr).mp hp, fun m hm => ?_⟩)) (fun a i e => by cases e; exact hq)
    rcases List.mem_append.mp hm with hm | hm
    · obtain ⟨p', hp', rfl⟩ := List.mem_map.mp hm
      exact hle p' ((br_iff pr).mpr hp')
    · obtain ⟨p', hp', rfl⟩ := List.mem_map.mp hm
      exact hle2 p' ((br_iff pr.swap).mpr hp')
  · refine h _ _ (Le.mset_new hq) (.inr (.inr ⟨q, p, rfl, mset_same, (br_iff pr.swap).mp hp, fun m hm => ?_⟩)) (fun a i e => by cases e; exact hq)
    rcases List.mem_append.mp hm with hm | hm
    · obtain ⟨p', hp', rfl⟩ := List.mem_map.mp hm
      exact hle2 p' ((br_iff pr).mpr hp')
    · obtain ⟨p', hp', rfl⟩ := List.mem_map.mp hm
      exact hle p' ((br_iff pr.swap).mpr hp')
theorem br_self (ok : PlOk marks t1 c1) : brQ marks t1 c1 t1 c1 = [] := List.eq_nil_iff_forall_not_mem.mpr fun p hp => by
  obtain ⟨_, _, h1, h2⟩ := br_ok ⟨ok, ok⟩ hp
  exact h2 h1
end
def itF : Option Addr → D
  | none => .non
  | some a => .ref a
def itP : Option (Addr × Int) → D
  | none => .non
  | some (a, i) => .tup [.ref a, .int i]
def sp__law_right : Sp3 := fun ds μ R => ∃ marks t1 c1 t2 c2, ds = [mdD marks t1 c1, mdD marks t2 c2] ∧ Pr2 marks t1 c1 t2 c2 ∧ R (.bl true) μ
def t__law_right_2 : TS3 := (sRet (vAndV (vOp gIsN (vCall 2 spk_alike (vCons (vVar 2) (vCons (vVar 2) vNil))) (vC .non)) (vOp gIsN (vCall 2 spk_within (vCons (vVar 2) (vCons (vVar 2) vNil))) (vC .non))))
def t__law_right_1 : TS3 := sSeq (sFor (iRg1 (vCons (vC (.int 2)) vNil)) (gN 4) (sSeq (sSet 5 (vLst (vCons (vCall 2 spk_within (vCons (vVar 2) (vCons (vVar 3) vNil))) (vCons (vCall 2 spk_within (vCons (vVar 3) (vCons (vVar 2) vNil))) vNil)))) (sSeq (sSet 6 (vLst (vCons (vCall 2 spk_alike (vCons (vVar 2) (vCons (vVar 3) vNil))) (vCons (vCall 2 spk_alike (vCons (vVar 3) (vCons (vVar 2) vNil))) vNil)))) (sSeq (sIf (vOr (vNot (vB (vCall 3 sp__law_within_right (vCons (vVar 0) (vCons (vVar 1) (vCons (vOp gAt (vVar 5) (vC (.int 0))) vNil)))))) (vNot (vB (vCall 3 sp__law_within_right (vCons (vVar 1) (vCons (vVar 0) (vCons (vOp gAt (vVar 5) (vC (.int 1))) vNil))))))) (sRet (vC (.bl false))) sNext) (sSeq (sIf (vOr (vNot (vB (vCall 3 sp__law_alike_right (vCons (vVar 0) (vCons (vVar 1) (vCons (vOp gAt (vVar 6) (vC (.int 0))) vNil)))))) (vNot (vB (vCall 3 sp__law_alike_right (vCons (vVar 1) (vCons (vVar 0) (vCons (vOp gAt (vVar 6) (vC (.int 1))) vNil))))))) (sRet (vC (.bl false))) sNext) (sFor (iAny (vOp gAdd (vVar 5) (vLc (iAny (vVar 6)) (gN 8) (vB (vOp gNotN (vVar 8) (vC .non))) (vOp gAt (vVar 8) (vC (.int 0))) [8]))) (gN 7) (sIf (vB (vOp gNotN (vVar 7) (vC .non))) (sDrop (vBM0 "dict" gDClear (vVar 7))) sNext))))))) t__law_right_2
def t__law_right : TS3 := sSeq (sPar2 2 3 (vCons (vCall 1 sp__law_plan (vCons (vVar 0) vNil)) (vCons (vCall 1 sp__law_plan (vCons (vVar 1) vNil)) vNil))) t__law_right_1
theorem pure__law_right (ds : List D) (μ : Mu) (R : DK) (hl : ds.length = 2) (h : sp__law_right ds μ R) : t__law_right (endsOf R) (start3 ["_law_one", "_law_other", "_law_first", "_law_second", "_law_turn", "_law_found", "_law_pairs", "_law_counts", "_law_pair"] ds) μ := by
  obtain ⟨marks, t1, c1, t2, c2, rfl, pr, h⟩ := h
  have hsl : sizeLine = 16777216 := by decide
  generalize hM1 : mdD marks t1 c1 = M1
  generalize hM2 : mdD marks t2 c2 = M2
  show t__law_right (endsOf R) [some M1, some M2, none, none, none, none, none, none, none] μ
  unfold t__law_right
  walk_at "l3"
  rw [← hM1, ← hM2]
  refine ⟨rfl, mdD marks t1 c1, marks, _, t1, c1, rfl, rfl, rfl, pr.a, rfl, mdD marks t2 c2, marks, _, t2, c2, rfl, rfl, rfl, pr.b, ?_⟩
  rw [hM1, hM2]
  generalize hP1 : planD marks t1 (limsOf marks c1) = P1
  generalize hP2 : planD marks t2 (limsOf marks c2) = P2
  unfold t__law_right_1
  walk_at "l3"
  refine ⟨by decide, by decide, ?_⟩
  refine for_rg (fun k δ μ' => Le μ μ' ∧ ∃ y4 y5 y6 y7, δ = [some M1, some M2, some P1, some P2, y4, y5, y6, y7, none]) ⟨Le.refl μ, none, none, none, none, rfl⟩ ?_ ?_
  · rintro δ μ1 ⟨le, y4, y5, y6, y7, rfl⟩
    unfold t__law_right_2
    walk_at "l3"
    rw [← hP1]
    refine ⟨rfl, al_go ⟨pr.a, pr.a⟩ fun d μ2 l2 ad _ => ?_⟩
    have e0 := br_self pr.a
    rcases ad with ⟨rfl, _⟩ | ⟨a, p, _, _, hp, _⟩ | ⟨a, p, _, _, hp, _⟩
    · simp only [gIsN, isNonD, if_true]
      refine ⟨rfl, wi_go ⟨pr.a, pr.a⟩ fun d μ3 l3 wd _ => ?_⟩
      rcases wd with ⟨rfl, _⟩ | ⟨a, p, _, _, hp, _⟩
      · exact fin_same ((le.trans l2).trans l3) h
      · rw [e0] at hp; cases hp
    · rw [e0] at hp; cases hp
    · rw [e0] at hp; cases hp
  · rintro k δ μ1 hk ⟨le, y4, y5, y6, y7, rfl⟩ N hN
    walk_at "l3"
    rw [← hP1, ← hP2]
    refine ⟨rfl, wi_go pr fun d1 μ2 l2 w1 n1 => ⟨rfl, wi_go pr.swap fun d2 μ3 l3 w2 n2 => ⟨by rw [hsl]; show 2 ≤ _; decide, ?_⟩⟩⟩
    refine ⟨rfl, al_go pr fun d3 μ4 l4 a1 n3 => ⟨rfl, al_go pr.swap fun d4 μ5 l5 a2 n4 => ⟨by rw [hsl]; show 2 ≤ _; decide, ?_⟩⟩⟩
    rw [hP1, hP2]
    have w1' := w1.le ((l3.trans l4).trans l5)
    have w2' := w2.le (l4.trans l5)
    have a1' := a1.le l5
    refine at_l (xs := [d1, d2]) (d := d1) rfl ?_
    rw [← hM1, ← hM2]
    refine ⟨rfl, marks, t1, c1, t2, c2, d1, rfl, pr, w1', ?_⟩
    simp only [Bool.not_true, Bool.false_eq_true, if_false]
    refine at_l (xs := [d1, d2]) (d := d2) rfl ⟨rfl, marks, t2, c2, t1, c1, d2, rfl, pr.swap, w2', ?_⟩
    simp only [Bool.not_true, Bool.false_eq_true, if_false]
    refine at_l (xs := [d3, d4]) (d := d3) rfl ⟨rfl, marks, t1, c1, t2, c2, d3, rfl, pr, a1', ?_⟩
    simp only [Bool.not_true, Bool.false_eq_true, if_false]
    refine at_l (xs := [d3, d4]) (d := d4) rfl ⟨rfl, marks, t2, c2, t1, c1, d4, rfl, pr.swap, a2, ?_⟩
    simp only [Bool.not_true, Bool.false_eq_true, if_false]
    rw [hM1, hM2]
    have none_up : ∀ {μ' : Mu} {a : Addr}, Le μ μ' → μ' a = none → μ a = none := fun {μ' a} l e => by
      cases z : μ a with
      | none => rfl
      | some o => rw [l a o z] at e; cases e
    have fw : ∀ {ta tb : List Tie} {ca cb : Lims} {d : D} {μ' : Mu}, WiD marks ta ca tb cb μ5 d → Le μ μ' → (∀ a, d = .ref a → μ' a = none) → ∃ o, d = itF o ∧ ∀ a, o = some a → μ a = none ∧ ∃ kvs, μ5 a = some (.dct kvs) := fun {ta tb ca cb d μ'} w l n => by
      rcases w with ⟨rfl, _⟩ | ⟨a, p, rfl, ea, _⟩
      · exact ⟨none, rfl, fun a e => by cases e⟩
      · exact ⟨some a, rfl, fun b e => by cases e; exact ⟨none_up l (n a rfl), _, ea⟩⟩
    have fp : ∀ {ta tb : List Tie} {ca cb : Lims} {d : D} {μ' : Mu}, AlD marks ta ca tb cb μ5 d → Le μ μ' → (∀ a i, d = .tup [.ref a, .int i] → μ' a = none) → ∃ o, d = itP o ∧ ∀ a i, o = some (a, i) → μ a = none ∧ ∃ kvs, μ5 a = some (.dct kvs) := fun {ta tb ca cb d μ'} w l n => by
      rcases w with ⟨rfl, _⟩ | ⟨a, p, rfl, ea, _⟩ | ⟨a, p, rfl, ea, _⟩
      · exact ⟨none, rfl, fun a i e => by cases e⟩
      · exact ⟨some (a, 0), rfl, fun b i e => by cases e; exact ⟨none_up l (n a 0 rfl), _, ea⟩⟩
      · exact ⟨some (a, 1), rfl, fun b i e => by cases e; exact ⟨none_up l (n a 1 rfl), _, ea⟩⟩
    obtain ⟨o1, rfl, f1⟩ := fw w1' le n1
    obtain ⟨o2, rfl, f2⟩ := fw w2' (le.trans l2) n2
    obtain ⟨o3, rfl, f3⟩ := fp a1' ((le.trans l2).trans l3) n3
    obtain ⟨o4, rfl, f4⟩ := fp a2 (((le.trans l2).trans l3).trans l4) n4
    have le5 := (((le.trans l2).trans l3).trans l4).trans l5
    refine any_lst (xs := [o3, o4].map itP) rfl fun Pm hPm => ?_
    refine lcg_filter (fun o : Option (Addr × Int) => o.isSome) itP (fun o => itF (o.map (·.1))) (hPm _ rfl) [o3, o4] [] (fun o ho => ⟨_, rfl, fun R' k2 => ?_, fun hs R' k2 => ?_⟩) (by rw [hsl]; show 0 + 2 ≤ _; decide) ?_
    · walk_at "l3"
      cases o with
      | none => exact k2
      | some x => exact k2
    · walk_at "l3"
      cases o with
      | none => cases hs
      | some x => exact at_t (d := .ref x.1) rfl k2
    rw [List.nil_append]
    generalize hos : ([o3, o4].filter fun o => o.isSome) = os
    have osm : ∀ o ∈ os, o = o3 ∨ o = o4 := fun o ho => by
      rw [← hos] at ho
      have := (List.mem_filter.mp ho).1
      simpa using this
    have osl : os.length ≤ 2 := by
      rw [← hos]
      exact List.length_filter_le _ _
    refine gAdd_ll (by rw [List.length_map, hsl]; simp; omega) ?_
    have el : [itF o1, itF o2] ++ os.map (fun o => itF (o.map (·.1))) = ([o1, o2] ++ os.map fun o => o.map (·.1)).map itF := by
      rw [List.map_append, List.map_map]
      rfl
    rw [el]
    generalize hL : [o1, o2] ++ (os.map fun o => o.map (·.1)) = L
    have Lm : ∀ a, some a ∈ L → μ a = none ∧ ∃ kvs, μ5 a = some (.dct kvs) := fun a ha => by
      rw [← hL] at ha
      rcases List.mem_append.mp ha with ha | ha
      · rcases List.mem_cons.mp ha with ha | ha
        · exact f1 a ha.symm
        · exact f2 a (List.mem_singleton.mp ha).symm
      · obtain ⟨o, ho, e⟩ := List.mem_map.mp ha
        obtain ⟨x, rfl, rfl⟩ := Option.map_eq_some_iff.mp e
        rcases osm _ ho with z | z
        · exact f3 x.1 x.2 z.symm
        · exact f4 x.1 x.2 z.symm
    refine any_lst (xs := L.map itF) rfl fun Pm2 hPm2 => ?_
    refine for_ix (L.map itF) (fun j δ μ' => Le μ μ' ∧ (∀ a, some a ∈ L → ∃ kvs, μ' a = some (.dct kvs)) ∧ ∃ z4 z5 z6 z7, δ = [some M1, some M2, some P1, some P2, z4, z5, z6, z7, none]) ⟨le5, fun a ha => (Lm a ha).2, _, _, _, _, rfl⟩ ?_ ?_
    · rintro δ μ6 ⟨l6, _, z4, z5, z6, z7, rfl⟩
      exact ⟨hPm2 _ rfl, hN _ _ ⟨l6, _, _, _, _, rfl⟩⟩
    · rintro j d δ μ6 hd ⟨l6, hk6, z4, z5, z6, z7, rfl⟩
      obtain ⟨o, ho, rfl⟩ := List.mem_map.mp (List.mem_of_getElem? hd)
      refine ⟨hPm2 _ rfl, _, rfl, fun N2 hN2 => ?_⟩
      walk_at "l3"
      cases o with
      | none =>
        simp only [itF, Bool.not_true, Bool.false_eq_true, if_false, if_true]
        exact hN2 _ _ ⟨l6, hk6, _, _, _, _, rfl⟩
      | some a =>
        obtain ⟨kvs, ea⟩ := hk6 a ho
        have na := (Lm a ho).1
        simp only [itF, Bool.not_false, if_true]
        refine ⟨.inr ⟨rfl, _, ea⟩, a, _, rfl, rfl, ea, ?_⟩
        refine hN2 _ _ ⟨l6.mset na, fun b hb => ?_, _, _, _, _, rfl⟩
        by_cases z : b = a
        · subst z; exact ⟨[], mset_same⟩
        · rw [mset_ne z]; exact hk6 b hb
end C1
namespace C1
open PySem PySem.Spec L2 L3 C2
local macro_rules | `(tactic| walk_at "l3") => `(tactic| simp only [sSeq, sNext, sIf, sRet, sRetN, sSet, sDrop, sSub, sFor, sAsg, sPar2, sPar3, sCont, sFld3, sFld2, sAug, vVar, vC, vNil, vCons, vOp, vB, vChain, vAnd, vOr, vNot, vAndV, vOrV, vNotV, vIf, vUn, vCB, vLst, vTup, vLstT, vCall, vCal, vMak, vMetA, vFld, vSl, vPart, vNoP, vLc, vLcT, vDc, vBM, vBM0, vGet1, vGet2, vItems, vRev, vLRg, vStar, vDZip, iRg1, iRg2, iRgD, iAny, iEnm, iItm, iVal, vDict0, vDict0T, vDict0N, vDisp, vDispT, vPairs,
  List.getElem?_cons_zero, List.getElem?_cons_succ, List.set_cons_zero, List.set_cons_succ, wipe3, endsOf_rt, endsOf_nx, gLt, gLe, gGt, gGe, L3.gSub, gMul, gMod, gDiv, gPow, g2I, g2I0, gN, gT, gGo, Option.bind_some, gAdd_ii, gAdd_ss, gNeg_i, gMax2_ii, gMin2_ii, gLen_s, gEqS_ii, gEqS_ss, gEqS_bb, gNeS_ii, gNeS_ss, gIsN_n, gNotN_n, gSl_s, isNonD, if_true, if_false, Bool.false_eq_true, Bool.not_true, Bool.not_false])
local macro_rules | `(tactic| walk_at "s9") => `(tactic| simp only [vSumV, vStep2, vValL])
section
variable {marks : List Str} {t1 t2 : List Tie} {c1 c2 : Lims}
theorem row_breaks {c : Str → Int} (pr : Pr2 marks t1 c1 t2 c2) (m : Mom marks t1 c1 c) {t : Tie} (ht : t ∈ rowsC t2 c2) (h : lawC c t.1 + t.2.2 < c t.2.1) : ∃ p ∈ brQ marks t1 c1 t2 c2, ∀ o ∈ marks, leP marks t1 c1 p o ≤ c o := by
  obtain ⟨ta, tb, tc⟩ := rows_ok pr.b ht
  have nn : ∀ x ∈ marks, lawC c x = c x := fun x hx => if_neg (name_ne (pr.a.e.nm x hx))
  have c0 : 0 ≤ lawC c t.1 := by
    rcases List.mem_cons.mp ta with e | e
    · rw [e, show lawC c "" = 0 from if_pos rfl]; exact Int.le_refl _
    · rw [nn _ e]; exact m.p _ e
  refine ⟨(t.2.1, t.2.2 + 1), br_mem.mpr ⟨t, ht, ?_, rfl⟩, fun o ho => least_le pr.a m tb ho (by show t.2.2 + 1 ≤ c t.2.1; omega)⟩
  cases hF : farL marks t1 c1 t.1 t.2.1 with
  | none => rfl
  | some v =>
    obtain ⟨j, wk⟩ := (law_isD pr.a t.1 t.2.1).sound v hF
    have := mom_walk pr.a m wk
    rw [nn _ tb] at this
    exact decide_eq_true (by omega)
theorem mom_breaks {c : Str → Int} (pr : Pr2 marks t1 c1 t2 c2) (m : Mom marks t1 c1 c) (n : ¬ Mom marks t2 c2 c) : ∃ p ∈ brQ marks t1 c1 t2 c2, ∀ o ∈ marks, leP marks t1 c1 p o ≤ c o := by
  have nn : ∀ x ∈ marks, lawC c x = c x := fun x hx => if_neg (name_ne (pr.a.e.nm x hx))
  by_cases ht : ∀ t ∈ t2, c t.2.1 ≤ c t.1 + t.2.2
  · by_cases hq : ∀ q ∈ c2, c q.1 ≤ q.2
    · exact absurd ⟨m.p, ht, hq⟩ n
    · obtain ⟨q, hq⟩ := Classical.not_forall.mp hq
      obtain ⟨hq, hl⟩ := Classical.not_imp.mp hq
      refine row_breaks pr m (t := (("" : Str), q.1, q.2)) (rows_mem.mpr (.inr ⟨q, hq, rfl⟩)) ?_
      show lawC c "" + q.2 < c q.1
      rw [show lawC c "" = 0 from if_pos rfl]
      omega
  · obtain ⟨t, ht⟩ := Classical.not_forall.mp ht
    obtain ⟨ht, hl⟩ := Classical.not_imp.mp ht
    refine row_breaks pr m (t := t) (rows_mem.mpr (.inl ht)) ?_
    rw [nn _ (pr.b.t.a t ht)]
    omega
theorem sum_le9 {f g : Str → Int} : ∀ {l : List Str}, (∀ o ∈ l, f o ≤ g o) → (l.map f).sum ≤ (l.map g).sum
  | [], _ => Int.le_refl _
  | a :: r, h => by
    have h1 := sum_le9 (l := r) fun o ho => h o (List.mem_cons_of_mem _ ho)
    have h2 := h a List.mem_cons_self
    simp only [List.map_cons, List.sum_cons]
    omega
theorem mom_same {f g : Str → Int} (ok : PlOk marks t2 c2) (e : ∀ o ∈ marks, f o = g o) (m : Mom marks t2 c2 f) : Mom marks t2 c2 g := by
  refine ⟨fun o ho => ?_, fun t ht => ?_, fun q hq => ?_⟩
  · rw [← e o ho]; exact m.p o ho
  · rw [← e _ (ok.t.a t ht), ← e _ (ok.t.b t ht)]; exact m.t t ht
  · rw [← e _ (ok.l.a q hq)]; exact m.l q hq
def agK (marks : List Str) (g : Str → Int) (ks : List (Key × D)) : Bool := marks.all fun e => match valD ks (.inr e) with
  | some (.int i) => i == g e
  | _ => false
theorem agK_ct {g c : Str → Int} : agK marks g (ctK marks c) = marks.all fun e => c e == g e := by
  unfold agK
  rw [Bool.eq_iff_iff, List.all_eq_true, List.all_eq_true]
  refine forall_congr' fun e => ⟨fun h he => ?_, fun h he => ?_⟩
  · have := h he
    rw [ctK, val_cnK he] at this
    exact this
  · rw [ctK, val_cnK he]
    exact h he
end
def sp__law_small_right : Sp3 := fun ds μ R => ∃ marks t1 c1 t2 c2, ds = [mdD marks t1 c1, mdD marks t2 c2] ∧ Pr2 marks t1 c1 t2 c2 ∧ marks.length ≤ 3 ∧ (∀ t ∈ t2, t.2.2 ≤ 4) ∧ (∀ q ∈ c2, q.2 ≤ 4) ∧ R (.bl true) μ
def t__law_small_right_3 : TS3 := (sRet (vAndV (vOp gInK (vVar 4) (vVar 2)) (vOp gEqS (vCall 1 sp__law_sum (vCons (vVar 4) vNil)) (vCB gMin1 (vCons (vLc (iAny (vVar 2)) (gN 3) vYes (vCall 1 sp__law_sum (vCons (vVar 3) vNil)) [3]) vNil)))))
def t__law_small_right_2 : TS3 := sSeq (sIf (vOr (vB (vOp gIsN (vVar 4) (vC .non))) (vB (vOp gEqX (vVar 2) (vLst vNil)))) (sRet (vAndV (vOp gIsN (vVar 4) (vC .non)) (vOp gEqX (vVar 2) (vLst vNil)))) sNext) t__law_small_right_3
def t__law_small_right_1 : TS3 := sSeq (sSet 4 (vCall 2 spk_within (vCons (vCall 1 sp__law_plan (vCons (vVar 0) vNil)) (vCons (vCall 1 sp__law_plan (vCons (vVar 1) vNil)) vNil)))) t__law_small_right_2
def t__law_small_right : TS3 := sSeq (sSet 2 (vLc (iAny (vCall 2 sp__law_moments (vCons (vVar 0) (vCons (vC (.int 5)) vNil)))) (gN 3) (vNot (vB (vCall 2 sp__law_is_moment (vCons (vVar 1) (vCons (vVar 3) vNil))))) (vVar 3) [3])) t__law_small_right_1
theorem pure__law_small_right (ds : List D) (μ : Mu) (R : DK) (hl : ds.length = 2) (h : sp__law_small_right ds μ R) : t__law_small_right (endsOf R) (start3 ["_law_one", "_law_other", "_law_first", "_law_counts", "_law_told"] ds) μ := by
  obtain ⟨marks, t1, c1, t2, c2, rfl, pr, l3, st, sc, h⟩ := h
  have hsl : sizeLine = 16777216 := by decide
  generalize hM1 : mdD marks t1 c1 = M1
  generalize hM2 : mdD marks t2 c2 = M2
  show t__law_small_right (endsOf R) [some M1, some M2, none, none, none] μ
  unfold t__law_small_right
  walk_at "l3"
  rw [← hM1]
  refine ⟨rfl, marks, t1, c1, 5, rfl, pr.a, by decide, ?_, by decide, fun ms mm => ?_⟩
  · exact Nat.le_trans (Nat.pow_le_pow_right (n := 6) (by decide) l3) (by decide)
  rw [hM1]
  have ln := mm.n
  refine any_lst (xs := ms.map (mmD marks)) rfl fun Pm hP => ?_
  refine lcg_filter (fun c : Str → Int => !momB marks t2 c2 c) (mmD marks) (mmD marks) (hP _ rfl) ms [] (fun c hc => ⟨_, rfl, fun R' h' => ?_, fun _ R' h' => h'⟩) (by simp; omega) ?_
  · walk_at "l3"
    rw [← hM2]
    exact ⟨rfl, marks, t2, c2, mmD marks c, c, rfl, pr.b, rfl, h'⟩
  rw [List.nil_append]
  generalize hS : (ms.filter fun c : Str → Int => !momB marks t2 c2 c) = S
  have Sin : ∀ c, c ∈ S ↔ c ∈ ms ∧ ¬ Mom marks t2 c2 c := fun c => by
    rw [← hS, List.mem_filter, ← momB_iff, Bool.not_eq_true', Bool.not_eq_true]
  have Sl : S.length ≤ 100000 := by rw [← hS]; exact Nat.le_trans (List.length_filter_le _ _) ln
  have told : ∀ p ∈ brQ marks t1 c1 t2 c2, ∃ c ∈ S, ∀ e ∈ marks, c e = leP marks t1 c1 p e := fun p hp => by
    obtain ⟨b1, b2, b3, b4⟩ := br_ok pr hp
    have p5 : p.2 ≤ 5 := by
      obtain ⟨t, ht, _, rfl⟩ := br_mem.mp hp
      show t.2.2 + 1 ≤ 5
      rcases rows_mem.mp ht with ht | ⟨q, hq, rfl⟩
      · have := st t ht; omega
      · have := sc q hq; show q.2 + 1 ≤ 5; omega
    obtain ⟨c, hc, e⟩ := mm.a _ b3 fun e he => by
      have : leP marks t1 c1 p e ≤ p.2 := (least_bd pr.a b2).2
      omega
    exact ⟨c, (Sin c).mpr ⟨hc, fun m => b4 (mom_same pr.b e m)⟩, e⟩
  have Snil : brQ marks t1 c1 t2 c2 = [] ↔ S = [] := by
    constructor
    · intro e
      refine List.eq_nil_iff_forall_not_mem.mpr fun c hc => ?_
      obtain ⟨h1, h2⟩ := (Sin c).mp hc
      obtain ⟨p, hp, _⟩ := mom_breaks pr (mm.s c h1).1 h2
      rw [e] at hp
      cases hp
    · intro e
      refine List.eq_nil_iff_forall_not_mem.mpr fun p hp => ?_
      obtain ⟨c, hc, _⟩ := told p hp
      rw [e] at hc
      cases hc
  unfold t__law_small_right_1
  walk_at "l3"
  rw [← hM1, ← hM2]
  refine ⟨rfl, mdD marks t1 c1, marks, _, t1, c1, rfl, rfl, rfl, pr.a, rfl, mdD marks t2 c2, marks, _, t2, c2, rfl, rfl, rfl, pr.b, rfl, wi_go pr fun d μ1 l1 wd _ => ?_⟩
  rw [hM1, hM2]
  unfold t__law_small_right_2
  walk_at "l3"
  rcases wd with ⟨rfl, e0⟩ | ⟨a, p, rfl, ea, hp, hle⟩
  · simp only [gIsN, isNonD, if_true]
    refine ⟨Nat.zero_le _, .inr ⟨1, _, by decide, rfl, eqs_nil6 rfl, ?_⟩⟩
    rw [Snil.mp e0]
    exact fin_same l1 h
  · simp only [gIsN, isNonD, Bool.false_eq_true, if_false]
    obtain ⟨c0, hc0, ec0⟩ := told p hp
    refine ⟨Nat.zero_le _, .inr ⟨1, _, by decide, rfl, eqs_nil6 rfl, ?_⟩⟩
    have ne : S.map (mmD marks) ≠ [] := fun z => by
      rw [List.map_eq_nil_iff.mp z] at hc0
      cases hc0
    simp only [ne, decide_false, Bool.false_eq_true, if_false]
    have hda : dctOf μ1 (.ref a) = some (ctK marks (leP marks t1 c1 p)) := by simp only [dctOf, ea, leO9]
    unfold t__law_small_right_3
    walk_at "l3"
    refine ⟨S.map (ctK marks), agK marks (leP marks t1 c1 p), 1, by decide, ?_, fun ks hks => ?_, fun ks hks => ?_, ?_⟩
    · show some _ = some _
      rw [List.map_map]
      rfl
    · obtain ⟨c, hc, rfl⟩ := List.mem_map.mp hks
      intro x hx
      obtain ⟨o, ho, rfl⟩ := List.mem_map.mp hx
      exact ⟨_, rfl⟩
    · obtain ⟨c, hc, rfl⟩ := List.mem_map.mp hks
      rw [agK_ct]
      exact eqs_ct6 rfl hda
    have any1 : (S.map (ctK marks)).any (agK marks (leP marks t1 c1 p)) = true := List.any_eq_true.mpr ⟨_, List.mem_map.mpr ⟨c0, hc0, rfl⟩, by rw [agK_ct]; exact List.all_eq_true.mpr fun e he => by rw [ec0 e he]; simp⟩
    rw [any1]
    simp only [if_true]
    refine ⟨rfl, .ref a, marks, leP marks t1 c1 p, rfl, hda, ?_⟩
    refine any_lst (xs := S.map (mmD marks)) rfl fun Pm2 hP2 => ?_
    refine lcg_map (mmD marks) (fun c => D.int (marks.map c).sum) (hP2 _ rfl) S [] (fun c hc => ⟨_, rfl, fun R' h' => ?_⟩) (by simp; omega) ?_
    · walk_at "l3"
      exact ⟨rfl, mmD marks c, marks, c, rfl, rfl, h'⟩
    rw [List.nil_append]
    refine ⟨_, S.map fun c => (marks.map c).sum, rfl, by show some _ = some _; rw [List.map_map]; rfl, by rw [List.length_map]; exact List.length_pos_of_mem hc0, fun m hm hml => ?_⟩
    have e : (marks.map (leP marks t1 c1 p)).sum = m := by
      have h0 : (marks.map c0).sum = (marks.map (leP marks t1 c1 p)).sum := by
        rw [List.map_congr_left ec0]
      have h1 : m ≤ (marks.map c0).sum := hml _ (List.mem_map.mpr ⟨c0, hc0, rfl⟩)
      obtain ⟨c, hc, rfl⟩ := List.mem_map.mp hm
      obtain ⟨q1, q2⟩ := (Sin c).mp hc
      obtain ⟨p', hp', le'⟩ := mom_breaks pr (mm.s c q1).1 q2
      have h2 : tot marks t1 c1 p ≤ tot marks t1 c1 p' := hle p' hp'
      have h3 : tot marks t1 c1 p' ≤ (marks.map c).sum := sum_le9 le'
      have h4 : tot marks t1 c1 p = (marks.map (leP marks t1 c1 p)).sum := rfl
      omega
    walk_at "l3"
    rw [e]
    simp only [decide_true]
    exact fin_same l1 h
def spk__law_small : Sp3 := fun ds μ R => ∃ b n m, ds = [.ref b, .int m] ∧ Box μ b n ∧ n < bigM ∧ 1 ≤ m ∧ m ≤ 8 ∧ ∀ marks ties caps μ', Sml marks ties caps → (marks.length : Int) = m → (ties.length : Int) ≤ 2 * m → Onl b μ μ' → Box μ' b (n + 1000) → R (mdD marks ties caps) μ'
def tk__law_small_2 : TS3 := (sRet (vLst (vCons (vVar 2) (vCons (vVar 3) (vCons (vCB (gDict false) (vCons (vLc (iAny (vVar 4)) (gN 8) vYes (vTup (vCons (vVar 8) (vCons (vCB gMin2 (vCons (vC (.int 3)) (vCons (vOp gAt (vVar 4) (vVar 8)) vNil))) vNil))) [8]) vNil)) vNil)))))
def tk__law_small_1 : TS3 := sSeq (sSet 3 (vLc (iAny (vVar 3)) (gT [(gN 5), (gN 6), (gN 7)]) vYes (vTup (vCons (vVar 5) (vCons (vVar 6) (vCons (vIf (vB (vOp gLt (vVar 7) (vC (.int 3)))) (vVar 7) (vC (.int 2))) vNil)))) [5, 6, 7])) tk__law_small_2
def tk__law_small : TS3 := sSeq (sAsg (vCall 3 sp__law_model (vCons (vVar 0) (vCons (vVar 1) (vCons (vOp gMul (vC (.int 2)) (vVar 1)) vNil)))) (gT [(gN 2), (gN 3), (gN 4)])) tk__law_small_1
theorem purek__law_small (ds : List D) (μ : Mu) (R : DK) (hl : ds.length = 2) (h : spk__law_small ds μ R) : tk__law_small (endsOf R) (start3 ["_law_box_here", "_law_many", "_law_marks", "_law_cords", "_law_caps", "_law_one", "_law_other", "_law_lag_here", "_law_event"] ds) μ := by
  obtain ⟨b, n, m, rfl, bx, hn, m1, m8, h⟩ := h
  have hsl : sizeLine = 16777216 := by decide
  show tk__law_small (endsOf R) [some (.ref b), some (.int m), none, none, none, none, none, none, none] μ
  unfold tk__law_small
  walk_at "l3"
  refine ⟨wide_mul (a := 20) (b := 20) (by decide) (by omega) (by decide) (by decide) (by decide), rfl, false, b, n, m, 2 * m, rfl, bx, hn, m1, m8, by omega, by omega, fun marks ties caps md hm ht μ' on bx' => ?_⟩
  have ok := md.p
  have l1 := ok.e.le
  have lt := ok.t.le
  have lc := lims_len ok.l
  show tk__law_small_1 (endsOf R) [some (.ref b), some (.int m), some (.lst (sds marks)), some (.lst (ties.map tieD)), some (.dct (limK caps)), none, none, none, none] μ'
  unfold tk__law_small_1
  walk_at "l3"
  refine any_lst (xs := ties.map tieD) rfl fun Pm hP => ?_
  refine lcg_map tieD (fun t => tieD (smT t)) (hP μ' rfl) ties [] (fun t ht => ⟨_, rfl, fun R' h' => ?_⟩) (by simp; omega) ?_
  · walk_at "l3"
    show (if decide (t.2.2 < 3) = true then _ else _)
    by_cases q : t.2.2 < 3
    · have e1 : tieD (smT t) = .tup [.str t.1, .str t.2.1, .int t.2.2] := by unfold smT tieD; rw [if_pos q]
      rw [e1] at h'
      simp only [q, decide_true, if_true]
      exact ⟨by rw [hsl]; show 3 ≤ _; decide, h'⟩
    · have e1 : tieD (smT t) = .tup [.str t.1, .str t.2.1, .int 2] := by unfold smT tieD; rw [if_neg q]
      rw [e1] at h'
      simp only [q, decide_false, Bool.false_eq_true, if_false]
      exact ⟨by rw [hsl]; show 3 ≤ _; decide, h'⟩
  rw [List.nil_append]
  unfold tk__law_small_2
  walk_at "l3"
  show lcW (fun _ => True) (gN 8) vYes _ _ _ ((limK caps).map fun kv => keyD kv.1) [] μ'
  have ek : ((limK caps).map fun kv => keyD kv.1) = caps.map fun p => D.str p.1 := by simp [limK, keyD, Function.comp_def]
  rw [ek]
  refine lcg_map (fun p : Str × Int => D.str p.1) (fun p => pairD (.inr p.1, .int (min 3 p.2))) trivial caps [] (fun p hp => ⟨_, rfl, fun R' h' => ?_⟩) (by simp; omega) ?_
  · walk_at "l3"
    refine at_d (c := .k (limK caps)) (d := .int p.2) rfl (by show some (valD _ _) = _; rw [val_lim, look_of ok.l.nd hp]; rfl) ?_
    exact ⟨by rw [hsl]; show 2 ≤ _; decide, h'⟩
  rw [List.nil_append]
  have sm := small_ok ok
  refine ⟨_, limK (caps.map smC), rfl, .inr ⟨limK (caps.map smC), ?_, ?_⟩, by rw [hsl]; show 3 ≤ _; decide, ?_⟩
  · simp [rdL, limK, smC, Function.comp_def]
  · rw [merge_new _ _ (by
      rw [List.nil_append]
      have : (limK (caps.map smC)).map (·.1) = ((caps.map smC).map (·.1)).map Sum.inr := by simp [limK, Function.comp_def]
      rw [this]
      exact List.Pairwise.map _ (fun a b h q => h (Sum.inr.inj q)) sm.p.l.nd), List.nil_append]
  · have e3 : (ties.map fun t => tieD (smT t)) = (ties.map smT).map tieD := by rw [List.map_map]; rfl
    rw [e3]
    exact fin_now (h marks _ _ μ' sm hm (by rw [List.length_map]; exact ht) on bx')
end C1
namespace K41
open PySem PySem.Spec L2 L3 C1 C2 PyProof.Rows
local macro_rules | `(tactic| walk_at "l3") => `(tactic| simp only [sSeq, sNext, sIf, sRet, sRetN, sSet, sDrop, sSub, sFor, sAsg, sPar2, sPar3, sCont, sFld3, sFld2, sAug, vVar, vC, vNil, vCons, vOp, vB, vChain, vAnd, vOr, vNot, vAndV, vOrV, vNotV, vIf, vUn, vCB, vLst, vTup, vLstT, vCall, vCal, vMak, vMetA, vFld, vSl, vPart, vNoP, vLc, vLcT, vDc, vBM, vBM0, vGet1, vGet2, vItems, vRev, vLRg, vStar, vDZip, iRg1, iRg2, iRgD, iAny, iEnm, iItm, iVal, vDict0, vDict0T, vDict0N, vDisp, vDispT, vPairs,
  List.getElem?_cons_zero, List.getElem?_cons_succ, List.set_cons_zero, List.set_cons_succ, wipe3, endsOf_rt, endsOf_nx, gLt, gLe, gGt, gGe, L3.gSub, gMul, gMod, gDiv, gPow, g2I, g2I0, gN, gT, gGo, Option.bind_some, gAdd_ii, gAdd_ss, gNeg_i, gMax2_ii, gMin2_ii, gLen_s, gEqS_ii, gEqS_ss, gEqS_bb, gNeS_ii, gNeS_ss, gIsN_n, gNotN_n, gSl_s, isNonD, if_true, if_false, Bool.false_eq_true, Bool.not_true, Bool.not_false])
def sp_law : Sp3 := fun ds μ R => ∃ ns : List Int, ds = [.scr (ns.map D.int)] ∧ ns.length ≤ 63 ∧ ∀ μ', R (.bl true) μ'
def t_law_1 : TS3 := (sRet (vC (.bl true)))
def t_law : TS3 := sSeq (sFor (iRg1 (vCons (vCB gMax2 (vCons (vC (.int 2)) (vCons (vCB gMin2 (vCons (vC (.int 12)) (vCons (vCB gLen (vCons (vVar 0) vNil)) vNil))) vNil))) vNil)) (gN 1) (sSeq (sSet 2 (vCall 1 sp__law_box (vCons (vCall 2 sp__law_cell (vCons (vVar 0) (vCons (vVar 1) vNil))) vNil))) (sSeq (sSet 3 (vCall 3 sp__law_model (vCons (vVar 2) (vCons (vOp gAdd (vC (.int 1)) (vCall 2 sp__law_take (vCons (vVar 2) (vCons (vC (.int 8)) vNil)))) (vCons (vOp gAt (vLst (vCons (vC (.int 12)) (vCons (vC (.int 12)) (vCons (vC (.int 50)) vNil)))) (vCall 2 sp__law_take (vCons (vVar 2) (vCons (vC (.int 3)) vNil)))) vNil))))) (sSeq (sIf (vNot (vB (vCall 2 sp__law_right (vCons (vVar 3) (vCons (vCall 2 sp__law_near (vCons (vVar 2) (vCons (vVar 3) vNil))) vNil))))) (sRet (vC (.bl false))) sNext) (sSeq (sSet 4 (vCall 2 spk__law_small (vCons (vVar 2) (vCons (vOp gAdd (vC (.int 1)) (vCall 2 sp__law_take (vCons (vVar 2) (vCons (vC (.int 3)) vNil)))) vNil)))) (sSeq (sSet 5 (vCall 2 sp__law_near (vCons (vVar 2) (vCons (vVar 4) vNil)))) (sSeq (sSet 5 (vLstT (vCons (vOp gAt (vVar 5) (vC (.int 0))) (vCons (vLc (iAny (vOp gAt (vVar 5) (vC (.int 1)))) (gT [(gN 6), (gN 7), (gN 8)]) vYes (vTup (vCons (vVar 6) (vCons (vVar 7) (vCons (vCB gMin2 (vCons (vC (.int 3)) (vCons (vVar 8) vNil))) vNil)))) [6, 7, 8]) (vCons (vOp gAt (vVar 5) (vC (.int 2))) vNil))))) (sSeq (sSub gSet (vCB (gDict false) (vCons (vLc (iAny (vOp gAt (vVar 5) (vC (.int 2)))) (gN 9) vYes (vTup (vCons (vVar 9) (vCons (vCB gMin2 (vCons (vC (.int 4)) (vCons (vOp gAt (vOp gAt (vVar 5) (vC (.int 2))) (vVar 9)) vNil))) vNil))) [9]) vNil)) (vVar 5) (vC (.int 2))) (sFrz (sIf (vOr (vNot (vB (vCall 2 sp__law_small_right (vCons (vVar 4) (vCons (vVar 5) vNil))))) (vNot (vB (vCall 2 sp__law_small_right (vCons (vVar 5) (vCons (vVar 4) vNil)))))) (sRet (vC (.bl false))) sNext)))))))))) t_law_1
def frT : TS3 := (sFrz (sIf (vOr (vNot (vB (vCall 2 sp__law_small_right (vCons (vVar 4) (vCons (vVar 5) vNil))))) (vNot (vB (vCall 2 sp__law_small_right (vCons (vVar 5) (vCons (vVar 4) vNil)))))) (sRet (vC (.bl false))) sNext))
def sc3 (t : Tie) : Tie := (t.1, t.2.1, min 3 t.2.2)
def sc4 (p : Str × Int) : Str × Int := (p.1, min 4 p.2)
theorem scaled {marks : List Str} {T : List Tie} {C : Lims} (ok : PlOk marks T C) : PlOk marks (T.map sc3) (C.map sc4) ∧ (∀ t ∈ T.map sc3, t.2.2 ≤ 4) ∧ ∀ q ∈ C.map sc4, q.2 ≤ 4 := by
  refine ⟨⟨ok.e, ⟨by rw [List.length_map]; exact ok.t.le, fun t ht => ?_, fun t ht => ?_, fun t ht => ?_⟩, ⟨?_, fun p hp => ?_, fun p hp => ?_⟩, ring_sub9 ok.r fun t ht h0 => ?_⟩, fun t ht => ?_, fun q hq => ?_⟩
  · obtain ⟨u, hu, rfl⟩ := List.mem_map.mp ht; exact ok.t.a u hu
  · obtain ⟨u, hu, rfl⟩ := List.mem_map.mp ht; exact ok.t.b u hu
  · obtain ⟨u, hu, rfl⟩ := List.mem_map.mp ht
    have := ok.t.c u hu
    show 0 ≤ min 3 u.2.2
    omega
  · have : (C.map sc4).map (·.1) = C.map (·.1) := by rw [List.map_map]; rfl
    rw [this]; exact ok.l.nd
  · obtain ⟨u, hu, rfl⟩ := List.mem_map.mp hp; exact ok.l.a u hu
  · obtain ⟨u, hu, rfl⟩ := List.mem_map.mp hp
    have := ok.l.c u hu
    show 0 ≤ min 4 u.2
    omega
  · obtain ⟨u, hu, rfl⟩ := List.mem_map.mp ht
    have h0' : min 3 u.2.2 = 0 := h0
    have : u.2.2 = 0 := by omega
    have e : sc3 u = u := by
      obtain ⟨a, b, c⟩ := u
      have : c = 0 := this
      subst this
      rfl
    rw [e]; exact hu
  · obtain ⟨u, hu, rfl⟩ := List.mem_map.mp ht
    show min 3 u.2.2 ≤ 4
    omega
  · obtain ⟨u, hu, rfl⟩ := List.mem_map.mp hq
    show min 4 u.2 ≤ 4
    omega
theorem fr_ok {Z : Ends3} {μ : Mu} {b q : Addr} {x0 x1 : D} {M : D} {marks : List Str} {t1 t2 : List Tie} {c1 c2 : Lims} {y6 y7 y8 y9 : Option D} (pr : Pr2 marks t1 c1 t2 c2) (l3 : marks.length ≤ 3) (s1 : ∀ t ∈ t1, t.2.2 ≤ 4) (s2 : ∀ t ∈ t2, t.2.2 ≤ 4) (r1 : ∀ q ∈ c1, q.2 ≤ 4) (r2 : ∀ q ∈ c2, q.2 ≤ 4) (hq : μ q = some (.lst (modelL marks (.lst (t2.map tieD)) (.dct (limK c2)))))
    (k : ∀ μ' y5, Z.nx [some x0, some x1, some (.ref b), some M, some (mdD marks t1 c1), some y5, none, none, none, none] μ') : frT Z [some x0, some x1, some (.ref b), some M, some (mdD marks t1 c1), some (.ref q), y6, y7, y8, y9] μ := by
  have hsl : sizeLine = 16777216 := by decide
  unfold frT
  generalize hM1 : mdD marks t1 c1 = M1
  refine ⟨[some x0, some x1, some (.ref b), some M, some M1, some (mdD marks t2 c2), none, none, none, none], fun a => if a = q then none else μ a, fun a o e => ?_, ?_, ?_⟩
  · by_cases c : a = q
    · simp [c] at e
    · simpa [c] using e
  · exact .some (.same _) (.some (.same _) (.some (.same _) (.some (.same _) (.some (.same _) (.some (.lst hq (by simp) (Frs.same _)) (.none (.none (.none (.none .nil)))))))))
  · generalize (fun a => if a = q then none else μ a : Mu) = μ2
    generalize hM2 : mdD marks t2 c2 = M2
    walk_at "l3"
    rw [← hM1, ← hM2]
    refine ⟨rfl, marks, t1, c1, t2, c2, rfl, pr, l3, s2, r2, ?_⟩
    simp only [Bool.not_true, Bool.false_eq_true, if_false]
    refine ⟨rfl, marks, t2, c2, t1, c1, rfl, pr.swap, l3, s1, r1, ?_⟩
    simp only [Bool.not_true, Bool.false_eq_true, if_false]
    have := k μ2 (mdD marks t2 c2)
    rw [hM1] at this
    rw [hM1]
    exact this
theorem pure_law (ds : List D) (μ : Mu) (R : DK) (hl : ds.length = 1) (h : sp_law ds μ R) : t_law (endsOf R) (start3 ["_law_script", "_law_k", "_law_box_here", "_law_one", "_law_little", "_law_near_here", "_law_begin", "_law_end", "_law_lag_here", "_law_event"] ds) μ := by
  obtain ⟨ns, rfl, hn, h⟩ := h
  have hsl : sizeLine = 16777216 := by decide
  have bm : bigB = 1000000000 := rfl
  have bm2 : bigM = 500000000 := rfl
  show t_law (endsOf R) [some (.scr (ns.map D.int)), none, none, none, none, none, none, none, none, none] μ
  unfold t_law
  show sSeq (sFor _ _ (sSeq _ (sSeq _ (sSeq _ (sSeq _ (sSeq _ (sSeq _ (sSeq _ frT)))))))) _ _ _ _
  generalize hFT : frT = FT
  walk_at "l3"
  refine gLen_of rfl ?_
  walk_at "l3"
  generalize hq : (max 2 (min 12 ((ns.map D.int).length : Int))) = q
  have hq2 : 0 ≤ q ∧ q ≤ 12 := by omega
  refine ⟨by omega, by omega, ?_⟩
  refine for_rg (fun k δ μ' => ∃ y1 y2 y3 y4 y5 y6 y7 y8 y9, δ = [some (.scr (ns.map D.int)), y1, y2, y3, y4, y5, y6, y7, y8, y9]) ⟨none, none, none, none, none, none, none, none, none, rfl⟩ ?_ ?_
  · rintro δ μ' ⟨y1, y2, y3, y4, y5, y6, y7, y8, y9, rfl⟩
    unfold t_law_1
    walk_at "l3"
    exact fin_now (h _)
  · rintro k0 δ μ' hk ⟨y1, y2, y3, y4, y5, y6, y7, y8, y9, rfl⟩ N hN
    walk_at "l3"
    refine ⟨rfl, ns, k0, by simp, by omega, fun z => ⟨rfl, z, rfl, fun b μ1 hb o1 b1 => ?_⟩⟩
    refine ⟨rfl, b, 8, 0, rfl, b1, by decide, by decide, by decide, fun r μ2 r0 r1 o2 b2 => ?_⟩
    walk_at "l3"
    refine ⟨by rw [hsl]; show 3 ≤ _; decide, rfl, b, 3, _, rfl, b2, by decide, by decide, by decide, fun r2 μ3 r20 r21 o3 b3 => ?_⟩
    obtain ⟨d, hd, ed, _⟩ := pick (xs := [D.int 12, .int 12, .int 50]) r20 r21
    obtain ⟨w, rfl, w0, w1⟩ : ∃ w : Int, d = .int w ∧ 12 ≤ w ∧ w ≤ 50 := by
      simp only [List.mem_cons, List.not_mem_nil, or_false] at hd
      rcases hd with rfl | rfl | rfl
      · exact ⟨12, rfl, by decide, by decide⟩
      · exact ⟨12, rfl, by decide, by decide⟩
      · exact ⟨50, rfl, by decide, by decide⟩
    refine at_l ed ?_
    refine ⟨rfl, false, b, _, 1 + r, w, rfl, b3, by decide, by omega, by omega, by omega, by omega, fun marks ties caps md hm ht => ?_⟩
    rw [if_neg Bool.false_ne_true]
    intro μ4 o4 b4
    have ok := md.p
    have eM : D.lst (modelL marks (D.lst (List.map tieD ties)) (D.dct (limK caps))) = mdD marks ties caps := rfl
    rw [eM]
    refine ⟨rfl, b, _, marks, ties, caps, rfl, b4, by decide, ok, by omega, fun T C μ5 okT o5 b5 => ?_⟩
    refine ⟨rfl, marks, ties, caps, T, C, rfl, ⟨ok, okT⟩, ?_⟩
    simp only [Bool.not_true, Bool.false_eq_true, if_false]
    generalize mdD marks ties caps = M
    clear eM okT ok ht hm md
    refine ⟨rfl, b, 3, _, rfl, b5, by decide, by decide, by decide, fun r3 μ6 r30 r31 o6 b6 => ?_⟩
    walk_at "l3"
    refine ⟨rfl, b, _, 1 + r3, rfl, b6, by decide, by omega, by omega, fun marks t1 c1 μ7 sm hm ht o7 b7 => ?_⟩
    have ok := sm.p
    have m8 := ok.e.le
    have l3 : marks.length ≤ 3 := by omega
    refine ⟨rfl, b, _, marks, t1, c1, rfl, b7, by decide, ok, by omega, fun T C μ8 okT o8 b8 => ?_⟩
    have tl := okT.t.le
    have cl := lims_len okT.l
    refine at_l (xs := modelL marks _ _) (d := .lst (sds marks)) rfl (at_l (xs := modelL marks _ _) (d := .lst (T.map tieD)) rfl ?_)
    refine any_lst (xs := T.map tieD) rfl fun Pm hPm => ?_
    refine lcg_map tieD (fun t => tieD (sc3 t)) (hPm _ rfl) T [] (fun t ht => ⟨_, rfl, fun R' k2 => ?_⟩) (by rw [hsl]; show 0 + _ ≤ _; omega) ?_
    · walk_at "l3"
      exact ⟨by rw [hsl]; show 3 ≤ _; decide, k2⟩
    rw [List.nil_append]
    refine at_l (xs := modelL marks _ _) (d := .dct (limK C)) rfl ⟨by rw [hsl]; show 3 ≤ _; decide, fun q hq => ?_⟩
    have qb : q ≠ b := fun z => by subst z; obtain ⟨_, _, _, e, _⟩ := b8; rw [hq] at e; cases e
    have eT : (T.map fun t => tieD (sc3 t)) = (T.map sc3).map tieD := by rw [List.map_map]; rfl
    rw [eT]
    have eq1 : (mset μ8 q (.lst (modelL marks (.lst ((T.map sc3).map tieD)) (.dct (limK C))))) q = some (.lst (modelL marks (.lst ((T.map sc3).map tieD)) (.dct (limK C)))) := mset_same
    show gAt (.ref q) (.int 2) (mset μ8 q (.lst (modelL marks (.lst ((T.map sc3).map tieD)) (.dct (limK C))))) _
    generalize mset μ8 q (.lst (modelL marks (.lst ((T.map sc3).map tieD)) (.dct (limK C)))) = μ9 at eq1
    have at2 : ∀ {K : DK}, K (.dct (limK C)) μ9 → gAt (.ref q) (.int 2) μ9 K := fun {K} k2 => at_q (xs := modelL marks (.lst ((T.map sc3).map tieD)) (.dct (limK C))) (d := .dct (limK C)) (by simp only [seqOf, eq1]) rfl k2
    refine at2 ?_
    show lcW (fun _ => True) _ _ _ _ _ ((limK C).map fun kv => keyD kv.1) [] _
    have ek : ((limK C).map fun kv => keyD kv.1) = C.map fun p => D.str p.1 := by simp [limK, keyD, Function.comp_def]
    rw [ek]
    refine lcg_map (fun p : Str × Int => D.str p.1) (fun p => pairD (.inr p.1, .int (min 4 p.2))) trivial C [] (fun p hp => ⟨_, rfl, fun R' k2 => ?_⟩) (by rw [hsl]; show 0 + _ ≤ _; omega) ?_
    · walk_at "l3"
      refine at2 (at_d (c := .k (limK C)) (d := .int p.2) rfl (by show some (valD _ _) = _; rw [val_lim, look_of okT.l.nd hp]; rfl) ?_)
      exact ⟨by rw [hsl]; show 2 ≤ _; decide, k2⟩
    rw [List.nil_append]
    obtain ⟨okS, sT, sC⟩ := scaled okT
    refine ⟨_, limK (C.map sc4), rfl, .inr ⟨limK (C.map sc4), ?_, ?_⟩, ?_⟩
    · simp [rdL, limK, sc4, Function.comp_def]
    · rw [merge_new _ _ (by
        rw [List.nil_append]
        have : (limK (C.map sc4)).map (·.1) = ((C.map sc4).map (·.1)).map Sum.inr := by simp [limK, Function.comp_def]
        rw [this]
        exact List.Pairwise.map _ (fun a b h q => h (Sum.inr.inj q)) okS.l.nd), List.nil_append]
    rw [if_neg Bool.false_ne_true]
    refine set_l eq1 (j := 2) rfl ?_
    rw [← hFT]
    exact fr_ok ⟨ok, okS⟩ l3 (fun t ht => by have := sm.t t ht; omega) sT (fun q hq => by have := sm.c q hq; omega) sC mset_same fun μ' y5 => hN _ _ ⟨_, _, _, _, _, _, _, _, _, rfl⟩
theorem enter {K : Kn} {H : Hp} {a : Addr} {ns : List Int} (hl : ns.length ≤ 63) (hS : SqL K.K H a (ns.map V.int)) : lift K 1 sp_law [.ref a] H (fun v _ => v = .bl true) fun _ _ _ => False := enter_scr hS ⟨ns, rfl, hl, fun _ => rfl⟩
end K41
namespace L3
open PySem PySem.Spec PyProof.Rows L2
theorem SaysB.def3 {fa : List Fb} {fn : List He.DefD} {K : PySem.W.Frag} (c : SaysB fa fn K) (i : Nat) {p : Str × Option Str} {x qual : Str} {st : Stmt} {dfl : List He.Dv} {kwd : List (Str × He.Dv)} {vs : List V} {ks : List (Str × V)}
    (h : fn[i]? = some (dAt p x qual st dfl kwd)) (e1 : dfl.map (He.Dv.v K) = vs) (e2 : (kwd.map fun q => (q.1, q.2.v K)) = ks) : ∃ fd, Def3 K x qual st vs ks (He.fAd K p) fd := by
  obtain ⟨fd, F⟩ := c.def_ i h
  subst e1 e2
  exact ⟨fd, ⟨F.ex, F.kp⟩⟩
theorem Def3.binds1 {K : PySem.W.Frag} {x qual p : Str} {st : Stmt} {f : Addr} {fd : FuncData} (F : Def3 K x qual st [] [] f fd)
    (h : ∀ (kV doc pm : Value) (an : Option Addr) (cdv ct v : Value), bindArgs (PySem.W.fnOf x qual (defArgs st) (defBody st) (defScope st) .none kV doc pm an cdv ct) ⟨[v], []⟩ = pure [(p, v)]) (s : Shared) (v : Value) : BindsTo s fd ⟨[v], []⟩ [(p, v)] := by
  obtain ⟨oc, od, dV, kV, doc, pm, an, cdv, ct, osl, rfl, lk, cd, hD, hK⟩ := F.ex
  rcases hD with ⟨_, rfl⟩ | ⟨e, _⟩
  · exact .of_eq (h kV doc pm an cdv ct v)
  · exact absurd rfl e
theorem walkE {l : PySem.W.OpenLaw} {n k : Nat} {q : Program} {loose : List Str} {XP : (Str → Option Value) → Heap → Prop} {YP : World → Heap → Prop} {d : DefRec} {X0 : World → CXT} {x : Str}
    (hi : importsNone q = true) (hn : l.most = some n) (hn2 : n ≤ sizeLine) (hdf : d.params.defaults = []) (hr : Room k callerA)
    (F : ∀ (w : World) (mg : Str → Option Value) (fa : Addr) (h : Heap), YP w h → h.Ns mainGlobals mg → mg d.name = some (.ref fa) →
      ∃ (K : PySem.W.Frag) (fd : FuncData) (sp : Sp), K.In h ∧ (∀ (s : Shared) (u : Value), BindsTo s fd ⟨[u], []⟩ [(x, u)]) ∧
        (∀ (H : Hp) (a : Addr) (ns : List Int), ns.length ≤ n → SqL K H a (ns.map V.int) → sp [.ref a] H (fun v _ => v = .bl true) fun _ _ _ => False) ∧
        ∀ base : Heap, K.In base → base.Ns mainGlobals mg → BaseS base → FnG l.prog w K mg base (X0 w) k fa fd [x] sp)
    (hX0 : ∀ (w : World) (H : Hp) (s : Shared) (e : Value) (s2 : Shared), X0 w [] H s (fun _ _ _ => False) e s2 → False) :
    PySem.W.WalkO q loose XP YP l.row.toRowW d [] (fun f vs => PySem.call f vs) := by
  refine Att.attach_call hn hdf fun w s0 s1 mg mb fa o pm cd doc a us ns G Y ho hd hcd hmg hobj hints hlen hg => ?_
  obtain ⟨K, fd, sp, KX, hb, hsp, hF⟩ := F w mg fa _ Y G.T.g hmg
  exact enter_lawS KX G.T.g G.T.b G.T.builtins G.T.nolimit G.T.nodigits (let ⟨mm, q1, _⟩ := (G.T.seer hi).mods; ⟨mm, q1⟩) hg hobj hints (Nat.le_trans hlen hn2) ⟨hr, rfl⟩ hF hb (fun H hS => hsp H a ns hlen hS) fun H e s2 => hX0 w H s1 e s2
end L3
namespace K41
open PySem PySem.Spec L2 L3 C1
structure Bl (K : PySem.W.Frag) (mg : Str → Option Value) : Prop where
  b_all : mg "all" = none
  b_bool : mg "bool" = none
  b_dict : mg "dict" = none
  b_enumerate : mg "enumerate" = none
  b_int : mg "int" = none
  b_isinstance : mg "isinstance" = none
  b_len : mg "len" = none
  b_list : mg "list" = none
  b_max : mg "max" = none
  b_min : mg "min" = none
  b_range : mg "range" = none
  b_repr : mg "repr" = none
  b_sorted : mg "sorted" = none
  b_str : mg "str" = none
  b_sum : mg "sum" = none
  b_tuple : mg "tuple" = none
  b_zip : mg "zip" = none
  k_HOLD : ∃ t, mg "HOLD" = some (.str "limit" t)
  k_LETTERS : ∃ t, mg "LETTERS" = some (.str "abcdefghijklmnopqrstuvwxyz" t)
  k_MOST_EVENTS : ∃ t, mg "MOST_EVENTS" = some (.int 8 t)
  k_MOST_LETTERS : ∃ t, mg "MOST_LETTERS" = some (.int 8 t)
  k_MOST_TIES : ∃ t, mg "MOST_TIES" = some (.int 60 t)
  k_NONE : ∃ t, mg "NONE" = some (.str "none" t)
  k_TIE : ∃ t, mg "TIE" = some (.str "tie" t)
  c_Plan : Cl3 K mg "Plan"
  c_Table : Cl3 K mg "Table"
  f_Plan_own_events : Fl3 K "Plan" "own_events"
  f_Plan_own_limits : Fl3 K "Plan" "own_limits"
  f_Plan_own_ties : Fl3 K "Plan" "own_ties"
  f_Table_leads : Fl3 K "Table" "leads"
  f_Table_row_of_events : Fl3 K "Table" "row_of_events"
  f_Table_steps : Fl3 K "Table" "steps"
section
variable {P : Program} {w : World} {K : PySem.W.Frag} {mg : Str → Option Value} {base : Heap}
theorem sc__law_box : FnScope ["_law_cell_here"] ["_law_cell_here"] (defScope (topS 48)) := ⟨rfl, rfl, rfl, by decide +kernel, rfl, by decide +kernel, by decide +kernel⟩
theorem ok__law_box {f : Addr} {fd : FuncData}  (T : Bl K mg)  (F : Def3 K "_law_box" "_law_box" (topS 48) [] [] f fd) : FnG P w K mg base CX0 1 f fd ["_law_cell_here"] (lift ⟨K, P, w⟩ 1 sp__law_box) := by
  have nd := sc__law_box.nd
  refine F.ok3 sc__law_box fun cdv A outer s H E hr => ⟨t__law_box, ?_, pure__law_box⟩
  exact (ss_one (s_ret (e_lstT (a_cons (e_callB (c_max2 rfl) T.b_max (by decide +kernel) (a_cons e_int (a_cons (e_op o_sub (e_var 0) (e_op o_pow e_int e_int)) a_nil))) (a_cons (e_op o_mod (e_var 0) e_int) (a_cons e_int a_nil))))))
theorem sc__law_cell : FnScope ["_law_script", "_law_k"] ["_law_script", "_law_k"] (defScope (topS 47)) := ⟨rfl, rfl, rfl, by decide +kernel, rfl, by decide +kernel, by decide +kernel⟩
theorem ok__law_cell {f : Addr} {fd : FuncData}  (T : Bl K mg)  (F : Def3 K "_law_cell" "_law_cell" (topS 47) [] [] f fd) : FnG P w K mg base CX0 1 f fd ["_law_script", "_law_k"] (lift ⟨K, P, w⟩ 2 sp__law_cell) := by
  have nd := sc__law_cell.nd
  refine F.ok3 sc__law_cell fun cdv A outer s H E hr => ⟨t__law_cell, ?_, pure__law_cell⟩
  exact (ss_cons (s_if (t_cmp o_lt (e_var 1) (e_callB (c_len) T.b_len PySem.boot_len (a_cons (e_var 0) a_nil))) (ss_one (s_ret (e_at hr (e_var 0) (e_var 1)))) ss_nil) (ss_one (s_ret (e_op o_add (e_op o_mul e_int (e_var 1)) e_int))))
theorem sc__law_take : FnScope ["_law_box_here", "_law_many", "_law_digit", "_law_number"] ["_law_box_here", "_law_many"] (defScope (topS 49)) := ⟨rfl, rfl, rfl, by decide +kernel, rfl, by decide +kernel, by decide +kernel⟩
theorem ok__law_take {f : Addr} {fd : FuncData}  (T : Bl K mg)  (F : Def3 K "_law_take" "_law_take" (topS 49) [] [] f fd) : FnG P w K mg base CX0 1 f fd ["_law_box_here", "_law_many"] (lift ⟨K, P, w⟩ 2 sp__law_take) := by
  have nd := sc__law_take.nd
  refine F.ok3 sc__law_take fun cdv A outer s H E hr => ⟨t__law_take, ?_, pure__law_take⟩
  exact (ss_cons (s_if (t_cmp o_gt (e_at hr (e_var 0) e_int) e_int) (ss_cons (s_set (i := 2) nd (e_op o_mod (e_at hr (e_var 0) e_int) (e_var 1))) (ss_cons (s_sub (st_any hr) (e_op o_div (e_at hr (e_var 0) e_int) (e_var 1)) (e_var 0) e_int) (ss_one (s_ret (e_var 2))))) ss_nil) (ss_cons (s_sub (st_any hr) (e_op o_add (e_at hr (e_var 0) e_int) e_int) (e_var 0) e_int) (ss_cons (s_set (i := 3) nd (e_op o_mod (e_op o_pow (e_op o_add (e_op o_add (e_at hr (e_var 0) e_int) (e_op o_mul e_int (e_at hr (e_var 0) e_int))) e_int) e_int) e_int)) (ss_cons (s_set (i := 3) nd (e_op o_mod (e_op o_pow (e_op o_add (e_var 3) (e_op o_mul e_int (e_at hr (e_var 0) e_int))) e_int) e_int)) (ss_one (s_ret (e_op o_mod (e_op o_div (e_var 3) e_int) (e_var 1))))))))
theorem sc__law_names : FnScope ["_law_box_here", "_law_many", "_law_letters", "_law_stem", "_law_first", "_law_step", "_law_way", "_law_found", "_law_k", "_law_sign"] ["_law_box_here", "_law_many"] (defScope (topS 51)) := ⟨rfl, rfl, rfl, by decide +kernel, rfl, by decide +kernel, by decide +kernel⟩
theorem ok__law_names {f : Addr} {fd : FuncData}  (T : Bl K mg) (c__law_take : Cal3 P w K mg base CX0 1 "_law_take" 2 [] (allPos 2) [] 2 (lift ⟨K, P, w⟩ 2 sp__law_take)) (F : Def3 K "_law_names" "_law_names" (topS 51) [] [] f fd) : FnG P w K mg base CX0 2 f fd ["_law_box_here", "_law_many"] (lift ⟨K, P, w⟩ 2 sp__law_names) := by
  have nd := sc__law_names.nd
  refine F.ok3 sc__law_names fun cdv A outer s H E hr => ⟨t__law_names, ?_, pure__law_names⟩
  exact (ss_cons (s_set (i := 2) nd e_str) (ss_cons (s_set (i := 3) nd (e_at hr (e_lst (a_cons e_str (a_cons e_str (a_cons e_str (a_cons e_str (a_cons e_str (a_cons e_str a_nil))))))) (e_cal lf0 c__law_take hr (a_cons (e_var 0) (a_cons e_int a_nil))))) (ss_cons (s_par3 (i := 4) (j := 5) (l := 6) rfl nd (a_cons (e_cal lf0 c__law_take hr (a_cons (e_var 0) (a_cons e_int a_nil))) (a_cons (e_at hr (e_lst (a_cons e_int (a_cons e_int (a_cons e_int (a_cons e_int (a_cons e_int (a_cons e_int a_nil))))))) (e_cal lf0 c__law_take hr (a_cons (e_var 0) (a_cons e_int a_nil)))) (a_cons (e_cal lf0 c__law_take hr (a_cons (e_var 0) (a_cons e_int a_nil))) a_nil)))) (ss_cons (s_set (i := 7) nd (e_lstT a_nil)) (ss_cons (s_for PassesOwn.never rfl (i_range1 T.b_range (a_cons (e_var 1) a_nil)) (g_name (i := 8) nd) (ss_cons (s_set (i := 9) nd (e_at hr (e_var 2) (e_op o_mod (e_op o_add (e_var 4) (e_op o_mul (e_var 5) (e_var 8))) e_int))) (ss_one (s_expr (e_bm PySem.F.plainAttrs_list PySem.F.slot_list_append PySem.F.type_list_append m_append (e_var 7) (a_cons (e_at hr (e_lst (a_cons (e_op o_add (e_var 3) (e_var 9)) (a_cons (e_op o_add (e_var 9) (e_var 3)) (a_cons (e_var 9) a_nil)))) (e_if (t_cmp o_gt (e_var 8) e_int) (e_var 6) e_int)) a_nil)))))) (ss_one (s_ret (e_var 7))))))))
theorem sc__law_mixed : FnScope ["_law_box_here", "_law_some", "_law_left", "_law_k"] ["_law_box_here", "_law_some"] (defScope (topS 50)) := ⟨rfl, rfl, rfl, by decide +kernel, rfl, by decide +kernel, by decide +kernel⟩
theorem ok__law_mixed {f : Addr} {fd : FuncData}  (T : Bl K mg) (c__law_take : Cal3 P w K mg base CX0 1 "_law_take" 2 [] (allPos 2) [] 2 (lift ⟨K, P, w⟩ 2 sp__law_take)) (F : Def3 K "_law_mixed" "_law_mixed" (topS 50) [] [] f fd) : FnG P w K mg base CX0 2 f fd ["_law_box_here", "_law_some"] (lift ⟨K, P, w⟩ 2 sp__law_mixed) := by
  have nd := sc__law_mixed.nd
  refine F.ok3 sc__law_mixed fun cdv A outer s H E hr => ⟨t__law_mixed, ?_, pure__law_mixed⟩
  exact (ss_cons (s_set (i := 2) nd (e_callTy c_listT T.b_list (by decide +kernel) (a_cons (e_var 1) a_nil))) (ss_one (s_ret (e_lcG (own := [("_law_k", 3)]) (tt := vYes) (te := (vBM "list" gPopAt (vVar 2) (vCons (vCall 2 sp__law_take (vCons (vVar 0) (vCons (vCB gLen (vCons (vVar 2) vNil)) vNil))) vNil))) rfl nd (i_range1 T.b_range (a_cons (e_callB (c_len) T.b_len PySem.boot_len (a_cons (e_var 1) a_nil)) a_nil)) (blkOk_by (N := ["_law_box_here", "_law_some", "_law_left", "_law_k"]) (sc := defScope (topS 50)) (by decide +kernel)) (u_name 3 (fun _ _ _ _ _ => pg_name (i := 3) nd rfl (by first | exact Or.inl rfl | exact Or.inr rfl))) (fun j hj => hj) (fun _ _ _ _ _ => ts_nil) (fun _ _ _ _ _ => (e_bm PySem.F.plainAttrs_list PySem.F.slot_list_pop PySem.F.type_list_pop m_popAt (e_var 2) (a_cons (e_cal lf0 c__law_take hr (a_cons (e_var 0) (a_cons (e_callB (c_len) T.b_len PySem.boot_len (a_cons (e_var 2) a_nil)) a_nil))) a_nil)))))))
theorem sc__law_lag : FnScope ["_law_box_here"] ["_law_box_here"] (defScope (topS 52)) := ⟨rfl, rfl, rfl, by decide +kernel, rfl, by decide +kernel, by decide +kernel⟩
theorem ok__law_lag {f : Addr} {fd : FuncData}  (T : Bl K mg) (c__law_take : Cal3 P w K mg base CX0 1 "_law_take" 2 [] (allPos 2) [] 2 (lift ⟨K, P, w⟩ 2 sp__law_take)) (F : Def3 K "_law_lag" "_law_lag" (topS 52) [] [] f fd) : FnG P w K mg base CX0 2 f fd ["_law_box_here"] (lift ⟨K, P, w⟩ 1 sp__law_lag) := by
  have nd := sc__law_lag.nd
  refine F.ok3 sc__law_lag fun cdv A outer s H E hr => ⟨t__law_lag, ?_, pure__law_lag⟩
  exact (ss_one (s_ret (e_at hr (e_lst (a_cons e_int (a_cons e_int (a_cons e_int (a_cons e_int (a_cons e_int (a_cons e_int (a_cons e_int (a_cons (e_op o_mul (e_cal lf0 c__law_take hr (a_cons (e_var 0) (a_cons (e_op o_pow e_int e_int) a_nil))) (e_op o_pow e_int e_int)) a_nil))))))))) (e_cal lf0 c__law_take hr (a_cons (e_var 0) (a_cons e_int a_nil))))))
theorem sc__law_model : FnScope ["_law_box_here", "_law_many", "_law_most", "_law_marks", "_law_order", "_law_cords", "_law_caps", "_law_k", "_law_one", "_law_other", "_law_lag_here", "_law_event"] ["_law_box_here", "_law_many", "_law_most"] (defScope (topS 53)) := ⟨rfl, rfl, rfl, by decide +kernel, rfl, by decide +kernel, by decide +kernel⟩
theorem ok__law_model {f : Addr} {fd : FuncData}  (T : Bl K mg) (c__law_names : Cal3 P w K mg base CX0 2 "_law_names" 2 [] (allPos 2) [] 2 (lift ⟨K, P, w⟩ 2 sp__law_names)) (c__law_mixed : Cal3 P w K mg base CX0 2 "_law_mixed" 2 [] (allPos 2) [] 2 (lift ⟨K, P, w⟩ 2 sp__law_mixed)) (c__law_take : Cal3 P w K mg base CX0 1 "_law_take" 2 [] (allPos 2) [] 2 (lift ⟨K, P, w⟩ 2 sp__law_take)) (c__law_lag : Cal3 P w K mg base CX0 2 "_law_lag" 1 [] (allPos 1) [] 1 (lift ⟨K, P, w⟩ 1 sp__law_lag)) (F : Def3 K "_law_model" "_law_model" (topS 53) [] [] f fd) : FnG P w K mg base CX0 3 f fd ["_law_box_here", "_law_many", "_law_most"] (lift ⟨K, P, w⟩ 3 sp__law_model) := by
  have nd := sc__law_model.nd
  refine F.ok3 sc__law_model fun cdv A outer s H E hr => ⟨t__law_model, ?_, pure__law_model⟩
  exact (ss_cons (s_set (i := 3) nd (e_cal lf0 c__law_names hr (a_cons (e_var 0) (a_cons (e_var 1) a_nil)))) (ss_cons (s_par3 (i := 4) (j := 5) (l := 6) rfl nd (a_cons (e_cal lf0 c__law_mixed hr (a_cons (e_var 0) (a_cons (e_var 3) a_nil))) (a_cons (e_lstT a_nil) (a_cons e_dict0T a_nil)))) (ss_cons (s_for PassesOwn.never rfl (i_range1 T.b_range (a_cons (e_cal lf0 c__law_take hr (a_cons (e_var 0) (a_cons (e_op o_add (e_var 2) e_int) a_nil))) a_nil)) (g_name (i := 7) nd) (ss_cons (s_par2 (i := 8) (j := 9) rfl nd (a_cons (e_at hr (e_var 3) (e_cal lf0 c__law_take hr (a_cons (e_var 0) (a_cons (e_var 1) a_nil)))) (a_cons (e_at hr (e_var 3) (e_cal lf0 c__law_take hr (a_cons (e_var 0) (a_cons (e_var 1) a_nil)))) a_nil))) (ss_cons (s_set (i := 10) nd (e_cal lf0 c__law_lag hr (a_cons (e_var 0) a_nil))) (ss_cons (s_if (t_w (w_and (t_cmp o_eqS (e_var 10) e_int) (w_and1 (t_cmp o_ge (e_bm PySem.F.plainAttrs_list PySem.F.slot_list_index PySem.F.type_list_index m_index (e_var 4) (a_cons (e_var 8) a_nil)) (e_bm PySem.F.plainAttrs_list PySem.F.slot_list_index PySem.F.type_list_index m_index (e_var 4) (a_cons (e_var 9) a_nil)))))) (ss_one (s_set (i := 10) nd e_int)) ss_nil) (ss_one (s_expr (e_bm PySem.F.plainAttrs_list PySem.F.slot_list_append PySem.F.type_list_append m_append (e_var 5) (a_cons (e_tup (a_cons (e_var 8) (a_cons (e_var 9) (a_cons (e_var 10) a_nil)))) a_nil)))))))) (ss_cons (s_for PassesOwn.never rfl (i_any (e_cal lf0 c__law_mixed hr (a_cons (e_var 0) (a_cons (e_var 3) a_nil)))) (g_name (i := 11) nd) (ss_one (s_if (t_cmp o_eqS (e_cal lf0 c__law_take hr (a_cons (e_var 0) (a_cons e_int a_nil))) e_int) (ss_one (s_sub (st_any hr) (e_at hr (e_lst (a_cons e_int (a_cons e_int (a_cons e_int (a_cons e_int (a_cons e_int (a_cons (e_op o_mul (e_cal lf0 c__law_take hr (a_cons (e_var 0) (a_cons (e_op o_pow e_int e_int) a_nil))) (e_op o_pow e_int e_int)) a_nil))))))) (e_cal lf0 c__law_take hr (a_cons (e_var 0) (a_cons e_int a_nil)))) (e_var 6) (e_var 11))) ss_nil))) (ss_one (s_ret (e_lstT (a_cons (e_var 3) (a_cons (e_var 5) (a_cons (e_var 6) a_nil))))))))))
theorem sc_is_list : FnScope ["value"] ["value"] (defScope (topS 21)) := ⟨rfl, rfl, rfl, by decide +kernel, rfl, by decide +kernel, by decide +kernel⟩
theorem ok_is_list {f : Addr} {fd : FuncData}  (T : Bl K mg)  (F : Def3 K "is_list" "is_list" (topS 21) [] [] f fd) : FnG P w K mg base CX0 1 f fd ["value"] (lift ⟨K, P, w⟩ 1 sp_is_list) := by
  have nd := sc_is_list.nd
  refine F.ok3 sc_is_list fun cdv A outer s H E hr => ⟨t_is_list, ?_, pure_is_list⟩
  exact (ss_one (s_ret (e_callB c_isT T.b_isinstance (by decide +kernel) (a_cons (e_var 0) (a_cons (e_tup (a_cons (e_bty T.b_list (by decide +kernel)) (a_cons (e_bty T.b_tuple (by decide +kernel)) a_nil))) a_nil)))))
theorem sc_is_name : FnScope ["value", "sign"] ["value"] (defScope (topS 20)) := ⟨rfl, rfl, rfl, by decide +kernel, rfl, by decide +kernel, by decide +kernel⟩
theorem ok_is_name {f : Addr} {fd : FuncData}  (T : Bl K mg)  (F : Def3 K "is_name" "is_name" (topS 20) [] [] f fd) : FnG P w K mg base CX0 1 f fd ["value"] (lift ⟨K, P, w⟩ 1 sp_is_name) := by
  have nd := sc_is_name.nd
  refine F.ok3 sc_is_name fun cdv A outer s H E hr => ⟨t_is_name, ?_, pure_is_name⟩
  exact (ss_cons (s_if (t_w (w_or (t_not (t_val (e_callB c_isi T.b_isinstance (by decide +kernel) (a_cons (e_var 0) (a_cons (e_bty T.b_str (by decide +kernel)) a_nil))))) (w_or1 (t_not (t_chain o_le o_le e_int (e_callB (c_len) T.b_len PySem.boot_len (a_cons (e_var 0) a_nil)) (e_gint (T.k_MOST_LETTERS).choose_spec)))))) (ss_one (s_ret e_bl)) ss_nil) (ss_one (s_ret (e_callB (c_all rfl) T.b_all (by decide +kernel) (a_cons (e_lcG (own := [("sign", 1)]) (tt := vYes) (te := (vOp (gIn false) (vVar 1) (vC (.str "abcdefghijklmnopqrstuvwxyz")))) rfl nd (i_any (e_var 0)) (blkOk_by (N := ["value", "sign"]) (sc := defScope (topS 20)) (by decide +kernel)) (u_name 1 (fun _ _ _ _ _ => pg_name (i := 1) nd rfl (by first | exact Or.inl rfl | exact Or.inr rfl))) (fun j hj => hj) (fun _ _ _ _ _ => ts_nil) (fun _ _ _ _ _ => (e_cmp (o_in hr) (e_var 1) (e_gstr (T.k_LETTERS).choose_spec)))) a_nil)))))
theorem sc_need_events : FnScope ["events", "at", "event"] ["events"] (defScope (topS 25)) := ⟨rfl, rfl, rfl, by decide +kernel, rfl, by decide +kernel, by decide +kernel⟩
theorem ok_need_events {f : Addr} {fd : FuncData}  (T : Bl K mg) (c_is_list : Cal3 P w K mg base CX0 1 "is_list" 1 [] (allPos 1) [] 1 (lift ⟨K, P, w⟩ 1 sp_is_list)) (c_is_name : Cal3 P w K mg base CX0 1 "is_name" 1 [] (allPos 1) [] 1 (lift ⟨K, P, w⟩ 1 sp_is_name)) (F : Def3 K "need_events" "need_events" (topS 25) [] [] f fd) : FnG P w K mg base CX0 2 f fd ["events"] (lift ⟨K, P, w⟩ 1 sp_need_events) := by
  have nd := sc_need_events.nd
  refine F.ok3 sc_need_events fun cdv A outer s H E hr => ⟨t_need_events, ?_, pure_need_events⟩
  exact (ss_cons (s_if (t_w (w_or (t_not (t_val (e_cal lf0 c_is_list hr (a_cons (e_var 0) a_nil)))) (w_or1 (t_not (t_chain o_le o_le e_int (e_callB (c_len) T.b_len PySem.boot_len (a_cons (e_var 0) a_nil)) (e_gint (T.k_MOST_EVENTS).choose_spec)))))) (ss_one s_never) ss_nil) (ss_one (s_for PassesOwn.never rfl (i_enum T.b_enumerate (a_cons (e_var 0) a_nil)) (g_tup rfl (gs_cons (g_name (i := 1) nd) (gs_cons (g_name (i := 2) nd) gs_nil))) (ss_cons (s_if (t_not (t_val (e_cal lf0 c_is_name hr (a_cons (e_var 2) a_nil)))) (ss_one s_never) ss_nil) (ss_one (s_if (t_cmp (o_in hr) (e_var 2) (e_slice (e_var 0) p_none (p_some (e_var 1)))) (ss_one s_never) ss_nil))))))
theorem sc_need_event : FnScope ["events", "name"] ["events", "name"] (defScope (topS 26)) := ⟨rfl, rfl, rfl, by decide +kernel, rfl, by decide +kernel, by decide +kernel⟩
theorem ok_need_event {f : Addr} {fd : FuncData}  (T : Bl K mg) (c_is_name : Cal3 P w K mg base CX0 1 "is_name" 1 [] (allPos 1) [] 1 (lift ⟨K, P, w⟩ 1 sp_is_name)) (F : Def3 K "need_event" "need_event" (topS 26) [] [] f fd) : FnG P w K mg base CX0 2 f fd ["events", "name"] (lift ⟨K, P, w⟩ 2 sp_need_event) := by
  have nd := sc_need_event.nd
  refine F.ok3 sc_need_event fun cdv A outer s H E hr => ⟨t_need_event, ?_, pure_need_event⟩
  exact (ss_one (s_if (t_w (w_or (t_not (t_val (e_cal lf0 c_is_name hr (a_cons (e_var 1) a_nil)))) (w_or1 (t_cmp (o_notIn hr) (e_var 1) (e_var 0))))) (ss_one s_never) ss_nil))
theorem sc_is_integer : FnScope ["value"] ["value"] (defScope (topS 18)) := ⟨rfl, rfl, rfl, by decide +kernel, rfl, by decide +kernel, by decide +kernel⟩
theorem ok_is_integer {f : Addr} {fd : FuncData}  (T : Bl K mg)  (F : Def3 K "is_integer" "is_integer" (topS 18) [] [] f fd) : FnG P w K mg base CX0 1 f fd ["value"] (lift ⟨K, P, w⟩ 1 sp_is_integer) := by
  have nd := sc_is_integer.nd
  refine F.ok3 sc_is_integer fun cdv A outer s H E hr => ⟨t_is_integer, ?_, pure_is_integer⟩
  exact (ss_one (s_ret (e_and (e_callB c_isi T.b_isinstance (by decide +kernel) (a_cons (e_var 0) (a_cons (e_bty T.b_int (by decide +kernel)) a_nil))) (e_one (e_not (e_callB c_isi T.b_isinstance (by decide +kernel) (a_cons (e_var 0) (a_cons (e_bty T.b_bool (by decide +kernel)) a_nil))))))))
theorem sc_is_count : FnScope ["value"] ["value"] (defScope (topS 19)) := ⟨rfl, rfl, rfl, by decide +kernel, rfl, by decide +kernel, by decide +kernel⟩
theorem ok_is_count {f : Addr} {fd : FuncData}  (T : Bl K mg) (c_is_integer : Cal3 P w K mg base CX0 1 "is_integer" 1 [] (allPos 1) [] 1 (lift ⟨K, P, w⟩ 1 sp_is_integer)) (F : Def3 K "is_count" "is_count" (topS 19) [] [] f fd) : FnG P w K mg base CX0 2 f fd ["value"] (lift ⟨K, P, w⟩ 1 sp_is_count) := by
  have nd := sc_is_count.nd
  refine F.ok3 sc_is_count fun cdv A outer s H E hr => ⟨t_is_count, ?_, pure_is_count⟩
  exact (ss_one (s_ret (e_and (e_cal lf0 c_is_integer hr (a_cons (e_var 0) a_nil)) (e_one (e_cmp o_ge (e_var 0) e_int)))))
theorem sc_need_ties : FnScope ["events", "ties", "tie"] ["events", "ties"] (defScope (topS 27)) := ⟨rfl, rfl, rfl, by decide +kernel, rfl, by decide +kernel, by decide +kernel⟩
theorem ok_need_ties {f : Addr} {fd : FuncData}  (T : Bl K mg) (c_is_list : Cal3 P w K mg base CX0 1 "is_list" 1 [] (allPos 1) [] 1 (lift ⟨K, P, w⟩ 1 sp_is_list)) (c_need_event : Cal3 P w K mg base CX0 2 "need_event" 2 [] (allPos 2) [] 2 (lift ⟨K, P, w⟩ 2 sp_need_event)) (c_is_count : Cal3 P w K mg base CX0 2 "is_count" 1 [] (allPos 1) [] 1 (lift ⟨K, P, w⟩ 1 sp_is_count)) (F : Def3 K "need_ties" "need_ties" (topS 27) [] [] f fd) : FnG P w K mg base CX0 3 f fd ["events", "ties"] (lift ⟨K, P, w⟩ 2 sp_need_ties) := by
  have nd := sc_need_ties.nd
  refine F.ok3 sc_need_ties fun cdv A outer s H E hr => ⟨t_need_ties, ?_, pure_need_ties⟩
  exact (ss_cons (s_if (t_w (w_or (t_not (t_val (e_cal lf0 c_is_list hr (a_cons (e_var 1) a_nil)))) (w_or1 (t_cmp o_gt (e_callB (c_len) T.b_len PySem.boot_len (a_cons (e_var 1) a_nil)) (e_gint (T.k_MOST_TIES).choose_spec))))) (ss_one s_never) ss_nil) (ss_one (s_for PassesOwn.never rfl (i_any (e_var 1)) (g_name (i := 2) nd) (ss_cons (s_if (t_w (w_or (t_not (t_val (e_callB c_isi T.b_isinstance (by decide +kernel) (a_cons (e_var 2) (a_cons (e_bty T.b_tuple (by decide +kernel)) a_nil))))) (w_or1 (t_cmp o_neS (e_callB (c_len) T.b_len PySem.boot_len (a_cons (e_var 2) a_nil)) e_int)))) (ss_one s_never) ss_nil) (ss_cons (s_expr (e_cal lf0 c_need_event hr (a_cons (e_var 0) (a_cons (e_at hr (e_var 2) e_int) a_nil)))) (ss_cons (s_expr (e_cal lf0 c_need_event hr (a_cons (e_var 0) (a_cons (e_at hr (e_var 2) e_int) a_nil)))) (ss_one (s_if (t_not (t_val (e_cal lf0 c_is_count hr (a_cons (e_at hr (e_var 2) e_int) a_nil)))) (ss_one s_never) ss_nil))))))))
theorem sc_need_limits : FnScope ["events", "limits", "event", "limit"] ["events", "limits"] (defScope (topS 28)) := ⟨rfl, rfl, rfl, by decide +kernel, rfl, by decide +kernel, by decide +kernel⟩
theorem ok_need_limits {f : Addr} {fd : FuncData}  (T : Bl K mg) (c_is_name : Cal3 P w K mg base CX0 1 "is_name" 1 [] (allPos 1) [] 1 (lift ⟨K, P, w⟩ 1 sp_is_name)) (c_is_count : Cal3 P w K mg base CX0 2 "is_count" 1 [] (allPos 1) [] 1 (lift ⟨K, P, w⟩ 1 sp_is_count)) (F : Def3 K "need_limits" "need_limits" (topS 28) [] [] f fd) : FnG P w K mg base CX0 3 f fd ["events", "limits"] (lift ⟨K, P, w⟩ 2 sp_need_limits) := by
  have nd := sc_need_limits.nd
  refine F.ok3 sc_need_limits fun cdv A outer s H E hr => ⟨t_need_limits, ?_, pure_need_limits⟩
  exact (ss_cons (s_if (t_not (t_val (e_callB c_isi T.b_isinstance (by decide +kernel) (a_cons (e_var 1) (a_cons (e_bty T.b_dict (by decide +kernel)) a_nil))))) (ss_one s_never) ss_nil) (ss_one (s_for PassesOwn.never rfl (i_items (e_var 1)) (g_tup rfl (gs_cons (g_name (i := 2) nd) (gs_cons (g_name (i := 3) nd) gs_nil))) (ss_one (s_if (t_w (w_or (t_not (t_val (e_cal lf0 c_is_name hr (a_cons (e_var 2) a_nil)))) (w_or (t_cmp (o_notIn hr) (e_var 2) (e_var 0)) (w_or1 (t_not (t_val (e_cal lf0 c_is_count hr (a_cons (e_var 3) a_nil)))))))) (ss_one s_never) ss_nil)))))
theorem sc_reached : FnScope ["behind", "begin", "found", "waiting", "event"] ["behind", "begin"] (defScope (topS 30)) := ⟨rfl, rfl, rfl, by decide +kernel, rfl, by decide +kernel, by decide +kernel⟩
theorem ok_reached {f : Addr} {fd : FuncData}  (T : Bl K mg)  (F : Def3 K "reached" "reached" (topS 30) [] [] f fd) : FnG P w K mg base CX0 1 f fd ["behind", "begin"] (lift ⟨K, P, w⟩ 2 sp_reached) := by
  have nd := sc_reached.nd
  refine F.ok3 sc_reached fun cdv A outer s H E hr => ⟨t_reached, ?_, pure_reached⟩
  exact (ss_cons (s_set (i := 2) nd (e_lstT a_nil)) (ss_cons (s_set (i := 3) nd (e_callTy c_listT T.b_list (by decide +kernel) (a_cons (e_var 1) a_nil))) (ss_cons (s_while PassesOwn.never (t_cmp (o_neD hr) (e_var 3) (e_lst a_nil)) (ss_cons (s_set (i := 4) nd (e_bm0 PySem.F.plainAttrs_list PySem.F.slot_list_pop PySem.F.type_list_pop m_pop (e_var 3))) (ss_one (s_if (t_cmp (o_notIn hr) (e_var 4) (e_var 2)) (ss_cons (s_expr (e_bm PySem.F.plainAttrs_list PySem.F.slot_list_append PySem.F.type_list_append m_append (e_var 2) (a_cons (e_var 4) a_nil))) (ss_one (s_expr (e_bm PySem.F.plainAttrs_list PySem.F.slot_list_extend PySem.F.type_list_extend m_extend (e_var 3) (a_cons (e_at hr (e_var 0) (e_var 4)) a_nil))))) ss_nil)))) (ss_one (s_ret (e_var 2))))))
theorem sc_need_no_ring : FnScope ["events", "ties", "behind", "event", "earlier", "later", "lag", "found"] ["events", "ties"] (defScope (topS 29)) := ⟨rfl, rfl, rfl, by decide +kernel, rfl, by decide +kernel, by decide +kernel⟩
theorem ok_need_no_ring {f : Addr} {fd : FuncData}  (T : Bl K mg) (c_reached : Cal3 P w K mg base CX0 1 "reached" 2 [] (allPos 2) [] 2 (lift ⟨K, P, w⟩ 2 sp_reached)) (F : Def3 K "need_no_ring" "need_no_ring" (topS 29) [] [] f fd) : FnG P w K mg base CX0 2 f fd ["events", "ties"] (lift ⟨K, P, w⟩ 2 sp_need_no_ring) := by
  have nd := sc_need_no_ring.nd
  refine F.ok3 sc_need_no_ring fun cdv A outer s H E hr => ⟨t_need_no_ring, ?_, pure_need_no_ring⟩
  exact (ss_cons (s_set (i := 2) nd (e_dc (nn := false) (tr := false) (own := [("event", 3)]) (tt := vYes) (tk := (vVar 3)) (tv := (vLstT vNil)) hr rfl nd (i_any (e_var 0)) (blkOk_by (N := ["events", "ties", "behind", "event", "earlier", "later", "lag", "found"]) (sc := defScope (topS 29)) (by decide +kernel)) (u_name 3 (fun _ _ _ _ _ => pg_name (i := 3) nd rfl (by first | exact Or.inl rfl | exact Or.inr rfl))) (fun j hj => hj) (fun _ _ _ _ _ => ts_nil) (fun _ _ _ _ _ => (e_var 3)) (fun _ _ _ _ _ => (e_lstT a_nil)))) (ss_cons (s_for PassesOwn.never rfl (i_any (e_var 1)) (g_tup rfl (gs_cons (g_name (i := 4) nd) (gs_cons (g_name (i := 5) nd) (gs_cons (g_name (i := 6) nd) gs_nil)))) (ss_one (s_if (t_cmp o_eqS (e_var 6) e_int) (ss_one (s_expr (e_bm PySem.F.plainAttrs_list PySem.F.slot_list_append PySem.F.type_list_append m_append (e_at hr (e_var 2) (e_var 4)) (a_cons (e_var 5) a_nil)))) ss_nil))) (ss_cons (s_lcG (j := 7) (own := [("event", 3)]) (tt := (vB (vOp (gIn false) (vVar 3) (vCall 2 sp_reached (vCons (vVar 2) (vCons (vOp gAt (vVar 2) (vVar 3)) vNil)))))) (te := (vVar 3)) rfl nd (i_any (e_var 0)) (blkOk_by (N := ["events", "ties", "behind", "event", "earlier", "later", "lag", "found"]) (sc := defScope (topS 29)) (by decide +kernel)) (u_name 3 (fun _ _ _ _ _ => pg_name (i := 3) nd rfl (by first | exact Or.inl rfl | exact Or.inr rfl))) (fun j hj => hj) (fun _ _ _ _ _ => ts_one (t_cmp (o_in hr) (e_var 3) (e_cal lf0 c_reached hr (a_cons (e_var 2) (a_cons (e_at hr (e_var 2) (e_var 3)) a_nil))))) (fun _ _ _ _ _ => (e_var 3)) (sw_true rfl rfl rfl (by decide +kernel))) (ss_one (s_if (t_cmp o_gt (e_callB (c_len) T.b_len PySem.boot_len (a_cons (e_var 7) a_nil)) e_int) (ss_one s_never) ss_nil)))))
theorem sc_Plan___init__ : FnScope ["self", "events", "ties", "limits", "event"] ["self", "events", "ties", "limits"] (defScope (inClass (topS 31) 0)) := ⟨rfl, rfl, rfl, by decide +kernel, rfl, by decide +kernel, by decide +kernel⟩
theorem ok_Plan___init__ {f : Addr} {fd : FuncData} {e17_0 : Addr} (T : Bl K mg) (c_need_events : Cal3 P w K mg base CX0 2 "need_events" 1 [] (allPos 1) [] 1 (lift ⟨K, P, w⟩ 1 sp_need_events)) (c_need_ties : Cal3 P w K mg base CX0 3 "need_ties" 2 [] (allPos 2) [] 2 (lift ⟨K, P, w⟩ 2 sp_need_ties)) (c_need_limits : Cal3 P w K mg base CX0 3 "need_limits" 2 [] (allPos 2) [] 2 (lift ⟨K, P, w⟩ 2 sp_need_limits)) (c_need_no_ring : Cal3 P w K mg base CX0 2 "need_no_ring" 2 [] (allPos 2) [] 2 (lift ⟨K, P, w⟩ 2 sp_need_no_ring)) (F : Def3 K "__init__" "Plan.__init__" (inClass (topS 31) 0) [(.ref e17_0 : V)] [("limits", (.non : V))] f fd) : FnG P w K mg base CX0 4 f fd ["self", "events", "ties", "limits"] (lift ⟨K, P, w⟩ 4 sp_Plan___init__) := by
  have nd := sc_Plan___init__.nd
  refine F.ok3 sc_Plan___init__ fun cdv A outer s H E hr => ⟨t_Plan___init__, ?_, pure_Plan___init__⟩
  exact (ss_cons (s_expr (e_cal lf0 c_need_events hr (a_cons (e_var 1) a_nil))) (ss_cons (s_expr (e_cal lf0 c_need_ties hr (a_cons (e_var 1) (a_cons (e_var 2) a_nil)))) (ss_cons (s_if (t_cmp o_notN (e_var 3) e_non) (ss_one (s_expr (e_cal lf0 c_need_limits hr (a_cons (e_var 1) (a_cons (e_var 3) a_nil))))) ss_nil) (ss_cons (s_expr (e_cal lf0 c_need_no_ring hr (a_cons (e_var 1) (a_cons (e_var 2) a_nil)))) (ss_cons (s_fld T.f_Plan_own_events (e_callTy c_list T.b_list (by decide +kernel) (a_cons (e_var 1) a_nil)) (e_var 0)) (ss_cons (s_fld T.f_Plan_own_ties (e_callTy c_list T.b_list (by decide +kernel) (a_cons (e_var 2) a_nil)) (e_var 0)) (ss_one (s_fld T.f_Plan_own_limits (e_dc (nn := false) (tr := false) (own := [("event", 4)]) (tt := (vAnd (vB (vOp gNotN (vVar 3) (vC .non))) (vB (vOp (gIn false) (vVar 4) (vVar 3))))) (tk := (vVar 4)) (tv := (vOp gAt (vVar 3) (vVar 4))) hr rfl nd (i_any (e_var 1)) (blkOk_by (N := ["self", "events", "ties", "limits", "event"]) (sc := defScope (inClass (topS 31) 0)) (by decide +kernel)) (u_name 4 (fun _ _ _ _ _ => pg_name (i := 4) nd rfl (by first | exact Or.inl rfl | exact Or.inr rfl))) (fun j hj => hj) (fun _ _ _ _ _ => ts_one (t_w (w_and (t_cmp o_notN (e_var 3) e_non) (w_and1 (t_cmp (o_in hr) (e_var 4) (e_var 3)))))) (fun _ _ _ _ _ => (e_var 4)) (fun _ _ _ _ _ => (e_at hr (e_var 3) (e_var 4)))) (e_var 0)))))))))
theorem sc__law_plan : FnScope ["_law_model_here"] ["_law_model_here"] (defScope (topS 54)) := ⟨rfl, rfl, rfl, by decide +kernel, rfl, by decide +kernel, by decide +kernel⟩
theorem ok__law_plan {f : Addr} {fd : FuncData}  (T : Bl K mg) (k_Plan___init____3_limits : Mak3 P w K mg base CX0 4 "Plan" 2 ["limits"] [.pos 0, .pos 1, .pos 2, .kw 0] [] 4 (lift ⟨K, P, w⟩ 4 sp_Plan___init__)) (F : Def3 K "_law_plan" "_law_plan" (topS 54) [] [] f fd) : FnG P w K mg base CX0 6 f fd ["_law_model_here"] (lift ⟨K, P, w⟩ 1 sp__law_plan) := by
  have nd := sc__law_plan.nd
  refine F.ok3 sc__law_plan fun cdv A outer s H E hr => ⟨t__law_plan, ?_, pure__law_plan⟩
  exact (ss_one (s_ret (e_makK lf0 k_Plan___init____3_limits hr (a_cons (e_at hr (e_var 0) e_int) (a_cons (e_at hr (e_var 0) e_int) a_nil)) (k_cons (e_at hr (e_var 0) e_int) k_nil))))
theorem sc_need_plan : FnScope ["value"] ["value"] (defScope (topS 32)) := ⟨rfl, rfl, rfl, by decide +kernel, rfl, by decide +kernel, by decide +kernel⟩
theorem ok_need_plan {f : Addr} {fd : FuncData}  (T : Bl K mg)  (F : Def3 K "need_plan" "need_plan" (topS 32) [] [] f fd) : FnG P w K mg base CX0 1 f fd ["value"] (lift ⟨K, P, w⟩ 1 sp_need_plan) := by
  have nd := sc_need_plan.nd
  refine F.ok3 sc_need_plan fun cdv A outer s H E hr => ⟨t_need_plan, ?_, pure_need_plan⟩
  exact (ss_one (s_if (t_not (t_val (e_callB (c_isC (ns := []) T.c_Plan (by simp)) T.b_isinstance (by decide +kernel) (a_cons (e_var 0) (a_cons (e_gcls T.c_Plan) a_nil))))) (ss_one s_never) ss_nil))
theorem sc_Plan_events : FnScope ["self"] ["self"] (defScope (inClass (topS 31) 1)) := ⟨rfl, rfl, rfl, by decide +kernel, rfl, by decide +kernel, by decide +kernel⟩
theorem ok_Plan_events {f : Addr} {fd : FuncData}  (T : Bl K mg)  (F : Def3 K "events" "Plan.events" (inClass (topS 31) 1) [] [] f fd) : FnG P w K mg base CX0 1 f fd ["self"] (lift ⟨K, P, w⟩ 1 sp_Plan_events) := by
  have nd := sc_Plan_events.nd
  refine F.ok3 sc_Plan_events fun cdv A outer s H E hr => ⟨t_Plan_events, ?_, pure_Plan_events⟩
  exact (ss_one (s_ret (e_callTy c_list T.b_list (by decide +kernel) (a_cons (e_fld T.f_Plan_own_events (e_var 0)) a_nil))))
theorem sc_need_alike_events : FnScope ["one", "other"] ["one", "other"] (defScope (topS 41)) := ⟨rfl, rfl, rfl, by decide +kernel, rfl, by decide +kernel, by decide +kernel⟩
theorem ok_need_alike_events {f : Addr} {fd : FuncData}  (T : Bl K mg) (c_need_plan : Cal3 P w K mg base CX0 1 "need_plan" 1 [] (allPos 1) [] 1 (lift ⟨K, P, w⟩ 1 sp_need_plan)) (m_Plan_events : Met3 P w K mg base CX0 1 "Plan" "events" 0 [] (allPos 1) [] 1 (lift ⟨K, P, w⟩ 1 sp_Plan_events)) (F : Def3 K "need_alike_events" "need_alike_events" (topS 41) [] [] f fd) : FnG P w K mg base CX0 2 f fd ["one", "other"] (lift ⟨K, P, w⟩ 2 sp_need_alike_events) := by
  have nd := sc_need_alike_events.nd
  refine F.ok3 sc_need_alike_events fun cdv A outer s H E hr => ⟨t_need_alike_events, ?_, pure_need_alike_events⟩
  exact (ss_cons (s_expr (e_cal lf0 c_need_plan hr (a_cons (e_var 0) a_nil))) (ss_cons (s_expr (e_cal lf0 c_need_plan hr (a_cons (e_var 1) a_nil))) (ss_one (s_if (t_cmp (o_neD hr) (e_metA0 lf0 m_Plan_events hr (e_var 0)) (e_metA0 lf0 m_Plan_events hr (e_var 1))) (ss_one s_never) ss_nil))))
theorem sc_leads_of : FnScope ["nodes", "rows", "leads", "node", "steps", "earlier", "later", "lag", "name", "middle", "lead"] ["nodes", "rows"] (defScope (topS 38)) := ⟨rfl, rfl, rfl, by decide +kernel, rfl, by decide +kernel, by decide +kernel⟩
theorem ok_leads_of {f : Addr} {fd : FuncData}  (T : Bl K mg)  (F : Def3 K "leads_of" "leads_of" (topS 38) [] [] f fd) : FnG P w K mg base CX0 1 f fd ["nodes", "rows"] (lift ⟨K, P, w⟩ 2 sp_leads_of) := by
  have nd := sc_leads_of.nd
  refine F.ok3 sc_leads_of fun cdv A outer s H E hr => ⟨t_leads_of, ?_, pure_leads_of⟩
  exact (ss_cons (s_dc (j := 2) (nn := true) (tr := true) (own := [("node", 3)]) (tt := vYes) (tk := (vTup (vCons (vVar 3) (vCons (vVar 3) vNil)))) (tv := (vC (.int 0))) hr rfl nd (i_any (e_var 0)) (blkOk_by (N := ["nodes", "rows", "leads", "node", "steps", "earlier", "later", "lag", "name", "middle", "lead"]) (sc := defScope (topS 38)) (by decide +kernel)) (u_name 3 (fun _ _ _ _ _ => pg_name (i := 3) nd rfl (by first | exact Or.inl rfl | exact Or.inr rfl))) (fun j hj => hj) (fun _ _ _ _ _ => ts_nil) (fun _ _ _ _ _ => (e_tup (a_cons (e_var 3) (a_cons (e_var 3) a_nil)))) (fun _ _ _ _ _ => e_int) (sw_dict rfl rfl rfl (by decide +kernel))) (ss_cons (s_set (i := 4) nd e_dict0N) (ss_cons (s_for PassesOwn.never rfl (i_any (e_var 1)) (g_tup rfl (gs_cons (g_name (i := 5) nd) (gs_cons (g_name (i := 6) nd) (gs_cons (g_name (i := 7) nd) (gs_cons (g_name (i := 8) nd) gs_nil))))) (ss_one (s_if (t_w (w_or (t_cmp (o_notIn hr) (e_tup (a_cons (e_var 5) (a_cons (e_var 6) a_nil))) (e_var 2)) (w_or1 (t_cmp o_lt (e_var 7) (e_at hr (e_var 2) (e_tup (a_cons (e_var 5) (a_cons (e_var 6) a_nil)))))))) (ss_cons (s_sub (st_any hr) (e_var 7) (e_var 2) (e_tup (a_cons (e_var 5) (a_cons (e_var 6) a_nil)))) (ss_one (s_sub (st_any hr) (e_var 8) (e_var 4) (e_tup (a_cons (e_var 5) (a_cons (e_var 6) a_nil)))))) ss_nil))) (ss_cons (s_for PassesOwn.never rfl (i_any (e_var 0)) (g_name (i := 9) nd) (ss_one (s_for PassesOwn.never rfl (i_any (e_var 0)) (g_name (i := 5) nd) (ss_one (s_for PassesOwn.never rfl (i_any (e_var 0)) (g_name (i := 6) nd) (ss_one (s_if (t_w (w_and (t_cmp (o_in hr) (e_tup (a_cons (e_var 5) (a_cons (e_var 9) a_nil))) (e_var 2)) (w_and1 (t_cmp (o_in hr) (e_tup (a_cons (e_var 9) (a_cons (e_var 6) a_nil))) (e_var 2))))) (ss_cons (s_set (i := 10) nd (e_op o_add (e_at hr (e_var 2) (e_tup (a_cons (e_var 5) (a_cons (e_var 9) a_nil)))) (e_at hr (e_var 2) (e_tup (a_cons (e_var 9) (a_cons (e_var 6) a_nil)))))) (ss_one (s_if (t_w (w_or (t_cmp (o_notIn hr) (e_tup (a_cons (e_var 5) (a_cons (e_var 6) a_nil))) (e_var 2)) (w_or1 (t_cmp o_lt (e_var 10) (e_at hr (e_var 2) (e_tup (a_cons (e_var 5) (a_cons (e_var 6) a_nil)))))))) (ss_cons (s_sub (st_any hr) (e_var 10) (e_var 2) (e_tup (a_cons (e_var 5) (a_cons (e_var 6) a_nil)))) (ss_one (s_sub (st_any hr) (e_var 9) (e_var 4) (e_tup (a_cons (e_var 5) (a_cons (e_var 6) a_nil)))))) ss_nil))) ss_nil))))))) (ss_one (s_ret (e_tup (a_cons (e_var 2) (a_cons (e_var 4) a_nil)))))))))
theorem sc_Plan_ties : FnScope ["self"] ["self"] (defScope (inClass (topS 31) 2)) := ⟨rfl, rfl, rfl, by decide +kernel, rfl, by decide +kernel, by decide +kernel⟩
theorem ok_Plan_ties {f : Addr} {fd : FuncData}  (T : Bl K mg)  (F : Def3 K "ties" "Plan.ties" (inClass (topS 31) 2) [] [] f fd) : FnG P w K mg base CX0 1 f fd ["self"] (lift ⟨K, P, w⟩ 1 sp_Plan_ties) := by
  have nd := sc_Plan_ties.nd
  refine F.ok3 sc_Plan_ties fun cdv A outer s H E hr => ⟨t_Plan_ties, ?_, pure_Plan_ties⟩
  exact (ss_one (s_ret (e_callTy c_list T.b_list (by decide +kernel) (a_cons (e_fld T.f_Plan_own_ties (e_var 0)) a_nil))))
theorem sc_Plan_limits : FnScope ["self"] ["self"] (defScope (inClass (topS 31) 3)) := ⟨rfl, rfl, rfl, by decide +kernel, rfl, by decide +kernel, by decide +kernel⟩
theorem ok_Plan_limits {f : Addr} {fd : FuncData}  (T : Bl K mg)  (F : Def3 K "limits" "Plan.limits" (inClass (topS 31) 3) [] [] f fd) : FnG P w K mg base CX0 1 f fd ["self"] (lift ⟨K, P, w⟩ 1 sp_Plan_limits) := by
  have nd := sc_Plan_limits.nd
  refine F.ok3 sc_Plan_limits fun cdv A outer s H E hr => ⟨t_Plan_limits, ?_, pure_Plan_limits⟩
  exact (ss_one (s_ret (e_callTy (c_dict (trk := false) rfl) T.b_dict (by decide +kernel) (a_cons (e_fld T.f_Plan_own_limits (e_var 0)) a_nil))))
theorem sc_rows_of : FnScope ["plan", "found", "index", "earlier", "later", "lag", "event", "limit"] ["plan"] (defScope (topS 37)) := ⟨rfl, rfl, rfl, by decide +kernel, rfl, by decide +kernel, by decide +kernel⟩
theorem ok_rows_of {f : Addr} {fd : FuncData}  (T : Bl K mg) (m_Plan_ties : Met3 P w K mg base CX0 1 "Plan" "ties" 0 [] (allPos 1) [] 1 (lift ⟨K, P, w⟩ 1 sp_Plan_ties)) (m_Plan_limits : Met3 P w K mg base CX0 1 "Plan" "limits" 0 [] (allPos 1) [] 1 (lift ⟨K, P, w⟩ 1 sp_Plan_limits)) (m_Plan_events : Met3 P w K mg base CX0 1 "Plan" "events" 0 [] (allPos 1) [] 1 (lift ⟨K, P, w⟩ 1 sp_Plan_events)) (F : Def3 K "rows_of" "rows_of" (topS 37) [] [] f fd) : FnG P w K mg base CX0 2 f fd ["plan"] (lift ⟨K, P, w⟩ 1 sp_rows_of) := by
  have nd := sc_rows_of.nd
  refine F.ok3 sc_rows_of fun cdv A outer s H E hr => ⟨t_rows_of, ?_, pure_rows_of⟩
  exact (ss_cons (s_lcT (j := 1) (own := [("index", 2), ("earlier", 3), ("later", 4), ("lag", 5)]) (tt := vYes) (te := (vTup (vCons (vVar 3) (vCons (vVar 4) (vCons (vVar 5) (vCons (vTup (vCons (vC (.str "tie")) (vCons (vVar 2) vNil))) vNil)))))) rfl nd (i_enum T.b_enumerate (a_cons (e_metA0 lf0 m_Plan_ties hr (e_var 0)) a_nil)) (blkOk_by (N := ["plan", "found", "index", "earlier", "later", "lag", "event", "limit"]) (sc := defScope (topS 37)) (by decide +kernel)) (u_tup rfl (us_cons (u_name 2 (fun _ _ _ _ _ => pg_name (i := 2) nd rfl (by first | exact Or.inl rfl | exact Or.inr rfl))) (us_cons (u_tup rfl (us_cons (u_name 3 (fun _ _ _ _ _ => pg_name (i := 3) nd rfl (by first | exact Or.inl rfl | exact Or.inr rfl))) (us_cons (u_name 4 (fun _ _ _ _ _ => pg_name (i := 4) nd rfl (by first | exact Or.inl rfl | exact Or.inr rfl))) (us_cons (u_name 5 (fun _ _ _ _ _ => pg_name (i := 5) nd rfl (by first | exact Or.inl rfl | exact Or.inr rfl))) us_nil)))) us_nil))) (fun j hj => hj) (fun _ _ _ _ _ => ts_nil) (fun _ _ _ _ _ => (e_tup (a_cons (e_var 3) (a_cons (e_var 4) (a_cons (e_var 5) (a_cons (e_tup (a_cons (e_gstr (T.k_TIE).choose_spec) (a_cons (e_var 2) a_nil))) a_nil)))))) (sw_true rfl rfl rfl (by decide +kernel))) (ss_cons (s_aug (i := 1) nd (e_lcG (own := [("event", 6), ("limit", 7)]) (tt := vYes) (te := (vTup (vCons (vC .non) (vCons (vVar 6) (vCons (vVar 7) (vCons (vTup (vCons (vC (.str "limit")) (vCons (vVar 6) vNil))) vNil)))))) rfl nd (i_items (e_metA0 lf0 m_Plan_limits hr (e_var 0))) (blkOk_by (N := ["plan", "found", "index", "earlier", "later", "lag", "event", "limit"]) (sc := defScope (topS 37)) (by decide +kernel)) (u_tup rfl (us_cons (u_name 6 (fun _ _ _ _ _ => pg_name (i := 6) nd rfl (by first | exact Or.inl rfl | exact Or.inr rfl))) (us_cons (u_name 7 (fun _ _ _ _ _ => pg_name (i := 7) nd rfl (by first | exact Or.inl rfl | exact Or.inr rfl))) us_nil))) (fun j hj => hj) (fun _ _ _ _ _ => ts_nil) (fun _ _ _ _ _ => (e_tup (a_cons e_non (a_cons (e_var 6) (a_cons (e_var 7) (a_cons (e_tup (a_cons (e_gstr (T.k_HOLD).choose_spec) (a_cons (e_var 6) a_nil))) a_nil))))))) ip_iadd) (ss_one (s_ret (e_op o_add (e_var 1) (e_lcG (own := [("event", 6)]) (tt := vYes) (te := (vTup (vCons (vVar 6) (vCons (vC .non) (vCons (vC (.int 0)) (vCons (vTup (vCons (vC (.str "none")) (vCons (vVar 6) vNil))) vNil)))))) rfl nd (i_any (e_metA0 lf0 m_Plan_events hr (e_var 0))) (blkOk_by (N := ["plan", "found", "index", "earlier", "later", "lag", "event", "limit"]) (sc := defScope (topS 37)) (by decide +kernel)) (u_name 6 (fun _ _ _ _ _ => pg_name (i := 6) nd rfl (by first | exact Or.inl rfl | exact Or.inr rfl))) (fun j hj => hj) (fun _ _ _ _ _ => ts_nil) (fun _ _ _ _ _ => (e_tup (a_cons (e_var 6) (a_cons e_non (a_cons e_int (a_cons (e_tup (a_cons (e_gstr (T.k_NONE).choose_spec) (a_cons (e_var 6) a_nil))) a_nil))))))))))))
theorem sc_Table___init__ : FnScope ["self", "plan"] ["self", "plan"] (defScope (inClass (topS 39) 0)) := ⟨rfl, rfl, rfl, by decide +kernel, rfl, by decide +kernel, by decide +kernel⟩
theorem ok_Table___init__ {f : Addr} {fd : FuncData}  (T : Bl K mg) (c_need_plan : Cal3 P w K mg base CX0 1 "need_plan" 1 [] (allPos 1) [] 1 (lift ⟨K, P, w⟩ 1 sp_need_plan)) (m_Plan_events : Met3 P w K mg base CX0 1 "Plan" "events" 0 [] (allPos 1) [] 1 (lift ⟨K, P, w⟩ 1 sp_Plan_events)) (c_leads_of : Cal3 P w K mg base CX0 1 "leads_of" 2 [] (allPos 2) [] 2 (lift ⟨K, P, w⟩ 2 sp_leads_of)) (c_rows_of : Cal3 P w K mg base CX0 2 "rows_of" 1 [] (allPos 1) [] 1 (lift ⟨K, P, w⟩ 1 sp_rows_of)) (F : Def3 K "__init__" "Table.__init__" (inClass (topS 39) 0) [] [] f fd) : FnG P w K mg base CX0 3 f fd ["self", "plan"] (lift ⟨K, P, w⟩ 2 sp_Table___init__) := by
  have nd := sc_Table___init__.nd
  refine F.ok3 sc_Table___init__ fun cdv A outer s H E hr => ⟨t_Table___init__, ?_, pure_Table___init__⟩
  exact (ss_cons (s_expr (e_cal lf0 c_need_plan hr (a_cons (e_var 1) a_nil))) (ss_cons (s_fld T.f_Table_row_of_events (e_metA0 lf0 m_Plan_events hr (e_var 1)) (e_var 0)) (ss_one (s_fld2 T.f_Table_leads T.f_Table_steps rfl (e_cal lf0 c_leads_of hr (a_cons (e_lst (a_cons e_non (a_star (e_fld T.f_Table_row_of_events (e_var 0)) a_nil))) (a_cons (e_cal lf0 c_rows_of hr (a_cons (e_var 1) a_nil)) a_nil))) (e_var 0) (e_var 0)))))
theorem sc_Table_lead : FnScope ["self", "earlier", "later"] ["self", "earlier", "later"] (defScope (inClass (topS 39) 2)) := ⟨rfl, rfl, rfl, by decide +kernel, rfl, by decide +kernel, by decide +kernel⟩
theorem ok_Table_lead {f : Addr} {fd : FuncData}  (T : Bl K mg) (c_need_event : Cal3 P w K mg base CX0 2 "need_event" 2 [] (allPos 2) [] 2 (lift ⟨K, P, w⟩ 2 sp_need_event)) (F : Def3 K "lead" "Table.lead" (inClass (topS 39) 2) [] [] f fd) : FnG P w K mg base CX0 3 f fd ["self", "earlier", "later"] (lift ⟨K, P, w⟩ 3 sp_Table_lead) := by
  have nd := sc_Table_lead.nd
  refine F.ok3 sc_Table_lead fun cdv A outer s H E hr => ⟨t_Table_lead, ?_, pure_Table_lead⟩
  exact (ss_cons (s_expr (e_cal lf0 c_need_event hr (a_cons (e_fld T.f_Table_row_of_events (e_var 0)) (a_cons (e_var 1) a_nil)))) (ss_cons (s_expr (e_cal lf0 c_need_event hr (a_cons (e_fld T.f_Table_row_of_events (e_var 0)) (a_cons (e_var 2) a_nil)))) (ss_one (s_ret (e_get1 hr (e_fld T.f_Table_leads (e_var 0)) (e_tup (a_cons (e_var 1) (a_cons (e_var 2) a_nil))))))))
theorem sc_Table_most : FnScope ["self", "event"] ["self", "event"] (defScope (inClass (topS 39) 3)) := ⟨rfl, rfl, rfl, by decide +kernel, rfl, by decide +kernel, by decide +kernel⟩
theorem ok_Table_most {f : Addr} {fd : FuncData}  (T : Bl K mg) (c_need_event : Cal3 P w K mg base CX0 2 "need_event" 2 [] (allPos 2) [] 2 (lift ⟨K, P, w⟩ 2 sp_need_event)) (F : Def3 K "most" "Table.most" (inClass (topS 39) 3) [] [] f fd) : FnG P w K mg base CX0 3 f fd ["self", "event"] (lift ⟨K, P, w⟩ 2 sp_Table_most) := by
  have nd := sc_Table_most.nd
  refine F.ok3 sc_Table_most fun cdv A outer s H E hr => ⟨t_Table_most, ?_, pure_Table_most⟩
  exact (ss_cons (s_expr (e_cal lf0 c_need_event hr (a_cons (e_fld T.f_Table_row_of_events (e_var 0)) (a_cons (e_var 1) a_nil)))) (ss_one (s_ret (e_get1 hr (e_fld T.f_Table_leads (e_var 0)) (e_tup (a_cons e_non (a_cons (e_var 1) a_nil)))))))
theorem sc_Table_least : FnScope ["self", "event", "count", "most", "other"] ["self", "event", "count"] (defScope (inClass (topS 39) 7)) := ⟨rfl, rfl, rfl, by decide +kernel, rfl, by decide +kernel, by decide +kernel⟩
theorem ok_Table_least {f : Addr} {fd : FuncData}  (T : Bl K mg) (m_Table_most : Met3 P w K mg base CX0 3 "Table" "most" 1 [] (allPos 2) [] 2 (lift ⟨K, P, w⟩ 2 sp_Table_most)) (c_is_count : Cal3 P w K mg base CX0 2 "is_count" 1 [] (allPos 1) [] 1 (lift ⟨K, P, w⟩ 1 sp_is_count)) (F : Def3 K "least" "Table.least" (inClass (topS 39) 7) [] [] f fd) : FnG P w K mg base CX0 4 f fd ["self", "event", "count"] (lift ⟨K, P, w⟩ 3 sp_Table_least) := by
  have nd := sc_Table_least.nd
  refine F.ok3 sc_Table_least fun cdv A outer s H E hr => ⟨t_Table_least, ?_, pure_Table_least⟩
  exact (ss_cons (s_set (i := 3) nd (e_metA lf0 m_Table_most hr (e_var 0) (a_cons (e_var 1) a_nil))) (ss_cons (s_if (t_not (t_val (e_cal lf0 c_is_count hr (a_cons (e_var 2) a_nil)))) (ss_one s_never) ss_nil) (ss_cons (s_if (t_w (w_and (t_cmp o_notN (e_var 3) e_non) (w_and1 (t_cmp o_gt (e_var 2) (e_var 3))))) (ss_one (s_ret e_non)) ss_nil) (ss_one (s_ret (e_dc (nn := false) (tr := true) (own := [("other", 4)]) (tt := vYes) (tk := (vVar 4)) (tv := (vCB gMax2 (vCons (vC (.int 0)) (vCons (vOp gSub (vVar 2) (vGet2 (vFld "Table" "leads" (vVar 0)) (vTup (vCons (vVar 4) (vCons (vVar 1) vNil))) (vVar 2))) vNil)))) hr rfl nd (i_any (e_fld T.f_Table_row_of_events (e_var 0))) (blkOk_by (N := ["self", "event", "count", "most", "other"]) (sc := defScope (inClass (topS 39) 7)) (by decide +kernel)) (u_name 4 (fun _ _ _ _ _ => pg_name (i := 4) nd rfl (by first | exact Or.inl rfl | exact Or.inr rfl))) (fun j hj => hj) (fun _ _ _ _ _ => ts_nil) (fun _ _ _ _ _ => (e_var 4)) (fun _ _ _ _ _ => (e_callB (c_max2 rfl) T.b_max (by decide +kernel) (a_cons e_int (a_cons (e_op o_sub (e_var 2) (e_get2 hr (e_fld T.f_Table_leads (e_var 0)) (e_tup (a_cons (e_var 4) (a_cons (e_var 1) a_nil))) (e_var 2))) a_nil))))))))))
theorem sc_breaches : FnScope ["one", "other", "table", "found", "earlier", "later", "lag", "lead", "event", "limit", "most"] ["one", "other"] (defScope (topS 42)) := ⟨rfl, rfl, rfl, by decide +kernel, rfl, by decide +kernel, by decide +kernel⟩
theorem ok_breaches {f : Addr} {fd : FuncData}  (T : Bl K mg) (k_Table___init__ : Mak3 P w K mg base CX0 3 "Table" 1 [] (allPos 2) [] 2 (lift ⟨K, P, w⟩ 2 sp_Table___init__)) (m_Plan_ties : Met3 P w K mg base CX0 1 "Plan" "ties" 0 [] (allPos 1) [] 1 (lift ⟨K, P, w⟩ 1 sp_Plan_ties)) (m_Table_lead : Met3 P w K mg base CX0 3 "Table" "lead" 2 [] (allPos 3) [] 3 (lift ⟨K, P, w⟩ 3 sp_Table_lead)) (m_Table_least : Met3 P w K mg base CX0 4 "Table" "least" 2 [] (allPos 3) [] 3 (lift ⟨K, P, w⟩ 3 sp_Table_least)) (m_Plan_limits : Met3 P w K mg base CX0 1 "Plan" "limits" 0 [] (allPos 1) [] 1 (lift ⟨K, P, w⟩ 1 sp_Plan_limits)) (m_Table_most : Met3 P w K mg base CX0 3 "Table" "most" 1 [] (allPos 2) [] 2 (lift ⟨K, P, w⟩ 2 sp_Table_most)) (F : Def3 K "breaches" "breaches" (topS 42) [] [] f fd) : FnG P w K mg base CX0 5 f fd ["one", "other"] (lift ⟨K, P, w⟩ 2 spk_breaches) := by
  have nd := sc_breaches.nd
  refine F.ok3 sc_breaches fun cdv A outer s H E hr => ⟨tk_breaches, ?_, purek_breaches⟩
  exact (ss_cons (s_set (i := 2) nd (e_mak lf0 k_Table___init__ hr (a_cons (e_var 0) a_nil))) (ss_cons (s_set (i := 3) nd (e_lstT a_nil)) (ss_cons (s_for PassesOwn.never rfl (i_any (e_metA0 lf0 m_Plan_ties hr (e_var 1))) (g_tup rfl (gs_cons (g_name (i := 4) nd) (gs_cons (g_name (i := 5) nd) (gs_cons (g_name (i := 6) nd) gs_nil)))) (ss_cons (s_set (i := 7) nd (e_metA lf0 m_Table_lead hr (e_var 2) (a_cons (e_var 4) (a_cons (e_var 5) a_nil)))) (ss_one (s_if (t_w (w_or (t_cmp o_isN (e_var 7) e_non) (w_or1 (t_cmp o_gt (e_var 7) (e_var 6))))) (ss_one (s_expr (e_bm PySem.F.plainAttrs_list PySem.F.slot_list_append PySem.F.type_list_append m_append (e_var 3) (a_cons (e_metA lf0 m_Table_least hr (e_var 2) (a_cons (e_var 5) (a_cons (e_op o_add (e_var 6) e_int) a_nil))) a_nil)))) ss_nil)))) (ss_cons (s_for PassesOwn.never rfl (i_items (e_metA0 lf0 m_Plan_limits hr (e_var 1))) (g_tup rfl (gs_cons (g_name (i := 8) nd) (gs_cons (g_name (i := 9) nd) gs_nil))) (ss_cons (s_set (i := 10) nd (e_metA lf0 m_Table_most hr (e_var 2) (a_cons (e_var 8) a_nil))) (ss_one (s_if (t_w (w_or (t_cmp o_isN (e_var 10) e_non) (w_or1 (t_cmp o_gt (e_var 10) (e_var 9))))) (ss_one (s_expr (e_bm PySem.F.plainAttrs_list PySem.F.slot_list_append PySem.F.type_list_append m_append (e_var 3) (a_cons (e_metA lf0 m_Table_least hr (e_var 2) (a_cons (e_var 8) (a_cons (e_op o_add (e_var 9) e_int) a_nil))) a_nil)))) ss_nil)))) (ss_one (s_ret (e_var 3)))))))
theorem sc_total : FnScope ["counts"] ["counts"] (defScope (topS 43)) := ⟨rfl, rfl, rfl, by decide +kernel, rfl, by decide +kernel, by decide +kernel⟩
theorem ok_total {f : Addr} {fd : FuncData}  (T : Bl K mg)  (F : Def3 K "total" "total" (topS 43) [] [] f fd) : FnG P w K mg base CX0 1 f fd ["counts"] (lift ⟨K, P, w⟩ 1 sp_total) := by
  have nd := sc_total.nd
  refine F.ok3 sc_total fun cdv A outer s H E hr => ⟨t_total, ?_, pure_total⟩
  exact (ss_one (s_ret (e_sumV rfl T.b_sum (e_var 0))))
theorem sc_within : FnScope ["one", "other", "found", "counts"] ["one", "other"] (defScope (topS 44)) := ⟨rfl, rfl, rfl, by decide +kernel, rfl, by decide +kernel, by decide +kernel⟩
theorem ok_within {f : Addr} {fd : FuncData}  (T : Bl K mg) (c_need_alike_events : Cal3 P w K mg base CX0 2 "need_alike_events" 2 [] (allPos 2) [] 2 (lift ⟨K, P, w⟩ 2 sp_need_alike_events)) (c_breaches : Cal3 P w K mg base CX0 5 "breaches" 2 [] (allPos 2) [] 2 (lift ⟨K, P, w⟩ 2 spk_breaches)) (c_total : Cal3 P w K mg base CX0 1 "total" 1 [] (allPos 1) [] 1 (lift ⟨K, P, w⟩ 1 sp_total)) (F : Def3 K "within" "within" (topS 44) [] [] f fd) : FnG P w K mg base CX0 6 f fd ["one", "other"] (lift ⟨K, P, w⟩ 2 spk_within) := by
  have nd := sc_within.nd
  refine F.ok3 sc_within fun cdv A outer s H E hr => ⟨tk_within, ?_, purek_within⟩
  exact (ss_cons (s_expr (e_cal lf0 c_need_alike_events hr (a_cons (e_var 0) (a_cons (e_var 1) a_nil)))) (ss_cons (s_set (i := 2) nd e_non) (ss_cons (s_for PassesOwn.never rfl (i_any (e_cal lf0 c_breaches hr (a_cons (e_var 0) (a_cons (e_var 1) a_nil)))) (g_name (i := 3) nd) (ss_one (s_if (t_w (w_or (t_cmp o_isN (e_var 2) e_non) (w_or1 (t_cmp o_lt (e_cal lf0 c_total hr (a_cons (e_var 3) a_nil)) (e_cal lf0 c_total hr (a_cons (e_var 2) a_nil)))))) (ss_one (s_set (i := 2) nd (e_var 3))) ss_nil))) (ss_one (s_ret (e_var 2))))))
theorem sc_alike : FnScope ["one", "other", "first", "second"] ["one", "other"] (defScope (topS 45)) := ⟨rfl, rfl, rfl, by decide +kernel, rfl, by decide +kernel, by decide +kernel⟩
theorem ok_alike {f : Addr} {fd : FuncData}  (T : Bl K mg) (c_within : Cal3 P w K mg base CX0 6 "within" 2 [] (allPos 2) [] 2 (lift ⟨K, P, w⟩ 2 spk_within)) (c_total : Cal3 P w K mg base CX0 1 "total" 1 [] (allPos 1) [] 1 (lift ⟨K, P, w⟩ 1 sp_total)) (F : Def3 K "alike" "alike" (topS 45) [] [] f fd) : FnG P w K mg base CX0 7 f fd ["one", "other"] (lift ⟨K, P, w⟩ 2 spk_alike) := by
  have nd := sc_alike.nd
  refine F.ok3 sc_alike fun cdv A outer s H E hr => ⟨tk_alike, ?_, purek_alike⟩
  exact (ss_cons (s_par2 (i := 2) (j := 3) rfl nd (a_cons (e_cal lf0 c_within hr (a_cons (e_var 0) (a_cons (e_var 1) a_nil))) (a_cons (e_cal lf0 c_within hr (a_cons (e_var 1) (a_cons (e_var 0) a_nil))) a_nil))) (ss_cons (s_if (t_w (w_and (t_cmp o_isN (e_var 2) e_non) (w_and1 (t_cmp o_isN (e_var 3) e_non)))) (ss_one (s_ret e_non)) ss_nil) (ss_cons (s_if (t_w (w_or (t_cmp o_isN (e_var 3) e_non) (w_or1 (t_w (w_and (t_cmp o_notN (e_var 2) e_non) (w_and1 (t_cmp o_le (e_cal lf0 c_total hr (a_cons (e_var 2) a_nil)) (e_cal lf0 c_total hr (a_cons (e_var 3) a_nil))))))))) (ss_one (s_ret (e_tup (a_cons (e_var 2) (a_cons e_int a_nil))))) ss_nil) (ss_one (s_ret (e_tup (a_cons (e_var 3) (a_cons e_int a_nil))))))))
theorem sc__law_far : FnScope ["_law_model_here", "_law_begin", "_law_marks", "_law_cords", "_law_caps", "_law_rows", "_law_event", "_law_found", "_law_turn", "_law_one", "_law_other", "_law_lag_here"] ["_law_model_here", "_law_begin"] (defScope (topS 58)) := ⟨rfl, rfl, rfl, by decide +kernel, rfl, by decide +kernel, by decide +kernel⟩
theorem ok__law_far {f : Addr} {fd : FuncData}  (T : Bl K mg)  (F : Def3 K "_law_far" "_law_far" (topS 58) [] [] f fd) : FnG P w K mg base CX0 1 f fd ["_law_model_here", "_law_begin"] (lift ⟨K, P, w⟩ 2 sp__law_far) := by
  have nd := sc__law_far.nd
  refine F.ok3 sc__law_far fun cdv A outer s H E hr => ⟨t__law_far, ?_, pure__law_far⟩
  exact (ss_cons (s_asg (e_var 0) (g_tup rfl (gs_cons (g_name (i := 2) nd) (gs_cons (g_name (i := 3) nd) (gs_cons (g_name (i := 4) nd) gs_nil))))) (ss_cons (s_set (i := 5) nd (e_op o_add (e_callTy c_list T.b_list (by decide +kernel) (a_cons (e_var 3) a_nil)) (e_lcG (own := [("_law_event", 6)]) (tt := vYes) (te := (vTup (vCons (vC (.str "")) (vCons (vVar 6) (vCons (vOp gAt (vVar 4) (vVar 6)) vNil))))) rfl nd (i_any (e_var 4)) (blkOk_by (N := ["_law_model_here", "_law_begin", "_law_marks", "_law_cords", "_law_caps", "_law_rows", "_law_event", "_law_found", "_law_turn", "_law_one", "_law_other", "_law_lag_here"]) (sc := defScope (topS 58)) (by decide +kernel)) (u_name 6 (fun _ _ _ _ _ => pg_name (i := 6) nd rfl (by first | exact Or.inl rfl | exact Or.inr rfl))) (fun j hj => hj) (fun _ _ _ _ _ => ts_nil) (fun _ _ _ _ _ => (e_tup (a_cons e_str (a_cons (e_var 6) (a_cons (e_at hr (e_var 4) (e_var 6)) a_nil)))))))) (ss_cons (s_set (i := 5) nd (e_op o_add (e_var 5) (e_lcG (own := [("_law_event", 6)]) (tt := vYes) (te := (vTup (vCons (vVar 6) (vCons (vC (.str "")) (vCons (vC (.int 0)) vNil))))) rfl nd (i_any (e_var 2)) (blkOk_by (N := ["_law_model_here", "_law_begin", "_law_marks", "_law_cords", "_law_caps", "_law_rows", "_law_event", "_law_found", "_law_turn", "_law_one", "_law_other", "_law_lag_here"]) (sc := defScope (topS 58)) (by decide +kernel)) (u_name 6 (fun _ _ _ _ _ => pg_name (i := 6) nd rfl (by first | exact Or.inl rfl | exact Or.inr rfl))) (fun j hj => hj) (fun _ _ _ _ _ => ts_nil) (fun _ _ _ _ _ => (e_tup (a_cons (e_var 6) (a_cons e_str (a_cons e_int a_nil)))))))) (ss_cons (s_set (i := 7) nd (e_dispT (ps3_cons (e_var 1) e_int ps3_nil))) (ss_cons (s_for PassesOwn.never rfl (i_range1 T.b_range (a_cons (e_op o_add (e_callB (c_len) T.b_len PySem.boot_len (a_cons (e_var 2) a_nil)) e_int) a_nil)) (g_name (i := 8) nd) (ss_one (s_for PassesOwn.never rfl (i_any (e_var 5)) (g_tup rfl (gs_cons (g_name (i := 9) nd) (gs_cons (g_name (i := 10) nd) (gs_cons (g_name (i := 11) nd) gs_nil)))) (ss_cons (s_if (t_cmp (o_notIn hr) (e_var 9) (e_var 7)) (ss_one s_cont) ss_nil) (ss_one (s_if (t_w (w_or (t_cmp (o_notIn hr) (e_var 10) (e_var 7)) (w_or1 (t_cmp o_lt (e_op o_add (e_at hr (e_var 7) (e_var 9)) (e_var 11)) (e_at hr (e_var 7) (e_var 10)))))) (ss_one (s_sub (st_any hr) (e_op o_add (e_at hr (e_var 7) (e_var 9)) (e_var 11)) (e_var 7) (e_var 10))) ss_nil)))))) (ss_one (s_ret (e_var 7))))))))
theorem sc__law_leads : FnScope ["_law_model_here", "_law_begin"] ["_law_model_here"] (defScope (topS 59)) := ⟨rfl, rfl, rfl, by decide +kernel, rfl, by decide +kernel, by decide +kernel⟩
theorem ok__law_leads {f : Addr} {fd : FuncData}  (T : Bl K mg) (c__law_far : Cal3 P w K mg base CX0 1 "_law_far" 2 [] (allPos 2) [] 2 (lift ⟨K, P, w⟩ 2 sp__law_far)) (F : Def3 K "_law_leads" "_law_leads" (topS 59) [] [] f fd) : FnG P w K mg base CX0 2 f fd ["_law_model_here"] (lift ⟨K, P, w⟩ 1 sp__law_leads) := by
  have nd := sc__law_leads.nd
  refine F.ok3 sc__law_leads fun cdv A outer s H E hr => ⟨t__law_leads, ?_, pure__law_leads⟩
  exact (ss_one (s_ret (e_callTy (c_dict (trk := false) rfl) T.b_dict (by decide +kernel) (a_cons (e_lcG (own := [("_law_begin", 1)]) (tt := vYes) (te := (vTup (vCons (vVar 1) (vCons (vCall 2 sp__law_far (vCons (vVar 0) (vCons (vVar 1) vNil))) vNil)))) rfl nd (i_any (e_op o_add (e_lst (a_cons e_str a_nil)) (e_at hr (e_var 0) e_int))) (blkOk_by (N := ["_law_model_here", "_law_begin"]) (sc := defScope (topS 59)) (by decide +kernel)) (u_name 1 (fun _ _ _ _ _ => pg_name (i := 1) nd rfl (by first | exact Or.inl rfl | exact Or.inr rfl))) (fun j hj => hj) (fun _ _ _ _ _ => ts_nil) (fun _ _ _ _ _ => (e_tup (a_cons (e_var 1) (a_cons (e_cal lf0 c__law_far hr (a_cons (e_var 0) (a_cons (e_var 1) a_nil))) a_nil))))) a_nil))))
theorem sc__law_least : FnScope ["_law_model_here", "_law_leads_here", "_law_event", "_law_count", "_law_one"] ["_law_model_here", "_law_leads_here", "_law_event", "_law_count"] (defScope (topS 60)) := ⟨rfl, rfl, rfl, by decide +kernel, rfl, by decide +kernel, by decide +kernel⟩
theorem ok__law_least {f : Addr} {fd : FuncData}  (T : Bl K mg)  (F : Def3 K "_law_least" "_law_least" (topS 60) [] [] f fd) : FnG P w K mg base CX0 1 f fd ["_law_model_here", "_law_leads_here", "_law_event", "_law_count"] (lift ⟨K, P, w⟩ 4 sp__law_least) := by
  have nd := sc__law_least.nd
  refine F.ok3 sc__law_least fun cdv A outer s H E hr => ⟨t__law_least, ?_, pure__law_least⟩
  exact (ss_one (s_ret (e_callTy (c_dict (trk := false) rfl) T.b_dict (by decide +kernel) (a_cons (e_lcG (own := [("_law_one", 4)]) (tt := vYes) (te := (vTup (vCons (vVar 4) (vCons (vCB gMax2 (vCons (vC (.int 0)) (vCons (vOp gSub (vVar 3) (vGet2 (vOp gAt (vVar 1) (vVar 4)) (vVar 2) (vVar 3))) vNil))) vNil)))) rfl nd (i_any (e_at hr (e_var 0) e_int)) (blkOk_by (N := ["_law_model_here", "_law_leads_here", "_law_event", "_law_count", "_law_one"]) (sc := defScope (topS 60)) (by decide +kernel)) (u_name 4 (fun _ _ _ _ _ => pg_name (i := 4) nd rfl (by first | exact Or.inl rfl | exact Or.inr rfl))) (fun j hj => hj) (fun _ _ _ _ _ => ts_nil) (fun _ _ _ _ _ => (e_tup (a_cons (e_var 4) (a_cons (e_callB (c_max2 rfl) T.b_max (by decide +kernel) (a_cons e_int (a_cons (e_op o_sub (e_var 3) (e_get2 hr (e_at hr (e_var 1) (e_var 4)) (e_var 2) (e_var 3))) a_nil))) a_nil))))) a_nil))))
theorem sc__law_breaches : FnScope ["_law_one", "_law_other", "_law_leads_here", "_law_found", "_law_begin", "_law_end", "_law_lag_here", "_law_event"] ["_law_one", "_law_other"] (defScope (topS 62)) := ⟨rfl, rfl, rfl, by decide +kernel, rfl, by decide +kernel, by decide +kernel⟩
theorem ok__law_breaches {f : Addr} {fd : FuncData}  (T : Bl K mg) (c__law_leads : Cal3 P w K mg base CX0 2 "_law_leads" 1 [] (allPos 1) [] 1 (lift ⟨K, P, w⟩ 1 sp__law_leads)) (c__law_least : Cal3 P w K mg base CX0 1 "_law_least" 4 [] (allPos 4) [] 4 (lift ⟨K, P, w⟩ 4 sp__law_least)) (F : Def3 K "_law_breaches" "_law_breaches" (topS 62) [] [] f fd) : FnG P w K mg base CX0 3 f fd ["_law_one", "_law_other"] (lift ⟨K, P, w⟩ 2 sp__law_breaches) := by
  have nd := sc__law_breaches.nd
  refine F.ok3 sc__law_breaches fun cdv A outer s H E hr => ⟨t__law_breaches, ?_, pure__law_breaches⟩
  exact (ss_cons (s_par2 (i := 2) (j := 3) rfl nd (a_cons (e_cal lf0 c__law_leads hr (a_cons (e_var 0) a_nil)) (a_cons (e_lstT a_nil) a_nil))) (ss_cons (s_for PassesOwn.never rfl (i_any (e_op o_add (e_callTy c_list T.b_list (by decide +kernel) (a_cons (e_at hr (e_var 1) e_int) a_nil)) (e_lcG (own := [("_law_event", 7)]) (tt := vYes) (te := (vTup (vCons (vC (.str "")) (vCons (vVar 7) (vCons (vOp gAt (vOp gAt (vVar 1) (vC (.int 2))) (vVar 7)) vNil))))) rfl nd (i_any (e_at hr (e_var 1) e_int)) (blkOk_by (N := ["_law_one", "_law_other", "_law_leads_here", "_law_found", "_law_begin", "_law_end", "_law_lag_here", "_law_event"]) (sc := defScope (topS 62)) (by decide +kernel)) (u_name 7 (fun _ _ _ _ _ => pg_name (i := 7) nd rfl (by first | exact Or.inl rfl | exact Or.inr rfl))) (fun j hj => hj) (fun _ _ _ _ _ => ts_nil) (fun _ _ _ _ _ => (e_tup (a_cons e_str (a_cons (e_var 7) (a_cons (e_at hr (e_at hr (e_var 1) e_int) (e_var 7)) a_nil)))))))) (g_tup rfl (gs_cons (g_name (i := 4) nd) (gs_cons (g_name (i := 5) nd) (gs_cons (g_name (i := 6) nd) gs_nil)))) (ss_one (s_if (t_w (w_or (t_cmp (o_notIn hr) (e_var 5) (e_at hr (e_var 2) (e_var 4))) (w_or1 (t_cmp o_gt (e_at hr (e_at hr (e_var 2) (e_var 4)) (e_var 5)) (e_var 6))))) (ss_one (s_expr (e_bm PySem.F.plainAttrs_list PySem.F.slot_list_append PySem.F.type_list_append m_append (e_var 3) (a_cons (e_cal lf0 c__law_least hr (a_cons (e_var 0) (a_cons (e_var 2) (a_cons (e_var 5) (a_cons (e_op o_add (e_var 6) e_int) a_nil))))) a_nil)))) ss_nil))) (ss_one (s_ret (e_var 3)))))
theorem sc__law_sum : FnScope ["_law_counts"] ["_law_counts"] (defScope (topS 63)) := ⟨rfl, rfl, rfl, by decide +kernel, rfl, by decide +kernel, by decide +kernel⟩
theorem ok__law_sum {f : Addr} {fd : FuncData}  (T : Bl K mg)  (F : Def3 K "_law_sum" "_law_sum" (topS 63) [] [] f fd) : FnG P w K mg base CX0 1 f fd ["_law_counts"] (lift ⟨K, P, w⟩ 1 sp__law_sum) := by
  have nd := sc__law_sum.nd
  refine F.ok3 sc__law_sum fun cdv A outer s H E hr => ⟨t__law_sum, ?_, pure__law_sum⟩
  exact (ss_one (s_ret (e_callB (c_sum rfl) T.b_sum (by decide +kernel) (a_cons (e_valL rfl T.b_list (e_var 0)) a_nil))))
theorem sc__law_is_moment : FnScope ["_law_model_here", "_law_counts", "_law_marks", "_law_cords", "_law_caps", "_law_event", "_law_tie"] ["_law_model_here", "_law_counts"] (defScope (topS 57)) := ⟨rfl, rfl, rfl, by decide +kernel, rfl, by decide +kernel, by decide +kernel⟩
theorem ok__law_is_moment {f : Addr} {fd : FuncData}  (T : Bl K mg)  (F : Def3 K "_law_is_moment" "_law_is_moment" (topS 57) [] [] f fd) : FnG P w K mg base CX0 1 f fd ["_law_model_here", "_law_counts"] (lift ⟨K, P, w⟩ 2 sp__law_is_moment) := by
  have nd := sc__law_is_moment.nd
  refine F.ok3 sc__law_is_moment fun cdv A outer s H E hr => ⟨t__law_is_moment, ?_, pure__law_is_moment⟩
  exact (ss_cons (s_asg (e_var 0) (g_tup rfl (gs_cons (g_name (i := 2) nd) (gs_cons (g_name (i := 3) nd) (gs_cons (g_name (i := 4) nd) gs_nil))))) (ss_cons (s_if (t_w (w_or (t_cmp (o_neX hr) (e_callB (c_sorted rfl) T.b_sorted (by decide +kernel) (a_cons (e_var 1) a_nil)) (e_callB (c_sorted rfl) T.b_sorted (by decide +kernel) (a_cons (e_var 2) a_nil))) (w_or1 (t_cmp o_lt (e_callB (c_min1 rfl) T.b_min (by decide +kernel) (a_cons (e_lcG (own := [("_law_event", 5)]) (tt := vYes) (te := (vOp gAt (vVar 1) (vVar 5))) rfl nd (i_any (e_var 2)) (blkOk_by (N := ["_law_model_here", "_law_counts", "_law_marks", "_law_cords", "_law_caps", "_law_event", "_law_tie"]) (sc := defScope (topS 57)) (by decide +kernel)) (u_name 5 (fun _ _ _ _ _ => pg_name (i := 5) nd rfl (by first | exact Or.inl rfl | exact Or.inr rfl))) (fun j hj => hj) (fun _ _ _ _ _ => ts_nil) (fun _ _ _ _ _ => (e_at hr (e_var 1) (e_var 5)))) a_nil)) e_int)))) (ss_one (s_ret e_bl)) ss_nil) (ss_cons (s_if (t_cmp (o_neX hr) (e_lcG (own := [("_law_event", 5)]) (tt := (vB (vOp gGt (vOp gAt (vVar 1) (vVar 5)) (vOp gAt (vVar 4) (vVar 5))))) (te := (vVar 5)) rfl nd (i_any (e_var 4)) (blkOk_by (N := ["_law_model_here", "_law_counts", "_law_marks", "_law_cords", "_law_caps", "_law_event", "_law_tie"]) (sc := defScope (topS 57)) (by decide +kernel)) (u_name 5 (fun _ _ _ _ _ => pg_name (i := 5) nd rfl (by first | exact Or.inl rfl | exact Or.inr rfl))) (fun j hj => hj) (fun _ _ _ _ _ => ts_one (t_cmp o_gt (e_at hr (e_var 1) (e_var 5)) (e_at hr (e_var 4) (e_var 5)))) (fun _ _ _ _ _ => (e_var 5))) (e_lst a_nil)) (ss_one (s_ret e_bl)) ss_nil) (ss_one (s_ret (e_cmp (o_eqX hr) (e_lcG (own := [("_law_tie", 6)]) (tt := (vB (vOp gGt (vOp gAt (vVar 1) (vOp gAt (vVar 6) (vC (.int 1)))) (vOp gAdd (vOp gAt (vVar 1) (vOp gAt (vVar 6) (vC (.int 0)))) (vOp gAt (vVar 6) (vC (.int 2))))))) (te := (vVar 6)) rfl nd (i_any (e_var 3)) (blkOk_by (N := ["_law_model_here", "_law_counts", "_law_marks", "_law_cords", "_law_caps", "_law_event", "_law_tie"]) (sc := defScope (topS 57)) (by decide +kernel)) (u_name 6 (fun _ _ _ _ _ => pg_name (i := 6) nd rfl (by first | exact Or.inl rfl | exact Or.inr rfl))) (fun j hj => hj) (fun _ _ _ _ _ => ts_one (t_cmp o_gt (e_at hr (e_var 1) (e_at hr (e_var 6) e_int)) (e_op o_add (e_at hr (e_var 1) (e_at hr (e_var 6) e_int)) (e_at hr (e_var 6) e_int)))) (fun _ _ _ _ _ => (e_var 6))) (e_lst a_nil)))))))
theorem sc__law_within_right : FnScope ["_law_one", "_law_other", "_law_told", "_law_totals", "_law_counts"] ["_law_one", "_law_other", "_law_told"] (defScope (topS 64)) := ⟨rfl, rfl, rfl, by decide +kernel, rfl, by decide +kernel, by decide +kernel⟩
theorem ok__law_within_right {f : Addr} {fd : FuncData}  (T : Bl K mg) (c__law_breaches : Cal3 P w K mg base CX0 3 "_law_breaches" 2 [] (allPos 2) [] 2 (lift ⟨K, P, w⟩ 2 sp__law_breaches)) (c__law_sum : Cal3 P w K mg base CX0 1 "_law_sum" 1 [] (allPos 1) [] 1 (lift ⟨K, P, w⟩ 1 sp__law_sum)) (c__law_is_moment : Cal3 P w K mg base CX0 1 "_law_is_moment" 2 [] (allPos 2) [] 2 (lift ⟨K, P, w⟩ 2 sp__law_is_moment)) (F : Def3 K "_law_within_right" "_law_within_right" (topS 64) [] [] f fd) : FnG P w K mg base CX0 4 f fd ["_law_one", "_law_other", "_law_told"] (lift ⟨K, P, w⟩ 3 sp__law_within_right) := by
  have nd := sc__law_within_right.nd
  refine F.ok3 sc__law_within_right fun cdv A outer s H E hr => ⟨t__law_within_right, ?_, pure__law_within_right⟩
  exact (ss_cons (s_lcG (j := 3) (own := [("_law_counts", 4)]) (tt := vYes) (te := (vCall 1 sp__law_sum (vCons (vVar 4) vNil))) rfl nd (i_any (e_cal lf0 c__law_breaches hr (a_cons (e_var 0) (a_cons (e_var 1) a_nil)))) (blkOk_by (N := ["_law_one", "_law_other", "_law_told", "_law_totals", "_law_counts"]) (sc := defScope (topS 64)) (by decide +kernel)) (u_name 4 (fun _ _ _ _ _ => pg_name (i := 4) nd rfl (by first | exact Or.inl rfl | exact Or.inr rfl))) (fun j hj => hj) (fun _ _ _ _ _ => ts_nil) (fun _ _ _ _ _ => (e_cal lf0 c__law_sum hr (a_cons (e_var 4) a_nil))) (sw_true rfl rfl rfl (by decide +kernel))) (ss_cons (s_if (t_w (w_or (t_cmp o_isN (e_var 2) e_non) (w_or1 (t_cmp (o_eqX hr) (e_var 3) (e_lst a_nil))))) (ss_one (s_ret (e_and (e_cmp o_isN (e_var 2) e_non) (e_one (e_cmp (o_eqX hr) (e_var 3) (e_lst a_nil)))))) ss_nil) (ss_one (s_ret (e_and (e_cal lf0 c__law_is_moment hr (a_cons (e_var 0) (a_cons (e_var 2) a_nil))) (e_and (e_not (e_cal lf0 c__law_is_moment hr (a_cons (e_var 1) (a_cons (e_var 2) a_nil)))) (e_one (e_cmp o_eqS (e_cal lf0 c__law_sum hr (a_cons (e_var 2) a_nil)) (e_callB (c_min1 rfl) T.b_min (by decide +kernel) (a_cons (e_var 3) a_nil))))))))))
theorem sc__law_alike_right : FnScope ["_law_one", "_law_other", "_law_told", "_law_first", "_law_counts", "_law_second", "_law_models"] ["_law_one", "_law_other", "_law_told"] (defScope (topS 65)) := ⟨rfl, rfl, rfl, by decide +kernel, rfl, by decide +kernel, by decide +kernel⟩
theorem ok__law_alike_right {f : Addr} {fd : FuncData}  (T : Bl K mg) (c__law_breaches : Cal3 P w K mg base CX0 3 "_law_breaches" 2 [] (allPos 2) [] 2 (lift ⟨K, P, w⟩ 2 sp__law_breaches)) (c__law_sum : Cal3 P w K mg base CX0 1 "_law_sum" 1 [] (allPos 1) [] 1 (lift ⟨K, P, w⟩ 1 sp__law_sum)) (c__law_is_moment : Cal3 P w K mg base CX0 1 "_law_is_moment" 2 [] (allPos 2) [] 2 (lift ⟨K, P, w⟩ 2 sp__law_is_moment)) (F : Def3 K "_law_alike_right" "_law_alike_right" (topS 65) [] [] f fd) : FnG P w K mg base CX0 4 f fd ["_law_one", "_law_other", "_law_told"] (lift ⟨K, P, w⟩ 3 sp__law_alike_right) := by
  have nd := sc__law_alike_right.nd
  refine F.ok3 sc__law_alike_right fun cdv A outer s H E hr => ⟨t__law_alike_right, ?_, pure__law_alike_right⟩
  exact (ss_cons (s_lcG (j := 3) (own := [("_law_counts", 4)]) (tt := vYes) (te := (vCall 1 sp__law_sum (vCons (vVar 4) vNil))) rfl nd (i_any (e_cal lf0 c__law_breaches hr (a_cons (e_var 0) (a_cons (e_var 1) a_nil)))) (blkOk_by (N := ["_law_one", "_law_other", "_law_told", "_law_first", "_law_counts", "_law_second", "_law_models"]) (sc := defScope (topS 65)) (by decide +kernel)) (u_name 4 (fun _ _ _ _ _ => pg_name (i := 4) nd rfl (by first | exact Or.inl rfl | exact Or.inr rfl))) (fun j hj => hj) (fun _ _ _ _ _ => ts_nil) (fun _ _ _ _ _ => (e_cal lf0 c__law_sum hr (a_cons (e_var 4) a_nil))) (sw_true rfl rfl rfl (by decide +kernel))) (ss_cons (s_lcG (j := 5) (own := [("_law_counts", 4)]) (tt := vYes) (te := (vCall 1 sp__law_sum (vCons (vVar 4) vNil))) rfl nd (i_any (e_cal lf0 c__law_breaches hr (a_cons (e_var 1) (a_cons (e_var 0) a_nil)))) (blkOk_by (N := ["_law_one", "_law_other", "_law_told", "_law_first", "_law_counts", "_law_second", "_law_models"]) (sc := defScope (topS 65)) (by decide +kernel)) (u_name 4 (fun _ _ _ _ _ => pg_name (i := 4) nd rfl (by first | exact Or.inl rfl | exact Or.inr rfl))) (fun j hj => hj) (fun _ _ _ _ _ => ts_nil) (fun _ _ _ _ _ => (e_cal lf0 c__law_sum hr (a_cons (e_var 4) a_nil))) (sw_true rfl rfl rfl (by decide +kernel))) (ss_cons (s_if (t_w (w_or (t_cmp o_isN (e_var 2) e_non) (w_or1 (t_cmp (o_eqX hr) (e_op o_add (e_var 3) (e_var 5)) (e_lst a_nil))))) (ss_one (s_ret (e_and (e_cmp o_isN (e_var 2) e_non) (e_one (e_cmp (o_eqX hr) (e_op o_add (e_var 3) (e_var 5)) (e_lst a_nil)))))) ss_nil) (ss_cons (s_if (t_w (w_or (t_not (t_val (e_callB c_isi T.b_isinstance (by decide +kernel) (a_cons (e_var 2) (a_cons (e_bty T.b_tuple (by decide +kernel)) a_nil))))) (w_or (t_cmp o_neS (e_callB (c_len) T.b_len PySem.boot_len (a_cons (e_var 2) a_nil)) e_int) (w_or1 (t_cmp (o_notIn hr) (e_callB (c_repr hr) T.b_repr (by decide +kernel) (a_cons (e_at hr (e_var 2) e_int) a_nil)) (e_tup (a_cons e_str (a_cons e_str a_nil)))))))) (ss_one (s_ret e_bl)) ss_nil) (ss_cons (s_set (i := 6) nd (e_step2 (e_lst (a_cons (e_var 0) (a_cons (e_var 1) a_nil))) (p_some (e_at hr (e_lst (a_cons e_int (a_cons (e_un u_neg e_int) a_nil))) (e_at hr (e_var 2) e_int))))) (ss_cons (s_if (t_w (w_or (t_not (t_val (e_cal lf0 c__law_is_moment hr (a_cons (e_at hr (e_var 6) e_int) (a_cons (e_at hr (e_var 2) e_int) a_nil))))) (w_or1 (t_val (e_cal lf0 c__law_is_moment hr (a_cons (e_at hr (e_var 6) e_int) (a_cons (e_at hr (e_var 2) e_int) a_nil))))))) (ss_one (s_ret e_bl)) ss_nil) (ss_one (s_ret (e_cmp o_eqS (e_cal lf0 c__law_sum hr (a_cons (e_at hr (e_var 2) e_int) a_nil)) (e_callB (c_min1 rfl) T.b_min (by decide +kernel) (a_cons (e_op o_add (e_var 3) (e_var 5)) a_nil)))))))))))
theorem sc__law_right : FnScope ["_law_one", "_law_other", "_law_first", "_law_second", "_law_turn", "_law_found", "_law_pairs", "_law_counts", "_law_pair"] ["_law_one", "_law_other"] (defScope (topS 66)) := ⟨rfl, rfl, rfl, by decide +kernel, rfl, by decide +kernel, by decide +kernel⟩
theorem ok__law_right {f : Addr} {fd : FuncData}  (T : Bl K mg) (c__law_plan : Cal3 P w K mg base CX0 6 "_law_plan" 1 [] (allPos 1) [] 1 (lift ⟨K, P, w⟩ 1 sp__law_plan)) (c_within : Cal3 P w K mg base CX0 6 "within" 2 [] (allPos 2) [] 2 (lift ⟨K, P, w⟩ 2 spk_within)) (c_alike : Cal3 P w K mg base CX0 7 "alike" 2 [] (allPos 2) [] 2 (lift ⟨K, P, w⟩ 2 spk_alike)) (c__law_within_right : Cal3 P w K mg base CX0 4 "_law_within_right" 3 [] (allPos 3) [] 3 (lift ⟨K, P, w⟩ 3 sp__law_within_right)) (c__law_alike_right : Cal3 P w K mg base CX0 4 "_law_alike_right" 3 [] (allPos 3) [] 3 (lift ⟨K, P, w⟩ 3 sp__law_alike_right)) (F : Def3 K "_law_right" "_law_right" (topS 66) [] [] f fd) : FnG P w K mg base CX0 8 f fd ["_law_one", "_law_other"] (lift ⟨K, P, w⟩ 2 sp__law_right) := by
  have nd := sc__law_right.nd
  refine F.ok3 sc__law_right fun cdv A outer s H E hr => ⟨t__law_right, ?_, pure__law_right⟩
  exact (ss_cons (s_par2 (i := 2) (j := 3) rfl nd (a_cons (e_cal lf0 c__law_plan hr (a_cons (e_var 0) a_nil)) (a_cons (e_cal lf0 c__law_plan hr (a_cons (e_var 1) a_nil)) a_nil))) (ss_cons (s_for PassesOwn.never rfl (i_range1 T.b_range (a_cons e_int a_nil)) (g_name (i := 4) nd) (ss_cons (s_set (i := 5) nd (e_lst (a_cons (e_cal lf0 c_within hr (a_cons (e_var 2) (a_cons (e_var 3) a_nil))) (a_cons (e_cal lf0 c_within hr (a_cons (e_var 3) (a_cons (e_var 2) a_nil))) a_nil)))) (ss_cons (s_set (i := 6) nd (e_lst (a_cons (e_cal lf0 c_alike hr (a_cons (e_var 2) (a_cons (e_var 3) a_nil))) (a_cons (e_cal lf0 c_alike hr (a_cons (e_var 3) (a_cons (e_var 2) a_nil))) a_nil)))) (ss_cons (s_if (t_w (w_or (t_not (t_val (e_cal lf0 c__law_within_right hr (a_cons (e_var 0) (a_cons (e_var 1) (a_cons (e_at hr (e_var 5) e_int) a_nil)))))) (w_or1 (t_not (t_val (e_cal lf0 c__law_within_right hr (a_cons (e_var 1) (a_cons (e_var 0) (a_cons (e_at hr (e_var 5) e_int) a_nil))))))))) (ss_one (s_ret e_bl)) ss_nil) (ss_cons (s_if (t_w (w_or (t_not (t_val (e_cal lf0 c__law_alike_right hr (a_cons (e_var 0) (a_cons (e_var 1) (a_cons (e_at hr (e_var 6) e_int) a_nil)))))) (w_or1 (t_not (t_val (e_cal lf0 c__law_alike_right hr (a_cons (e_var 1) (a_cons (e_var 0) (a_cons (e_at hr (e_var 6) e_int) a_nil))))))))) (ss_one (s_ret e_bl)) ss_nil) (ss_one (s_for PassesOwn.never rfl (i_any (e_op o_add (e_var 5) (e_lcG (own := [("_law_pair", 8)]) (tt := (vB (vOp gNotN (vVar 8) (vC .non)))) (te := (vOp gAt (vVar 8) (vC (.int 0)))) rfl nd (i_any (e_var 6)) (blkOk_by (N := ["_law_one", "_law_other", "_law_first", "_law_second", "_law_turn", "_law_found", "_law_pairs", "_law_counts", "_law_pair"]) (sc := defScope (topS 66)) (by decide +kernel)) (u_name 8 (fun _ _ _ _ _ => pg_name (i := 8) nd rfl (by first | exact Or.inl rfl | exact Or.inr rfl))) (fun j hj => hj) (fun _ _ _ _ _ => ts_one (t_cmp o_notN (e_var 8) e_non)) (fun _ _ _ _ _ => (e_at hr (e_var 8) e_int))))) (g_name (i := 7) nd) (ss_one (s_if (t_cmp o_notN (e_var 7) e_non) (ss_one (s_expr (e_bm0 PySem.F.plainAttrs_dict PySem.F.slot_dict_clear PySem.F.type_dict_clear m_dclear (e_var 7)))) ss_nil))))))))) (ss_one (s_ret (e_and (e_cmp o_isN (e_cal lf0 c_alike hr (a_cons (e_var 2) (a_cons (e_var 2) a_nil))) e_non) (e_one (e_cmp o_isN (e_cal lf0 c_within hr (a_cons (e_var 2) (a_cons (e_var 2) a_nil))) e_non)))))))
theorem sc__law_near : FnScope ["_law_box_here", "_law_model_here", "_law_marks", "_law_cords", "_law_caps", "_law_turn", "_law_way", "_law_at", "_law_one", "_law_other", "_law_lag_here", "_law_tie", "_law_event"] ["_law_box_here", "_law_model_here"] (defScope (topS 61)) := ⟨rfl, rfl, rfl, by decide +kernel, rfl, by decide +kernel, by decide +kernel⟩
theorem ok__law_near {f : Addr} {fd : FuncData}  (T : Bl K mg) (c__law_take : Cal3 P w K mg base CX0 1 "_law_take" 2 [] (allPos 2) [] 2 (lift ⟨K, P, w⟩ 2 sp__law_take)) (c__law_lag : Cal3 P w K mg base CX0 2 "_law_lag" 1 [] (allPos 1) [] 1 (lift ⟨K, P, w⟩ 1 sp__law_lag)) (F : Def3 K "_law_near" "_law_near" (topS 61) [] [] f fd) : FnG P w K mg base CX0 3 f fd ["_law_box_here", "_law_model_here"] (lift ⟨K, P, w⟩ 2 sp__law_near) := by
  have nd := sc__law_near.nd
  refine F.ok3 sc__law_near fun cdv A outer s H E hr => ⟨t__law_near, ?_, pure__law_near⟩
  exact (ss_cons (s_asg (e_var 1) (g_tup rfl (gs_cons (g_name (i := 2) nd) (gs_cons (g_name (i := 3) nd) (gs_cons (g_name (i := 4) nd) gs_nil))))) (ss_cons (s_for PassesOwn.never rfl (i_range1 T.b_range (a_cons (e_op o_add e_int (e_cal lf0 c__law_take hr (a_cons (e_var 0) (a_cons e_int a_nil)))) a_nil)) (g_name (i := 5) nd) (ss_cons (s_set (i := 6) nd (e_cal lf0 c__law_take hr (a_cons (e_var 0) (a_cons e_int a_nil)))) (ss_cons (s_set (i := 7) nd (e_cal lf0 c__law_take hr (a_cons (e_var 0) (a_cons (e_op o_add (e_callB (c_len) T.b_len PySem.boot_len (a_cons (e_var 3) a_nil)) e_int) a_nil)))) (ss_cons (s_if (t_w (w_and (t_cmp o_lt (e_var 6) e_int) (w_and1 (t_cmp o_lt (e_var 7) (e_callB (c_len) T.b_len PySem.boot_len (a_cons (e_var 3) a_nil)))))) (ss_cons (s_asg (e_at hr (e_var 3) (e_var 7)) (g_tup rfl (gs_cons (g_name (i := 8) nd) (gs_cons (g_name (i := 9) nd) (gs_cons (g_name (i := 10) nd) gs_nil))))) (ss_one (s_set (i := 3) nd (e_op o_add (e_op o_add (e_slice (e_var 3) p_none (p_some (e_var 7))) (e_op (o_rep (tr := false)) (e_lst (a_cons (e_tup (a_cons (e_var 8) (a_cons (e_var 9) (a_cons (e_at hr (e_lst (a_cons (e_op o_add (e_var 10) e_int) (a_cons (e_callB (c_max2 rfl) T.b_max (by decide +kernel) (a_cons e_int (a_cons (e_op o_sub (e_var 10) e_int) a_nil))) a_nil))) (e_var 6)) a_nil)))) a_nil)) (e_cal lf0 c__law_take hr (a_cons (e_var 0) (a_cons e_int a_nil))))) (e_slice (e_var 3) (p_some (e_op o_add (e_var 7) e_int)) p_none))))) ss_nil) (ss_cons (s_if (t_cmp (o_in hr) (e_var 6) (e_tup (a_cons e_int (a_cons e_int a_nil)))) (ss_cons (s_set (i := 11) nd (e_tup (a_cons (e_at hr (e_var 2) (e_cal lf0 c__law_take hr (a_cons (e_var 0) (a_cons (e_callB (c_len) T.b_len PySem.boot_len (a_cons (e_var 2) a_nil)) a_nil)))) (a_cons (e_at hr (e_var 2) (e_op o_mod (e_var 7) (e_callB (c_len) T.b_len PySem.boot_len (a_cons (e_var 2) a_nil)))) (a_cons (e_op o_add e_int (e_cal lf0 c__law_lag hr (a_cons (e_var 0) a_nil))) a_nil))))) (ss_one (s_set (i := 3) nd (e_op o_add (e_op o_add (e_slice (e_var 3) p_none (p_some (e_var 7))) (e_lst (a_cons (e_var 11) a_nil))) (e_slice (e_var 3) (p_some (e_var 7)) p_none))))) ss_nil) (ss_cons (s_if (t_cmp o_eqS (e_var 6) e_int) (ss_one (s_set (i := 4) nd (e_callTy (c_dict (trk := false) rfl) T.b_dict (by decide +kernel) (a_cons (e_lcG (own := [("_law_event", 12)]) (tt := (vB (vOp gEqS (vCall 2 sp__law_take (vCons (vVar 0) (vCons (vC (.int 2)) vNil))) (vC (.int 0))))) (te := (vTup (vCons (vVar 12) (vCons (vOp gAt (vVar 4) (vVar 12)) vNil)))) rfl nd (i_any (e_var 4)) (blkOk_by (N := ["_law_box_here", "_law_model_here", "_law_marks", "_law_cords", "_law_caps", "_law_turn", "_law_way", "_law_at", "_law_one", "_law_other", "_law_lag_here", "_law_tie", "_law_event"]) (sc := defScope (topS 61)) (by decide +kernel)) (u_name 12 (fun _ _ _ _ _ => pg_name (i := 12) nd rfl (by first | exact Or.inl rfl | exact Or.inr rfl))) (fun j hj => hj) (fun _ _ _ _ _ => ts_one (t_cmp o_eqS (e_cal lf0 c__law_take hr (a_cons (e_var 0) (a_cons e_int a_nil))) e_int)) (fun _ _ _ _ _ => (e_tup (a_cons (e_var 12) (a_cons (e_at hr (e_var 4) (e_var 12)) a_nil))))) a_nil)))) ss_nil) (ss_one (s_if (t_cmp o_eqS (e_var 6) e_int) (ss_one (s_set (i := 4) nd (e_callTy (c_dict (trk := false) rfl) T.b_dict (by decide +kernel) (a_cons (e_op o_add (e_items rfl T.b_list (e_var 4)) (e_lst (a_cons (e_tup (a_cons (e_at hr (e_var 2) (e_op o_mod (e_var 7) (e_callB (c_len) T.b_len PySem.boot_len (a_cons (e_var 2) a_nil)))) (a_cons (e_cal lf0 c__law_take hr (a_cons (e_var 0) (a_cons e_int a_nil))) a_nil))) a_nil))) a_nil)))) ss_nil)))))))) (ss_one (s_ret (e_lst (a_cons (e_var 2) (a_cons (e_var 3) (a_cons (e_var 4) a_nil))))))))
theorem sc__law_small : FnScope ["_law_box_here", "_law_many", "_law_marks", "_law_cords", "_law_caps", "_law_one", "_law_other", "_law_lag_here", "_law_event"] ["_law_box_here", "_law_many"] (defScope (topS 55)) := ⟨rfl, rfl, rfl, by decide +kernel, rfl, by decide +kernel, by decide +kernel⟩
theorem ok__law_small {f : Addr} {fd : FuncData}  (T : Bl K mg) (c__law_model : Cal3 P w K mg base CX0 3 "_law_model" 3 [] (allPos 3) [] 3 (lift ⟨K, P, w⟩ 3 sp__law_model)) (F : Def3 K "_law_small" "_law_small" (topS 55) [] [] f fd) : FnG P w K mg base CX0 4 f fd ["_law_box_here", "_law_many"] (lift ⟨K, P, w⟩ 2 spk__law_small) := by
  have nd := sc__law_small.nd
  refine F.ok3 sc__law_small fun cdv A outer s H E hr => ⟨tk__law_small, ?_, purek__law_small⟩
  exact (ss_cons (s_asg (e_cal lf0 c__law_model hr (a_cons (e_var 0) (a_cons (e_var 1) (a_cons (e_op o_mul e_int (e_var 1)) a_nil)))) (g_tup rfl (gs_cons (g_name (i := 2) nd) (gs_cons (g_name (i := 3) nd) (gs_cons (g_name (i := 4) nd) gs_nil))))) (ss_cons (s_lcG (j := 3) (own := [("_law_one", 5), ("_law_other", 6), ("_law_lag_here", 7)]) (tt := vYes) (te := (vTup (vCons (vVar 5) (vCons (vVar 6) (vCons (vIf (vB (vOp gLt (vVar 7) (vC (.int 3)))) (vVar 7) (vC (.int 2))) vNil))))) rfl nd (i_any (e_var 3)) (blkOk_by (N := ["_law_box_here", "_law_many", "_law_marks", "_law_cords", "_law_caps", "_law_one", "_law_other", "_law_lag_here", "_law_event"]) (sc := defScope (topS 55)) (by decide +kernel)) (u_tup rfl (us_cons (u_name 5 (fun _ _ _ _ _ => pg_name (i := 5) nd rfl (by first | exact Or.inl rfl | exact Or.inr rfl))) (us_cons (u_name 6 (fun _ _ _ _ _ => pg_name (i := 6) nd rfl (by first | exact Or.inl rfl | exact Or.inr rfl))) (us_cons (u_name 7 (fun _ _ _ _ _ => pg_name (i := 7) nd rfl (by first | exact Or.inl rfl | exact Or.inr rfl))) us_nil)))) (fun j hj => hj) (fun _ _ _ _ _ => ts_nil) (fun _ _ _ _ _ => (e_tup (a_cons (e_var 5) (a_cons (e_var 6) (a_cons (e_if (t_cmp o_lt (e_var 7) e_int) (e_var 7) e_int) a_nil))))) (sw_true rfl rfl rfl (by decide +kernel))) (ss_one (s_ret (e_lst (a_cons (e_var 2) (a_cons (e_var 3) (a_cons (e_callTy (c_dict (trk := false) rfl) T.b_dict (by decide +kernel) (a_cons (e_lcG (own := [("_law_event", 8)]) (tt := vYes) (te := (vTup (vCons (vVar 8) (vCons (vCB gMin2 (vCons (vC (.int 3)) (vCons (vOp gAt (vVar 4) (vVar 8)) vNil))) vNil)))) rfl nd (i_any (e_var 4)) (blkOk_by (N := ["_law_box_here", "_law_many", "_law_marks", "_law_cords", "_law_caps", "_law_one", "_law_other", "_law_lag_here", "_law_event"]) (sc := defScope (topS 55)) (by decide +kernel)) (u_name 8 (fun _ _ _ _ _ => pg_name (i := 8) nd rfl (by first | exact Or.inl rfl | exact Or.inr rfl))) (fun j hj => hj) (fun _ _ _ _ _ => ts_nil) (fun _ _ _ _ _ => (e_tup (a_cons (e_var 8) (a_cons (e_callB (c_min2 rfl) T.b_min (by decide +kernel) (a_cons e_int (a_cons (e_at hr (e_var 4) (e_var 8)) a_nil))) a_nil))))) a_nil)) a_nil))))))))
theorem sc__law_moments : FnScope ["_law_model_here", "_law_top", "_law_marks", "_law_cords", "_law_caps", "_law_rows", "_law_event", "_law_longer", "_law_row", "_law_count", "_law_found", "_law_counts"] ["_law_model_here", "_law_top"] (defScope (topS 56)) := ⟨rfl, rfl, rfl, by decide +kernel, rfl, by decide +kernel, by decide +kernel⟩
theorem ok__law_moments {f : Addr} {fd : FuncData}  (T : Bl K mg) (c__law_is_moment : Cal3 P w K mg base CX0 1 "_law_is_moment" 2 [] (allPos 2) [] 2 (lift ⟨K, P, w⟩ 2 sp__law_is_moment)) (F : Def3 K "_law_moments" "_law_moments" (topS 56) [] [] f fd) : FnG P w K mg base CX0 2 f fd ["_law_model_here", "_law_top"] (lift ⟨K, P, w⟩ 2 sp__law_moments) := by
  have nd := sc__law_moments.nd
  refine F.ok3 sc__law_moments fun cdv A outer s H E hr => ⟨t__law_moments, ?_, pure__law_moments⟩
  exact (ss_cons (s_asg (e_var 0) (g_tup rfl (gs_cons (g_name (i := 2) nd) (gs_cons (g_name (i := 3) nd) (gs_cons (g_name (i := 4) nd) gs_nil))))) (ss_cons (s_set (i := 5) nd (e_lst (a_cons (e_tup a_nil) a_nil))) (ss_cons (s_for PassesOwn.never rfl (i_any (e_var 2)) (g_name (i := 6) nd) (ss_cons (s_set (i := 7) nd (e_lstT a_nil)) (ss_cons (s_for PassesOwn.never rfl (i_any (e_var 5)) (g_name (i := 8) nd) (ss_one (s_expr (e_bm PySem.F.plainAttrs_list PySem.F.slot_list_extend PySem.F.type_list_extend m_extend (e_var 7) (a_cons (e_lcG (own := [("_law_count", 9)]) (tt := vYes) (te := (vOp gAdd (vVar 8) (vTup (vCons (vVar 9) vNil)))) rfl nd (i_range1 T.b_range (a_cons (e_op o_add (e_callB (c_min2 rfl) T.b_min (by decide +kernel) (a_cons (e_var 1) (a_cons (e_get2 hr (e_var 4) (e_var 6) (e_var 1)) a_nil))) e_int) a_nil)) (blkOk_by (N := ["_law_model_here", "_law_top", "_law_marks", "_law_cords", "_law_caps", "_law_rows", "_law_event", "_law_longer", "_law_row", "_law_count", "_law_found", "_law_counts"]) (sc := defScope (topS 56)) (by decide +kernel)) (u_name 9 (fun _ _ _ _ _ => pg_name (i := 9) nd rfl (by first | exact Or.inl rfl | exact Or.inr rfl))) (fun j hj => hj) (fun _ _ _ _ _ => ts_nil) (fun _ _ _ _ _ => (e_op o_add (e_var 8) (e_tup (a_cons (e_var 9) a_nil))))) a_nil))))) (ss_one (s_set (i := 5) nd (e_var 7)))))) (ss_cons (s_set (i := 10) nd (e_lstT a_nil)) (ss_cons (s_for PassesOwn.never rfl (i_any (e_var 5)) (g_name (i := 8) nd) (ss_cons (s_set (i := 11) nd (e_dzip (trk := false) rfl T.b_dict T.b_zip (a_cons (e_var 2) (a_cons (e_var 8) a_nil)))) (ss_one (s_if (t_val (e_cal lf0 c__law_is_moment hr (a_cons (e_var 0) (a_cons (e_var 11) a_nil)))) (ss_one (s_expr (e_bm PySem.F.plainAttrs_list PySem.F.slot_list_append PySem.F.type_list_append m_append (e_var 10) (a_cons (e_var 11) a_nil)))) ss_nil)))) (ss_one (s_ret (e_var 10))))))))
theorem sc__law_small_right : FnScope ["_law_one", "_law_other", "_law_first", "_law_counts", "_law_told"] ["_law_one", "_law_other"] (defScope (topS 67)) := ⟨rfl, rfl, rfl, by decide +kernel, rfl, by decide +kernel, by decide +kernel⟩
theorem ok__law_small_right {f : Addr} {fd : FuncData}  (T : Bl K mg) (c__law_moments : Cal3 P w K mg base CX0 2 "_law_moments" 2 [] (allPos 2) [] 2 (lift ⟨K, P, w⟩ 2 sp__law_moments)) (c__law_is_moment : Cal3 P w K mg base CX0 1 "_law_is_moment" 2 [] (allPos 2) [] 2 (lift ⟨K, P, w⟩ 2 sp__law_is_moment)) (c_within : Cal3 P w K mg base CX0 6 "within" 2 [] (allPos 2) [] 2 (lift ⟨K, P, w⟩ 2 spk_within)) (c__law_plan : Cal3 P w K mg base CX0 6 "_law_plan" 1 [] (allPos 1) [] 1 (lift ⟨K, P, w⟩ 1 sp__law_plan)) (c__law_sum : Cal3 P w K mg base CX0 1 "_law_sum" 1 [] (allPos 1) [] 1 (lift ⟨K, P, w⟩ 1 sp__law_sum)) (F : Def3 K "_law_small_right" "_law_small_right" (topS 67) [] [] f fd) : FnG P w K mg base CX0 7 f fd ["_law_one", "_law_other"] (lift ⟨K, P, w⟩ 2 sp__law_small_right) := by
  have nd := sc__law_small_right.nd
  refine F.ok3 sc__law_small_right fun cdv A outer s H E hr => ⟨t__law_small_right, ?_, pure__law_small_right⟩
  exact (ss_cons (s_lcG (j := 2) (own := [("_law_counts", 3)]) (tt := (vNot (vB (vCall 2 sp__law_is_moment (vCons (vVar 1) (vCons (vVar 3) vNil)))))) (te := (vVar 3)) rfl nd (i_any (e_cal lf0 c__law_moments hr (a_cons (e_var 0) (a_cons e_int a_nil)))) (blkOk_by (N := ["_law_one", "_law_other", "_law_first", "_law_counts", "_law_told"]) (sc := defScope (topS 67)) (by decide +kernel)) (u_name 3 (fun _ _ _ _ _ => pg_name (i := 3) nd rfl (by first | exact Or.inl rfl | exact Or.inr rfl))) (fun j hj => hj) (fun _ _ _ _ _ => ts_one (t_not (t_val (e_cal lf0 c__law_is_moment hr (a_cons (e_var 1) (a_cons (e_var 3) a_nil)))))) (fun _ _ _ _ _ => (e_var 3)) (sw_true rfl rfl rfl (by decide +kernel))) (ss_cons (s_set (i := 4) nd (e_cal lf0 c_within hr (a_cons (e_cal lf0 c__law_plan hr (a_cons (e_var 0) a_nil)) (a_cons (e_cal lf0 c__law_plan hr (a_cons (e_var 1) a_nil)) a_nil)))) (ss_cons (s_if (t_w (w_or (t_cmp o_isN (e_var 4) e_non) (w_or1 (t_cmp (o_eqX hr) (e_var 2) (e_lst a_nil))))) (ss_one (s_ret (e_and (e_cmp o_isN (e_var 4) e_non) (e_one (e_cmp (o_eqX hr) (e_var 2) (e_lst a_nil)))))) ss_nil) (ss_one (s_ret (e_and (e_cmp (o_inK hr) (e_var 4) (e_var 2)) (e_one (e_cmp o_eqS (e_cal lf0 c__law_sum hr (a_cons (e_var 4) a_nil)) (e_callB (c_min1 rfl) T.b_min (by decide +kernel) (a_cons (e_lcG (own := [("_law_counts", 3)]) (tt := vYes) (te := (vCall 1 sp__law_sum (vCons (vVar 3) vNil))) rfl nd (i_any (e_var 2)) (blkOk_by (N := ["_law_one", "_law_other", "_law_first", "_law_counts", "_law_told"]) (sc := defScope (topS 67)) (by decide +kernel)) (u_name 3 (fun _ _ _ _ _ => pg_name (i := 3) nd rfl (by first | exact Or.inl rfl | exact Or.inr rfl))) (fun j hj => hj) (fun _ _ _ _ _ => ts_nil) (fun _ _ _ _ _ => (e_cal lf0 c__law_sum hr (a_cons (e_var 3) a_nil)))) a_nil))))))))))
theorem sc_law : FnScope ["_law_script", "_law_k", "_law_box_here", "_law_one", "_law_little", "_law_near_here", "_law_begin", "_law_end", "_law_lag_here", "_law_event"] ["_law_script"] (defScope (topS 68)) := ⟨rfl, rfl, rfl, by decide +kernel, rfl, by decide +kernel, by decide +kernel⟩
theorem ok_law {f : Addr} {fd : FuncData}  (T : Bl K mg) (c__law_box : Cal3 P w K mg base CX0 1 "_law_box" 1 [] (allPos 1) [] 1 (lift ⟨K, P, w⟩ 1 sp__law_box)) (c__law_cell : Cal3 P w K mg base CX0 1 "_law_cell" 2 [] (allPos 2) [] 2 (lift ⟨K, P, w⟩ 2 sp__law_cell)) (c__law_model : Cal3 P w K mg base CX0 3 "_law_model" 3 [] (allPos 3) [] 3 (lift ⟨K, P, w⟩ 3 sp__law_model)) (c__law_take : Cal3 P w K mg base CX0 1 "_law_take" 2 [] (allPos 2) [] 2 (lift ⟨K, P, w⟩ 2 sp__law_take)) (c__law_right : Cal3 P w K mg base CX0 8 "_law_right" 2 [] (allPos 2) [] 2 (lift ⟨K, P, w⟩ 2 sp__law_right)) (c__law_near : Cal3 P w K mg base CX0 3 "_law_near" 2 [] (allPos 2) [] 2 (lift ⟨K, P, w⟩ 2 sp__law_near)) (c__law_small : Cal3 P w K mg base CX0 4 "_law_small" 2 [] (allPos 2) [] 2 (lift ⟨K, P, w⟩ 2 spk__law_small)) (c__law_small_right : Cal3 P w K mg base CX0 7 "_law_small_right" 2 [] (allPos 2) [] 2 (lift ⟨K, P, w⟩ 2 sp__law_small_right)) (F : Def3 K "law" "law" (topS 68) [] [] f fd) : FnG P w K mg base CX0 9 f fd ["_law_script"] (lift ⟨K, P, w⟩ 1 sp_law) := by
  have nd := sc_law.nd
  refine F.ok3 sc_law fun cdv A outer s H E hr => ⟨t_law, ?_, pure_law⟩
  exact (ss_cons (s_for PassesOwn.never rfl (i_range1 T.b_range (a_cons (e_callB (c_max2 rfl) T.b_max (by decide +kernel) (a_cons e_int (a_cons (e_callB (c_min2 rfl) T.b_min (by decide +kernel) (a_cons e_int (a_cons (e_callB (c_len) T.b_len PySem.boot_len (a_cons (e_var 0) a_nil)) a_nil))) a_nil))) a_nil)) (g_name (i := 1) nd) (ss_cons (s_set (i := 2) nd (e_cal lf0 c__law_box hr (a_cons (e_cal lf0 c__law_cell hr (a_cons (e_var 0) (a_cons (e_var 1) a_nil))) a_nil))) (ss_cons (s_set (i := 3) nd (e_cal lf0 c__law_model hr (a_cons (e_var 2) (a_cons (e_op o_add e_int (e_cal lf0 c__law_take hr (a_cons (e_var 2) (a_cons e_int a_nil)))) (a_cons (e_at hr (e_lst (a_cons e_int (a_cons e_int (a_cons e_int a_nil)))) (e_cal lf0 c__law_take hr (a_cons (e_var 2) (a_cons e_int a_nil)))) a_nil))))) (ss_cons (s_if (t_not (t_val (e_cal lf0 c__law_right hr (a_cons (e_var 3) (a_cons (e_cal lf0 c__law_near hr (a_cons (e_var 2) (a_cons (e_var 3) a_nil))) a_nil))))) (ss_one (s_ret e_bl)) ss_nil) (ss_cons (s_set (i := 4) nd (e_cal lf0 c__law_small hr (a_cons (e_var 2) (a_cons (e_op o_add e_int (e_cal lf0 c__law_take hr (a_cons (e_var 2) (a_cons e_int a_nil)))) a_nil)))) (ss_cons (s_set (i := 5) nd (e_cal lf0 c__law_near hr (a_cons (e_var 2) (a_cons (e_var 4) a_nil)))) (ss_cons (s_set (i := 5) nd (e_lstT (a_cons (e_at hr (e_var 5) e_int) (a_cons (e_lcG (own := [("_law_begin", 6), ("_law_end", 7), ("_law_lag_here", 8)]) (tt := vYes) (te := (vTup (vCons (vVar 6) (vCons (vVar 7) (vCons (vCB gMin2 (vCons (vC (.int 3)) (vCons (vVar 8) vNil))) vNil))))) rfl nd (i_any (e_at hr (e_var 5) e_int)) (blkOk_by (N := ["_law_script", "_law_k", "_law_box_here", "_law_one", "_law_little", "_law_near_here", "_law_begin", "_law_end", "_law_lag_here", "_law_event"]) (sc := defScope (topS 68)) (by decide +kernel)) (u_tup rfl (us_cons (u_name 6 (fun _ _ _ _ _ => pg_name (i := 6) nd rfl (by first | exact Or.inl rfl | exact Or.inr rfl))) (us_cons (u_name 7 (fun _ _ _ _ _ => pg_name (i := 7) nd rfl (by first | exact Or.inl rfl | exact Or.inr rfl))) (us_cons (u_name 8 (fun _ _ _ _ _ => pg_name (i := 8) nd rfl (by first | exact Or.inl rfl | exact Or.inr rfl))) us_nil)))) (fun j hj => hj) (fun _ _ _ _ _ => ts_nil) (fun _ _ _ _ _ => (e_tup (a_cons (e_var 6) (a_cons (e_var 7) (a_cons (e_callB (c_min2 rfl) T.b_min (by decide +kernel) (a_cons e_int (a_cons (e_var 8) a_nil))) a_nil)))))) (a_cons (e_at hr (e_var 5) e_int) a_nil))))) (ss_cons (s_sub (st_any hr) (e_callTy (c_dict (trk := false) rfl) T.b_dict (by decide +kernel) (a_cons (e_lcG (own := [("_law_event", 9)]) (tt := vYes) (te := (vTup (vCons (vVar 9) (vCons (vCB gMin2 (vCons (vC (.int 4)) (vCons (vOp gAt (vOp gAt (vVar 5) (vC (.int 2))) (vVar 9)) vNil))) vNil)))) rfl nd (i_any (e_at hr (e_var 5) e_int)) (blkOk_by (N := ["_law_script", "_law_k", "_law_box_here", "_law_one", "_law_little", "_law_near_here", "_law_begin", "_law_end", "_law_lag_here", "_law_event"]) (sc := defScope (topS 68)) (by decide +kernel)) (u_name 9 (fun _ _ _ _ _ => pg_name (i := 9) nd rfl (by first | exact Or.inl rfl | exact Or.inr rfl))) (fun j hj => hj) (fun _ _ _ _ _ => ts_nil) (fun _ _ _ _ _ => (e_tup (a_cons (e_var 9) (a_cons (e_callB (c_min2 rfl) T.b_min (by decide +kernel) (a_cons e_int (a_cons (e_at hr (e_at hr (e_var 5) e_int) (e_var 9)) a_nil))) a_nil))))) a_nil)) (e_var 5) e_int) (ss_frz (ss_one (s_if (t_w (w_or (t_not (t_val (e_cal lf0 c__law_small_right hr (a_cons (e_var 4) (a_cons (e_var 5) a_nil))))) (w_or1 (t_not (t_val (e_cal lf0 c__law_small_right hr (a_cons (e_var 5) (a_cons (e_var 4) a_nil)))))))) (ss_one (s_ret e_bl)) ss_nil))))))))))) (ss_one (s_ret e_bl)))
end
theorem all_mk {l : PySem.W.OpenLaw} {w : World} {K : PySem.W.Frag} {h : Heap} {mg : Str → Option Value} {fa C_Plan C_Table f0 f1 f2 f3 f4 f5 f6 f7 f8 f9 f10 f11 f12 f13 f14 f15 f16 f17 f18 f19 f20 f21 f22 f23 f24 f25 f26 f27 f28 f29 f30 f31 f32 f33 f34 f35 f36 f37 f38 f39 f40 f41 f42 f43 f44 f45 f46 f47 : Addr} (X : K.In h) (G : h.Ns mainGlobals mg) (hfa : mg "law" = some (.ref fa))
    (at_Plan : PySem.W.nsIn K mainGlobals "Plan" = some (some (.ref C_Plan)))
    (pg_Plan : PySem.W.plainGet K C_Plan Str.empty = true)
    (hd_Plan : PySem.W.hasDictIn K C_Plan = true)
    (po_Plan : PySem.W.plainOver K C_Plan = true)
    (sa_Plan : PySem.W.findIn K (.ref C_Plan) "__setattr__" = some (some (.builtin "object.__setattr__")))
    (kp_Plan : PySem.W.keepIn K (.ref C_Plan) = true)
    (ci_Plan : PySem.W.isClsIn K C_Plan = true)
    (ti_Plan : PySem.W.typeIn K (.ref C_Plan) = some (.type "type"))
    (ca_Plan : PySem.W.findIn K (.ref C_Plan) "__class__" = some (some (.builtin "object.__class__")))
    (cg_Plan : PySem.W.specialIn K (.builtin "object.__class__") "__get__" = some (some (.builtin "getset_descriptor.__get__")))
    (ct_Plan : PySem.W.takesIn K (.builtin "object.__class__") = some true)
    (cm_Plan : PySem.W.mroIn K C_Plan (.type "object") = some true)
    (mk_Plan : PySem.W.makesIn K C_Plan = true)
    (at_Table : PySem.W.nsIn K mainGlobals "Table" = some (some (.ref C_Table)))
    (pg_Table : PySem.W.plainGet K C_Table Str.empty = true)
    (hd_Table : PySem.W.hasDictIn K C_Table = true)
    (po_Table : PySem.W.plainOver K C_Table = true)
    (sa_Table : PySem.W.findIn K (.ref C_Table) "__setattr__" = some (some (.builtin "object.__setattr__")))
    (kp_Table : PySem.W.keepIn K (.ref C_Table) = true)
    (ci_Table : PySem.W.isClsIn K C_Table = true)
    (ti_Table : PySem.W.typeIn K (.ref C_Table) = some (.type "type"))
    (ca_Table : PySem.W.findIn K (.ref C_Table) "__class__" = some (some (.builtin "object.__class__")))
    (cg_Table : PySem.W.specialIn K (.builtin "object.__class__") "__get__" = some (some (.builtin "getset_descriptor.__get__")))
    (ct_Table : PySem.W.takesIn K (.builtin "object.__class__") = some true)
    (cm_Table : PySem.W.mroIn K C_Table (.type "object") = some true)
    (mk_Table : PySem.W.makesIn K C_Table = true)
    (nf_Plan_own_events : PySem.W.findIn K (.ref C_Plan) "own_events" = some none)
    (nf_Plan_own_limits : PySem.W.findIn K (.ref C_Plan) "own_limits" = some none)
    (nf_Plan_own_ties : PySem.W.findIn K (.ref C_Plan) "own_ties" = some none)
    (nf_Table_leads : PySem.W.findIn K (.ref C_Table) "leads" = some none)
    (nf_Table_row_of_events : PySem.W.findIn K (.ref C_Table) "row_of_events" = some none)
    (nf_Table_steps : PySem.W.findIn K (.ref C_Table) "steps" = some none)
    (a0 : PySem.W.nsIn K mainGlobals "_law_box" = some (some (.ref f0)))
    {fd0 : FuncData} (F0 : Def3 K "_law_box" "_law_box" (topS 48) [] [] f0 fd0)
    (a1 : PySem.W.nsIn K mainGlobals "_law_cell" = some (some (.ref f1)))
    {fd1 : FuncData} (F1 : Def3 K "_law_cell" "_law_cell" (topS 47) [] [] f1 fd1)
    (a2 : PySem.W.nsIn K mainGlobals "_law_take" = some (some (.ref f2)))
    {fd2 : FuncData} (F2 : Def3 K "_law_take" "_law_take" (topS 49) [] [] f2 fd2)
    (a3 : PySem.W.nsIn K mainGlobals "_law_names" = some (some (.ref f3)))
    {fd3 : FuncData} (F3 : Def3 K "_law_names" "_law_names" (topS 51) [] [] f3 fd3)
    (a4 : PySem.W.nsIn K mainGlobals "_law_mixed" = some (some (.ref f4)))
    {fd4 : FuncData} (F4 : Def3 K "_law_mixed" "_law_mixed" (topS 50) [] [] f4 fd4)
    (a5 : PySem.W.nsIn K mainGlobals "_law_lag" = some (some (.ref f5)))
    {fd5 : FuncData} (F5 : Def3 K "_law_lag" "_law_lag" (topS 52) [] [] f5 fd5)
    (a6 : PySem.W.nsIn K mainGlobals "_law_model" = some (some (.ref f6)))
    {fd6 : FuncData} (F6 : Def3 K "_law_model" "_law_model" (topS 53) [] [] f6 fd6)
    (a7 : PySem.W.nsIn K mainGlobals "is_list" = some (some (.ref f7)))
    {fd7 : FuncData} (F7 : Def3 K "is_list" "is_list" (topS 21) [] [] f7 fd7)
    (a8 : PySem.W.nsIn K mainGlobals "is_name" = some (some (.ref f8)))
    {fd8 : FuncData} (F8 : Def3 K "is_name" "is_name" (topS 20) [] [] f8 fd8)
    (a9 : PySem.W.nsIn K mainGlobals "need_events" = some (some (.ref f9)))
    {fd9 : FuncData} (F9 : Def3 K "need_events" "need_events" (topS 25) [] [] f9 fd9)
    (a10 : PySem.W.nsIn K mainGlobals "need_event" = some (some (.ref f10)))
    {fd10 : FuncData} (F10 : Def3 K "need_event" "need_event" (topS 26) [] [] f10 fd10)
    (a11 : PySem.W.nsIn K mainGlobals "is_integer" = some (some (.ref f11)))
    {fd11 : FuncData} (F11 : Def3 K "is_integer" "is_integer" (topS 18) [] [] f11 fd11)
    (a12 : PySem.W.nsIn K mainGlobals "is_count" = some (some (.ref f12)))
    {fd12 : FuncData} (F12 : Def3 K "is_count" "is_count" (topS 19) [] [] f12 fd12)
    (a13 : PySem.W.nsIn K mainGlobals "need_ties" = some (some (.ref f13)))
    {fd13 : FuncData} (F13 : Def3 K "need_ties" "need_ties" (topS 27) [] [] f13 fd13)
    (a14 : PySem.W.nsIn K mainGlobals "need_limits" = some (some (.ref f14)))
    {fd14 : FuncData} (F14 : Def3 K "need_limits" "need_limits" (topS 28) [] [] f14 fd14)
    (a15 : PySem.W.nsIn K mainGlobals "reached" = some (some (.ref f15)))
    {fd15 : FuncData} (F15 : Def3 K "reached" "reached" (topS 30) [] [] f15 fd15)
    (a16 : PySem.W.nsIn K mainGlobals "need_no_ring" = some (some (.ref f16)))
    {fd16 : FuncData} (F16 : Def3 K "need_no_ring" "need_no_ring" (topS 29) [] [] f16 fd16)
    (a17 : PySem.W.findIn K (.ref C_Plan) "__init__" = some (some (.ref f17)))
    (i17 : PySem.W.isFn K (.ref f17) = true)
    {fd17 : FuncData} (F17 : Def3 K "__init__" "Plan.__init__" (inClass (topS 31) 0) [(.ref (He.dflAt ("Plan", some "__init__") 0 K) : V)] [("limits", (.non : V))] f17 fd17)
    (et17_0 : etpB K (He.dflAt ("Plan", some "__init__") 0 K) = true)
    (a18 : PySem.W.nsIn K mainGlobals "_law_plan" = some (some (.ref f18)))
    {fd18 : FuncData} (F18 : Def3 K "_law_plan" "_law_plan" (topS 54) [] [] f18 fd18)
    (a19 : PySem.W.nsIn K mainGlobals "need_plan" = some (some (.ref f19)))
    {fd19 : FuncData} (F19 : Def3 K "need_plan" "need_plan" (topS 32) [] [] f19 fd19)
    (a20 : PySem.W.findIn K (.ref C_Plan) "events" = some (some (.ref f20)))
    (i20 : PySem.W.isFn K (.ref f20) = true)
    {fd20 : FuncData} (F20 : Def3 K "events" "Plan.events" (inClass (topS 31) 1) [] [] f20 fd20)
    (a21 : PySem.W.nsIn K mainGlobals "need_alike_events" = some (some (.ref f21)))
    {fd21 : FuncData} (F21 : Def3 K "need_alike_events" "need_alike_events" (topS 41) [] [] f21 fd21)
    (a22 : PySem.W.nsIn K mainGlobals "leads_of" = some (some (.ref f22)))
    {fd22 : FuncData} (F22 : Def3 K "leads_of" "leads_of" (topS 38) [] [] f22 fd22)
    (a23 : PySem.W.findIn K (.ref C_Plan) "ties" = some (some (.ref f23)))
    (i23 : PySem.W.isFn K (.ref f23) = true)
    {fd23 : FuncData} (F23 : Def3 K "ties" "Plan.ties" (inClass (topS 31) 2) [] [] f23 fd23)
    (a24 : PySem.W.findIn K (.ref C_Plan) "limits" = some (some (.ref f24)))
    (i24 : PySem.W.isFn K (.ref f24) = true)
    {fd24 : FuncData} (F24 : Def3 K "limits" "Plan.limits" (inClass (topS 31) 3) [] [] f24 fd24)
    (a25 : PySem.W.nsIn K mainGlobals "rows_of" = some (some (.ref f25)))
    {fd25 : FuncData} (F25 : Def3 K "rows_of" "rows_of" (topS 37) [] [] f25 fd25)
    (a26 : PySem.W.findIn K (.ref C_Table) "__init__" = some (some (.ref f26)))
    (i26 : PySem.W.isFn K (.ref f26) = true)
    {fd26 : FuncData} (F26 : Def3 K "__init__" "Table.__init__" (inClass (topS 39) 0) [] [] f26 fd26)
    (a27 : PySem.W.findIn K (.ref C_Table) "lead" = some (some (.ref f27)))
    (i27 : PySem.W.isFn K (.ref f27) = true)
    {fd27 : FuncData} (F27 : Def3 K "lead" "Table.lead" (inClass (topS 39) 2) [] [] f27 fd27)
    (a28 : PySem.W.findIn K (.ref C_Table) "most" = some (some (.ref f28)))
    (i28 : PySem.W.isFn K (.ref f28) = true)
    {fd28 : FuncData} (F28 : Def3 K "most" "Table.most" (inClass (topS 39) 3) [] [] f28 fd28)
    (a29 : PySem.W.findIn K (.ref C_Table) "least" = some (some (.ref f29)))
    (i29 : PySem.W.isFn K (.ref f29) = true)
    {fd29 : FuncData} (F29 : Def3 K "least" "Table.least" (inClass (topS 39) 7) [] [] f29 fd29)
    (a30 : PySem.W.nsIn K mainGlobals "breaches" = some (some (.ref f30)))
    {fd30 : FuncData} (F30 : Def3 K "breaches" "breaches" (topS 42) [] [] f30 fd30)
    (a31 : PySem.W.nsIn K mainGlobals "total" = some (some (.ref f31)))
    {fd31 : FuncData} (F31 : Def3 K "total" "total" (topS 43) [] [] f31 fd31)
    (a32 : PySem.W.nsIn K mainGlobals "within" = some (some (.ref f32)))
    {fd32 : FuncData} (F32 : Def3 K "within" "within" (topS 44) [] [] f32 fd32)
    (a33 : PySem.W.nsIn K mainGlobals "alike" = some (some (.ref f33)))
    {fd33 : FuncData} (F33 : Def3 K "alike" "alike" (topS 45) [] [] f33 fd33)
    (a34 : PySem.W.nsIn K mainGlobals "_law_far" = some (some (.ref f34)))
    {fd34 : FuncData} (F34 : Def3 K "_law_far" "_law_far" (topS 58) [] [] f34 fd34)
    (a35 : PySem.W.nsIn K mainGlobals "_law_leads" = some (some (.ref f35)))
    {fd35 : FuncData} (F35 : Def3 K "_law_leads" "_law_leads" (topS 59) [] [] f35 fd35)
    (a36 : PySem.W.nsIn K mainGlobals "_law_least" = some (some (.ref f36)))
    {fd36 : FuncData} (F36 : Def3 K "_law_least" "_law_least" (topS 60) [] [] f36 fd36)
    (a37 : PySem.W.nsIn K mainGlobals "_law_breaches" = some (some (.ref f37)))
    {fd37 : FuncData} (F37 : Def3 K "_law_breaches" "_law_breaches" (topS 62) [] [] f37 fd37)
    (a38 : PySem.W.nsIn K mainGlobals "_law_sum" = some (some (.ref f38)))
    {fd38 : FuncData} (F38 : Def3 K "_law_sum" "_law_sum" (topS 63) [] [] f38 fd38)
    (a39 : PySem.W.nsIn K mainGlobals "_law_is_moment" = some (some (.ref f39)))
    {fd39 : FuncData} (F39 : Def3 K "_law_is_moment" "_law_is_moment" (topS 57) [] [] f39 fd39)
    (a40 : PySem.W.nsIn K mainGlobals "_law_within_right" = some (some (.ref f40)))
    {fd40 : FuncData} (F40 : Def3 K "_law_within_right" "_law_within_right" (topS 64) [] [] f40 fd40)
    (a41 : PySem.W.nsIn K mainGlobals "_law_alike_right" = some (some (.ref f41)))
    {fd41 : FuncData} (F41 : Def3 K "_law_alike_right" "_law_alike_right" (topS 65) [] [] f41 fd41)
    (a42 : PySem.W.nsIn K mainGlobals "_law_right" = some (some (.ref f42)))
    {fd42 : FuncData} (F42 : Def3 K "_law_right" "_law_right" (topS 66) [] [] f42 fd42)
    (a43 : PySem.W.nsIn K mainGlobals "_law_near" = some (some (.ref f43)))
    {fd43 : FuncData} (F43 : Def3 K "_law_near" "_law_near" (topS 61) [] [] f43 fd43)
    (a44 : PySem.W.nsIn K mainGlobals "_law_small" = some (some (.ref f44)))
    {fd44 : FuncData} (F44 : Def3 K "_law_small" "_law_small" (topS 55) [] [] f44 fd44)
    (a45 : PySem.W.nsIn K mainGlobals "_law_moments" = some (some (.ref f45)))
    {fd45 : FuncData} (F45 : Def3 K "_law_moments" "_law_moments" (topS 56) [] [] f45 fd45)
    (a46 : PySem.W.nsIn K mainGlobals "_law_small_right" = some (some (.ref f46)))
    {fd46 : FuncData} (F46 : Def3 K "_law_small_right" "_law_small_right" (topS 67) [] [] f46 fd46)
    (a47 : PySem.W.nsIn K mainGlobals "law" = some (some (.ref f47)))
    {fd47 : FuncData} (F47 : Def3 K "law" "law" (topS 68) [] [] f47 fd47)
    (z_all : PySem.W.nsIn K mainGlobals "all" = some none)
    (z_bool : PySem.W.nsIn K mainGlobals "bool" = some none)
    (z_dict : PySem.W.nsIn K mainGlobals "dict" = some none)
    (z_enumerate : PySem.W.nsIn K mainGlobals "enumerate" = some none)
    (z_int : PySem.W.nsIn K mainGlobals "int" = some none)
    (z_isinstance : PySem.W.nsIn K mainGlobals "isinstance" = some none)
    (z_len : PySem.W.nsIn K mainGlobals "len" = some none)
    (z_list : PySem.W.nsIn K mainGlobals "list" = some none)
    (z_max : PySem.W.nsIn K mainGlobals "max" = some none)
    (z_min : PySem.W.nsIn K mainGlobals "min" = some none)
    (z_range : PySem.W.nsIn K mainGlobals "range" = some none)
    (z_repr : PySem.W.nsIn K mainGlobals "repr" = some none)
    (z_sorted : PySem.W.nsIn K mainGlobals "sorted" = some none)
    (z_str : PySem.W.nsIn K mainGlobals "str" = some none)
    (z_sum : PySem.W.nsIn K mainGlobals "sum" = some none)
    (z_tuple : PySem.W.nsIn K mainGlobals "tuple" = some none)
    (z_zip : PySem.W.nsIn K mainGlobals "zip" = some none)
    (y_HOLD : ∃ t, mg "HOLD" = some (.str "limit" t))
    (y_LETTERS : ∃ t, mg "LETTERS" = some (.str "abcdefghijklmnopqrstuvwxyz" t))
    (y_MOST_EVENTS : ∃ t, mg "MOST_EVENTS" = some (.int 8 t))
    (y_MOST_LETTERS : ∃ t, mg "MOST_LETTERS" = some (.int 8 t))
    (y_MOST_TIES : ∃ t, mg "MOST_TIES" = some (.int 60 t))
    (y_NONE : ∃ t, mg "NONE" = some (.str "none" t))
    (y_TIE : ∃ t, mg "TIE" = some (.str "tie" t))
    : ∃ fd : FuncData, (∀ (s : Shared) (v : Value), BindsTo s fd ⟨[v], []⟩ [("_law_script", v)]) ∧ ∀ base : Heap, K.In base → base.Ns mainGlobals mg → BaseX base → FnG l.prog w K mg base CX0 9 fa fd ["_law_script"] (lift ⟨K, l.prog, w⟩ 1 sp_law) := by
  have e := hfa.symm.trans (PySem.W.mg_of X G a47)
  cases e
  have K_Plan : ClsK K "Plan" C_Plan := ⟨at_Plan, ⟨pg_Plan, hd_Plan, po_Plan, sa_Plan⟩, kp_Plan, (by rw [show (PySem.W.clsIn K C_Plan).isSome = true from ci_Plan, ti_Plan]; rfl), ca_Plan, cg_Plan, ct_Plan, cm_Plan⟩
  have K_Table : ClsK K "Table" C_Table := ⟨at_Table, ⟨pg_Table, hd_Table, po_Table, sa_Table⟩, kp_Table, (by rw [show (PySem.W.clsIn K C_Table).isSome = true from ci_Table, ti_Table]; rfl), ca_Table, cg_Table, ct_Table, cm_Table⟩
  have T : Bl K mg := ⟨PySem.W.mg_none_of X G z_all, PySem.W.mg_none_of X G z_bool, PySem.W.mg_none_of X G z_dict, PySem.W.mg_none_of X G z_enumerate, PySem.W.mg_none_of X G z_int, PySem.W.mg_none_of X G z_isinstance, PySem.W.mg_none_of X G z_len, PySem.W.mg_none_of X G z_list, PySem.W.mg_none_of X G z_max, PySem.W.mg_none_of X G z_min, PySem.W.mg_none_of X G z_range, PySem.W.mg_none_of X G z_repr, PySem.W.mg_none_of X G z_sorted, PySem.W.mg_none_of X G z_str, PySem.W.mg_none_of X G z_sum, PySem.W.mg_none_of X G z_tuple, PySem.W.mg_none_of X G z_zip, y_HOLD, y_LETTERS, y_MOST_EVENTS, y_MOST_LETTERS, y_MOST_TIES, y_NONE, y_TIE, ⟨_, K_Plan, PySem.W.mg_of X G at_Plan⟩, ⟨_, K_Table, PySem.W.mg_of X G at_Table⟩, ⟨_, at_Plan, K_Plan.cl, nf_Plan_own_events⟩, ⟨_, at_Plan, K_Plan.cl, nf_Plan_own_limits⟩, ⟨_, at_Plan, K_Plan.cl, nf_Plan_own_ties⟩, ⟨_, at_Table, K_Table.cl, nf_Table_leads⟩, ⟨_, at_Table, K_Table.cl, nf_Table_row_of_events⟩, ⟨_, at_Table, K_Table.cl, nf_Table_steps⟩⟩
  have k0 := F0.kp
  have k1 := F1.kp
  have k2 := F2.kp
  have k3 := F3.kp
  have k4 := F4.kp
  have k5 := F5.kp
  have k6 := F6.kp
  have k7 := F7.kp
  have k8 := F8.kp
  have k9 := F9.kp
  have k10 := F10.kp
  have k11 := F11.kp
  have k12 := F12.kp
  have k13 := F13.kp
  have k14 := F14.kp
  have k15 := F15.kp
  have k16 := F16.kp
  have k17 := F17.kp
  have k18 := F18.kp
  have k19 := F19.kp
  have k20 := F20.kp
  have k21 := F21.kp
  have k22 := F22.kp
  have k23 := F23.kp
  have k24 := F24.kp
  have k25 := F25.kp
  have k26 := F26.kp
  have k27 := F27.kp
  have k28 := F28.kp
  have k29 := F29.kp
  have k30 := F30.kp
  have k31 := F31.kp
  have k32 := F32.kp
  have k33 := F33.kp
  have k34 := F34.kp
  have k35 := F35.kp
  have k36 := F36.kp
  have k37 := F37.kp
  have k38 := F38.kp
  have k39 := F39.kp
  have k40 := F40.kp
  have k41 := F41.kp
  have k42 := F42.kp
  have k43 := F43.kp
  have k44 := F44.kp
  have k45 := F45.kp
  have k46 := F46.kp
  have k47 := F47.kp
  refine ⟨fd47, F47.binds1 (fun _ _ _ _ _ _ _ => rfl), fun base _ _ BX => ?_⟩
  have g__law_box : FnG l.prog w K mg base CX0 1 _ _ ["_law_cell_here"] (lift ⟨K, l.prog, w⟩ 1 sp__law_box) := ok__law_box T  F0
  have c__law_box : Cal3 l.prog w K mg base CX0 1 "_law_box" 1 [] (allPos 1) [] 1 (lift ⟨K, l.prog, w⟩ 1 sp__law_box) := ⟨⟨_, _, _, PySem.W.mg_of X G a0, k0, F0.bindA (ps := ["_law_cell_here"]) 1 rfl fun _ _ _ _ _ _ us hl => match us, hl with | [_], _ => rfl, g__law_box⟩, rfl, rfl⟩
  have g__law_cell : FnG l.prog w K mg base CX0 1 _ _ ["_law_script", "_law_k"] (lift ⟨K, l.prog, w⟩ 2 sp__law_cell) := ok__law_cell T  F1
  have c__law_cell : Cal3 l.prog w K mg base CX0 1 "_law_cell" 2 [] (allPos 2) [] 2 (lift ⟨K, l.prog, w⟩ 2 sp__law_cell) := ⟨⟨_, _, _, PySem.W.mg_of X G a1, k1, F1.bindA (ps := ["_law_script", "_law_k"]) 2 rfl fun _ _ _ _ _ _ us hl => match us, hl with | [_, _], _ => rfl, g__law_cell⟩, rfl, rfl⟩
  have g__law_take : FnG l.prog w K mg base CX0 1 _ _ ["_law_box_here", "_law_many"] (lift ⟨K, l.prog, w⟩ 2 sp__law_take) := ok__law_take T  F2
  have c__law_take : Cal3 l.prog w K mg base CX0 1 "_law_take" 2 [] (allPos 2) [] 2 (lift ⟨K, l.prog, w⟩ 2 sp__law_take) := ⟨⟨_, _, _, PySem.W.mg_of X G a2, k2, F2.bindA (ps := ["_law_box_here", "_law_many"]) 2 rfl fun _ _ _ _ _ _ us hl => match us, hl with | [_, _], _ => rfl, g__law_take⟩, rfl, rfl⟩
  have g__law_names : FnG l.prog w K mg base CX0 2 _ _ ["_law_box_here", "_law_many"] (lift ⟨K, l.prog, w⟩ 2 sp__law_names) := ok__law_names T c__law_take F3
  have c__law_names : Cal3 l.prog w K mg base CX0 2 "_law_names" 2 [] (allPos 2) [] 2 (lift ⟨K, l.prog, w⟩ 2 sp__law_names) := ⟨⟨_, _, _, PySem.W.mg_of X G a3, k3, F3.bindA (ps := ["_law_box_here", "_law_many"]) 2 rfl fun _ _ _ _ _ _ us hl => match us, hl with | [_, _], _ => rfl, g__law_names⟩, rfl, rfl⟩
  have g__law_mixed : FnG l.prog w K mg base CX0 2 _ _ ["_law_box_here", "_law_some"] (lift ⟨K, l.prog, w⟩ 2 sp__law_mixed) := ok__law_mixed T c__law_take F4
  have c__law_mixed : Cal3 l.prog w K mg base CX0 2 "_law_mixed" 2 [] (allPos 2) [] 2 (lift ⟨K, l.prog, w⟩ 2 sp__law_mixed) := ⟨⟨_, _, _, PySem.W.mg_of X G a4, k4, F4.bindA (ps := ["_law_box_here", "_law_some"]) 2 rfl fun _ _ _ _ _ _ us hl => match us, hl with | [_, _], _ => rfl, g__law_mixed⟩, rfl, rfl⟩
  have g__law_lag : FnG l.prog w K mg base CX0 2 _ _ ["_law_box_here"] (lift ⟨K, l.prog, w⟩ 1 sp__law_lag) := ok__law_lag T c__law_take F5
  have c__law_lag : Cal3 l.prog w K mg base CX0 2 "_law_lag" 1 [] (allPos 1) [] 1 (lift ⟨K, l.prog, w⟩ 1 sp__law_lag) := ⟨⟨_, _, _, PySem.W.mg_of X G a5, k5, F5.bindA (ps := ["_law_box_here"]) 1 rfl fun _ _ _ _ _ _ us hl => match us, hl with | [_], _ => rfl, g__law_lag⟩, rfl, rfl⟩
  have g__law_model : FnG l.prog w K mg base CX0 3 _ _ ["_law_box_here", "_law_many", "_law_most"] (lift ⟨K, l.prog, w⟩ 3 sp__law_model) := ok__law_model T c__law_names c__law_mixed c__law_take c__law_lag F6
  have c__law_model : Cal3 l.prog w K mg base CX0 3 "_law_model" 3 [] (allPos 3) [] 3 (lift ⟨K, l.prog, w⟩ 3 sp__law_model) := ⟨⟨_, _, _, PySem.W.mg_of X G a6, k6, F6.bindA (ps := ["_law_box_here", "_law_many", "_law_most"]) 3 rfl fun _ _ _ _ _ _ us hl => match us, hl with | [_, _, _], _ => rfl, g__law_model⟩, rfl, rfl⟩
  have g_is_list : FnG l.prog w K mg base CX0 1 _ _ ["value"] (lift ⟨K, l.prog, w⟩ 1 sp_is_list) := ok_is_list T  F7
  have c_is_list : Cal3 l.prog w K mg base CX0 1 "is_list" 1 [] (allPos 1) [] 1 (lift ⟨K, l.prog, w⟩ 1 sp_is_list) := ⟨⟨_, _, _, PySem.W.mg_of X G a7, k7, F7.bindA (ps := ["value"]) 1 rfl fun _ _ _ _ _ _ us hl => match us, hl with | [_], _ => rfl, g_is_list⟩, rfl, rfl⟩
  have g_is_name : FnG l.prog w K mg base CX0 1 _ _ ["value"] (lift ⟨K, l.prog, w⟩ 1 sp_is_name) := ok_is_name T  F8
  have c_is_name : Cal3 l.prog w K mg base CX0 1 "is_name" 1 [] (allPos 1) [] 1 (lift ⟨K, l.prog, w⟩ 1 sp_is_name) := ⟨⟨_, _, _, PySem.W.mg_of X G a8, k8, F8.bindA (ps := ["value"]) 1 rfl fun _ _ _ _ _ _ us hl => match us, hl with | [_], _ => rfl, g_is_name⟩, rfl, rfl⟩
  have g_need_events : FnG l.prog w K mg base CX0 2 _ _ ["events"] (lift ⟨K, l.prog, w⟩ 1 sp_need_events) := ok_need_events T c_is_list c_is_name F9
  have c_need_events : Cal3 l.prog w K mg base CX0 2 "need_events" 1 [] (allPos 1) [] 1 (lift ⟨K, l.prog, w⟩ 1 sp_need_events) := ⟨⟨_, _, _, PySem.W.mg_of X G a9, k9, F9.bindA (ps := ["events"]) 1 rfl fun _ _ _ _ _ _ us hl => match us, hl with | [_], _ => rfl, g_need_events⟩, rfl, rfl⟩
  have g_need_event : FnG l.prog w K mg base CX0 2 _ _ ["events", "name"] (lift ⟨K, l.prog, w⟩ 2 sp_need_event) := ok_need_event T c_is_name F10
  have c_need_event : Cal3 l.prog w K mg base CX0 2 "need_event" 2 [] (allPos 2) [] 2 (lift ⟨K, l.prog, w⟩ 2 sp_need_event) := ⟨⟨_, _, _, PySem.W.mg_of X G a10, k10, F10.bindA (ps := ["events", "name"]) 2 rfl fun _ _ _ _ _ _ us hl => match us, hl with | [_, _], _ => rfl, g_need_event⟩, rfl, rfl⟩
  have g_is_integer : FnG l.prog w K mg base CX0 1 _ _ ["value"] (lift ⟨K, l.prog, w⟩ 1 sp_is_integer) := ok_is_integer T  F11
  have c_is_integer : Cal3 l.prog w K mg base CX0 1 "is_integer" 1 [] (allPos 1) [] 1 (lift ⟨K, l.prog, w⟩ 1 sp_is_integer) := ⟨⟨_, _, _, PySem.W.mg_of X G a11, k11, F11.bindA (ps := ["value"]) 1 rfl fun _ _ _ _ _ _ us hl => match us, hl with | [_], _ => rfl, g_is_integer⟩, rfl, rfl⟩
  have g_is_count : FnG l.prog w K mg base CX0 2 _ _ ["value"] (lift ⟨K, l.prog, w⟩ 1 sp_is_count) := ok_is_count T c_is_integer F12
  have c_is_count : Cal3 l.prog w K mg base CX0 2 "is_count" 1 [] (allPos 1) [] 1 (lift ⟨K, l.prog, w⟩ 1 sp_is_count) := ⟨⟨_, _, _, PySem.W.mg_of X G a12, k12, F12.bindA (ps := ["value"]) 1 rfl fun _ _ _ _ _ _ us hl => match us, hl with | [_], _ => rfl, g_is_count⟩, rfl, rfl⟩
  have g_need_ties : FnG l.prog w K mg base CX0 3 _ _ ["events", "ties"] (lift ⟨K, l.prog, w⟩ 2 sp_need_ties) := ok_need_ties T c_is_list c_need_event c_is_count F13
  have c_need_ties : Cal3 l.prog w K mg base CX0 3 "need_ties" 2 [] (allPos 2) [] 2 (lift ⟨K, l.prog, w⟩ 2 sp_need_ties) := ⟨⟨_, _, _, PySem.W.mg_of X G a13, k13, F13.bindA (ps := ["events", "ties"]) 2 rfl fun _ _ _ _ _ _ us hl => match us, hl with | [_, _], _ => rfl, g_need_ties⟩, rfl, rfl⟩
  have g_need_limits : FnG l.prog w K mg base CX0 3 _ _ ["events", "limits"] (lift ⟨K, l.prog, w⟩ 2 sp_need_limits) := ok_need_limits T c_is_name c_is_count F14
  have c_need_limits : Cal3 l.prog w K mg base CX0 3 "need_limits" 2 [] (allPos 2) [] 2 (lift ⟨K, l.prog, w⟩ 2 sp_need_limits) := ⟨⟨_, _, _, PySem.W.mg_of X G a14, k14, F14.bindA (ps := ["events", "limits"]) 2 rfl fun _ _ _ _ _ _ us hl => match us, hl with | [_, _], _ => rfl, g_need_limits⟩, rfl, rfl⟩
  have g_reached : FnG l.prog w K mg base CX0 1 _ _ ["behind", "begin"] (lift ⟨K, l.prog, w⟩ 2 sp_reached) := ok_reached T  F15
  have c_reached : Cal3 l.prog w K mg base CX0 1 "reached" 2 [] (allPos 2) [] 2 (lift ⟨K, l.prog, w⟩ 2 sp_reached) := ⟨⟨_, _, _, PySem.W.mg_of X G a15, k15, F15.bindA (ps := ["behind", "begin"]) 2 rfl fun _ _ _ _ _ _ us hl => match us, hl with | [_, _], _ => rfl, g_reached⟩, rfl, rfl⟩
  have g_need_no_ring : FnG l.prog w K mg base CX0 2 _ _ ["events", "ties"] (lift ⟨K, l.prog, w⟩ 2 sp_need_no_ring) := ok_need_no_ring T c_reached F16
  have c_need_no_ring : Cal3 l.prog w K mg base CX0 2 "need_no_ring" 2 [] (allPos 2) [] 2 (lift ⟨K, l.prog, w⟩ 2 sp_need_no_ring) := ⟨⟨_, _, _, PySem.W.mg_of X G a16, k16, F16.bindA (ps := ["events", "ties"]) 2 rfl fun _ _ _ _ _ _ us hl => match us, hl with | [_, _], _ => rfl, g_need_no_ring⟩, rfl, rfl⟩
  have g_Plan___init__ : FnG l.prog w K mg base CX0 4 _ _ ["self", "events", "ties", "limits"] (lift ⟨K, l.prog, w⟩ 4 sp_Plan___init__) := ok_Plan___init__ T c_need_events c_need_ties c_need_limits c_need_no_ring F17
  have k_Plan___init____3_limits : Mak3 l.prog w K mg base CX0 4 "Plan" 2 ["limits"] [.pos 0, .pos 1, .pos 2, .kw 0] [] 4 (lift ⟨K, l.prog, w⟩ 4 sp_Plan___init__) := ⟨⟨_, _, _, _, at_Plan, PySem.W.mg_of X G at_Plan, ⟨mk_Plan, a17, i17, kp_Plan⟩, Bd3.drop (F17.bindD (ps := ["self", "events", "ties", "limits"]) (by simp) 3 ["limits"] [.pos 0, .pos 1, .pos 2, .kw 0] rfl fun _ _ _ _ _ _ _ us ws ds h1 h2 h3 => match us, ws, ds, h1, h2, h3 with | [_, _, _], [_], [_], _, _, _ => ⟨_, rfl, rfl⟩), g_Plan___init__⟩, rfl, rfl⟩
  have g__law_plan : FnG l.prog w K mg base CX0 6 _ _ ["_law_model_here"] (lift ⟨K, l.prog, w⟩ 1 sp__law_plan) := ok__law_plan T k_Plan___init____3_limits F18
  have c__law_plan : Cal3 l.prog w K mg base CX0 6 "_law_plan" 1 [] (allPos 1) [] 1 (lift ⟨K, l.prog, w⟩ 1 sp__law_plan) := ⟨⟨_, _, _, PySem.W.mg_of X G a18, k18, F18.bindA (ps := ["_law_model_here"]) 1 rfl fun _ _ _ _ _ _ us hl => match us, hl with | [_], _ => rfl, g__law_plan⟩, rfl, rfl⟩
  have g_need_plan : FnG l.prog w K mg base CX0 1 _ _ ["value"] (lift ⟨K, l.prog, w⟩ 1 sp_need_plan) := ok_need_plan T  F19
  have c_need_plan : Cal3 l.prog w K mg base CX0 1 "need_plan" 1 [] (allPos 1) [] 1 (lift ⟨K, l.prog, w⟩ 1 sp_need_plan) := ⟨⟨_, _, _, PySem.W.mg_of X G a19, k19, F19.bindA (ps := ["value"]) 1 rfl fun _ _ _ _ _ _ us hl => match us, hl with | [_], _ => rfl, g_need_plan⟩, rfl, rfl⟩
  have g_Plan_events : FnG l.prog w K mg base CX0 1 _ _ ["self"] (lift ⟨K, l.prog, w⟩ 1 sp_Plan_events) := ok_Plan_events T  F20
  have m_Plan_events : Met3 l.prog w K mg base CX0 1 "Plan" "events" 0 [] (allPos 1) [] 1 (lift ⟨K, l.prog, w⟩ 1 sp_Plan_events) := ⟨⟨_, _, _, _, at_Plan, K_Plan.cl, ⟨a20, i20, k20⟩, F20.bindA (ps := ["self"]) 1 rfl fun _ _ _ _ _ _ us hl => match us, hl with | [_], _ => rfl, g_Plan_events⟩, rfl, rfl⟩
  have g_need_alike_events : FnG l.prog w K mg base CX0 2 _ _ ["one", "other"] (lift ⟨K, l.prog, w⟩ 2 sp_need_alike_events) := ok_need_alike_events T c_need_plan m_Plan_events F21
  have c_need_alike_events : Cal3 l.prog w K mg base CX0 2 "need_alike_events" 2 [] (allPos 2) [] 2 (lift ⟨K, l.prog, w⟩ 2 sp_need_alike_events) := ⟨⟨_, _, _, PySem.W.mg_of X G a21, k21, F21.bindA (ps := ["one", "other"]) 2 rfl fun _ _ _ _ _ _ us hl => match us, hl with | [_, _], _ => rfl, g_need_alike_events⟩, rfl, rfl⟩
  have g_leads_of : FnG l.prog w K mg base CX0 1 _ _ ["nodes", "rows"] (lift ⟨K, l.prog, w⟩ 2 sp_leads_of) := ok_leads_of T  F22
  have c_leads_of : Cal3 l.prog w K mg base CX0 1 "leads_of" 2 [] (allPos 2) [] 2 (lift ⟨K, l.prog, w⟩ 2 sp_leads_of) := ⟨⟨_, _, _, PySem.W.mg_of X G a22, k22, F22.bindA (ps := ["nodes", "rows"]) 2 rfl fun _ _ _ _ _ _ us hl => match us, hl with | [_, _], _ => rfl, g_leads_of⟩, rfl, rfl⟩
  have g_Plan_ties : FnG l.prog w K mg base CX0 1 _ _ ["self"] (lift ⟨K, l.prog, w⟩ 1 sp_Plan_ties) := ok_Plan_ties T  F23
  have m_Plan_ties : Met3 l.prog w K mg base CX0 1 "Plan" "ties" 0 [] (allPos 1) [] 1 (lift ⟨K, l.prog, w⟩ 1 sp_Plan_ties) := ⟨⟨_, _, _, _, at_Plan, K_Plan.cl, ⟨a23, i23, k23⟩, F23.bindA (ps := ["self"]) 1 rfl fun _ _ _ _ _ _ us hl => match us, hl with | [_], _ => rfl, g_Plan_ties⟩, rfl, rfl⟩
  have g_Plan_limits : FnG l.prog w K mg base CX0 1 _ _ ["self"] (lift ⟨K, l.prog, w⟩ 1 sp_Plan_limits) := ok_Plan_limits T  F24
  have m_Plan_limits : Met3 l.prog w K mg base CX0 1 "Plan" "limits" 0 [] (allPos 1) [] 1 (lift ⟨K, l.prog, w⟩ 1 sp_Plan_limits) := ⟨⟨_, _, _, _, at_Plan, K_Plan.cl, ⟨a24, i24, k24⟩, F24.bindA (ps := ["self"]) 1 rfl fun _ _ _ _ _ _ us hl => match us, hl with | [_], _ => rfl, g_Plan_limits⟩, rfl, rfl⟩
  have g_rows_of : FnG l.prog w K mg base CX0 2 _ _ ["plan"] (lift ⟨K, l.prog, w⟩ 1 sp_rows_of) := ok_rows_of T m_Plan_ties m_Plan_limits m_Plan_events F25
  have c_rows_of : Cal3 l.prog w K mg base CX0 2 "rows_of" 1 [] (allPos 1) [] 1 (lift ⟨K, l.prog, w⟩ 1 sp_rows_of) := ⟨⟨_, _, _, PySem.W.mg_of X G a25, k25, F25.bindA (ps := ["plan"]) 1 rfl fun _ _ _ _ _ _ us hl => match us, hl with | [_], _ => rfl, g_rows_of⟩, rfl, rfl⟩
  have g_Table___init__ : FnG l.prog w K mg base CX0 3 _ _ ["self", "plan"] (lift ⟨K, l.prog, w⟩ 2 sp_Table___init__) := ok_Table___init__ T c_need_plan m_Plan_events c_leads_of c_rows_of F26
  have k_Table___init__ : Mak3 l.prog w K mg base CX0 3 "Table" 1 [] (allPos 2) [] 2 (lift ⟨K, l.prog, w⟩ 2 sp_Table___init__) := ⟨⟨_, _, _, _, at_Table, PySem.W.mg_of X G at_Table, ⟨mk_Table, a26, i26, kp_Table⟩, F26.bindA (ps := ["self", "plan"]) 2 rfl fun _ _ _ _ _ _ us hl => match us, hl with | [_, _], _ => rfl, g_Table___init__⟩, rfl, rfl⟩
  have g_Table_lead : FnG l.prog w K mg base CX0 3 _ _ ["self", "earlier", "later"] (lift ⟨K, l.prog, w⟩ 3 sp_Table_lead) := ok_Table_lead T c_need_event F27
  have m_Table_lead : Met3 l.prog w K mg base CX0 3 "Table" "lead" 2 [] (allPos 3) [] 3 (lift ⟨K, l.prog, w⟩ 3 sp_Table_lead) := ⟨⟨_, _, _, _, at_Table, K_Table.cl, ⟨a27, i27, k27⟩, F27.bindA (ps := ["self", "earlier", "later"]) 3 rfl fun _ _ _ _ _ _ us hl => match us, hl with | [_, _, _], _ => rfl, g_Table_lead⟩, rfl, rfl⟩
  have g_Table_most : FnG l.prog w K mg base CX0 3 _ _ ["self", "event"] (lift ⟨K, l.prog, w⟩ 2 sp_Table_most) := ok_Table_most T c_need_event F28
  have m_Table_most : Met3 l.prog w K mg base CX0 3 "Table" "most" 1 [] (allPos 2) [] 2 (lift ⟨K, l.prog, w⟩ 2 sp_Table_most) := ⟨⟨_, _, _, _, at_Table, K_Table.cl, ⟨a28, i28, k28⟩, F28.bindA (ps := ["self", "event"]) 2 rfl fun _ _ _ _ _ _ us hl => match us, hl with | [_, _], _ => rfl, g_Table_most⟩, rfl, rfl⟩
  have g_Table_least : FnG l.prog w K mg base CX0 4 _ _ ["self", "event", "count"] (lift ⟨K, l.prog, w⟩ 3 sp_Table_least) := ok_Table_least T m_Table_most c_is_count F29
  have m_Table_least : Met3 l.prog w K mg base CX0 4 "Table" "least" 2 [] (allPos 3) [] 3 (lift ⟨K, l.prog, w⟩ 3 sp_Table_least) := ⟨⟨_, _, _, _, at_Table, K_Table.cl, ⟨a29, i29, k29⟩, F29.bindA (ps := ["self", "event", "count"]) 3 rfl fun _ _ _ _ _ _ us hl => match us, hl with | [_, _, _], _ => rfl, g_Table_least⟩, rfl, rfl⟩
  have g_breaches : FnG l.prog w K mg base CX0 5 _ _ ["one", "other"] (lift ⟨K, l.prog, w⟩ 2 spk_breaches) := ok_breaches T k_Table___init__ m_Plan_ties m_Table_lead m_Table_least m_Plan_limits m_Table_most F30
  have c_breaches : Cal3 l.prog w K mg base CX0 5 "breaches" 2 [] (allPos 2) [] 2 (lift ⟨K, l.prog, w⟩ 2 spk_breaches) := ⟨⟨_, _, _, PySem.W.mg_of X G a30, k30, F30.bindA (ps := ["one", "other"]) 2 rfl fun _ _ _ _ _ _ us hl => match us, hl with | [_, _], _ => rfl, g_breaches⟩, rfl, rfl⟩
  have g_total : FnG l.prog w K mg base CX0 1 _ _ ["counts"] (lift ⟨K, l.prog, w⟩ 1 sp_total) := ok_total T  F31
  have c_total : Cal3 l.prog w K mg base CX0 1 "total" 1 [] (allPos 1) [] 1 (lift ⟨K, l.prog, w⟩ 1 sp_total) := ⟨⟨_, _, _, PySem.W.mg_of X G a31, k31, F31.bindA (ps := ["counts"]) 1 rfl fun _ _ _ _ _ _ us hl => match us, hl with | [_], _ => rfl, g_total⟩, rfl, rfl⟩
  have g_within : FnG l.prog w K mg base CX0 6 _ _ ["one", "other"] (lift ⟨K, l.prog, w⟩ 2 spk_within) := ok_within T c_need_alike_events c_breaches c_total F32
  have c_within : Cal3 l.prog w K mg base CX0 6 "within" 2 [] (allPos 2) [] 2 (lift ⟨K, l.prog, w⟩ 2 spk_within) := ⟨⟨_, _, _, PySem.W.mg_of X G a32, k32, F32.bindA (ps := ["one", "other"]) 2 rfl fun _ _ _ _ _ _ us hl => match us, hl with | [_, _], _ => rfl, g_within⟩, rfl, rfl⟩
  have g_alike : FnG l.prog w K mg base CX0 7 _ _ ["one", "other"] (lift ⟨K, l.prog, w⟩ 2 spk_alike) := ok_alike T c_within c_total F33
  have c_alike : Cal3 l.prog w K mg base CX0 7 "alike" 2 [] (allPos 2) [] 2 (lift ⟨K, l.prog, w⟩ 2 spk_alike) := ⟨⟨_, _, _, PySem.W.mg_of X G a33, k33, F33.bindA (ps := ["one", "other"]) 2 rfl fun _ _ _ _ _ _ us hl => match us, hl with | [_, _], _ => rfl, g_alike⟩, rfl, rfl⟩
  have g__law_far : FnG l.prog w K mg base CX0 1 _ _ ["_law_model_here", "_law_begin"] (lift ⟨K, l.prog, w⟩ 2 sp__law_far) := ok__law_far T  F34
  have c__law_far : Cal3 l.prog w K mg base CX0 1 "_law_far" 2 [] (allPos 2) [] 2 (lift ⟨K, l.prog, w⟩ 2 sp__law_far) := ⟨⟨_, _, _, PySem.W.mg_of X G a34, k34, F34.bindA (ps := ["_law_model_here", "_law_begin"]) 2 rfl fun _ _ _ _ _ _ us hl => match us, hl with | [_, _], _ => rfl, g__law_far⟩, rfl, rfl⟩
  have g__law_leads : FnG l.prog w K mg base CX0 2 _ _ ["_law_model_here"] (lift ⟨K, l.prog, w⟩ 1 sp__law_leads) := ok__law_leads T c__law_far F35
  have c__law_leads : Cal3 l.prog w K mg base CX0 2 "_law_leads" 1 [] (allPos 1) [] 1 (lift ⟨K, l.prog, w⟩ 1 sp__law_leads) := ⟨⟨_, _, _, PySem.W.mg_of X G a35, k35, F35.bindA (ps := ["_law_model_here"]) 1 rfl fun _ _ _ _ _ _ us hl => match us, hl with | [_], _ => rfl, g__law_leads⟩, rfl, rfl⟩
  have g__law_least : FnG l.prog w K mg base CX0 1 _ _ ["_law_model_here", "_law_leads_here", "_law_event", "_law_count"] (lift ⟨K, l.prog, w⟩ 4 sp__law_least) := ok__law_least T  F36
  have c__law_least : Cal3 l.prog w K mg base CX0 1 "_law_least" 4 [] (allPos 4) [] 4 (lift ⟨K, l.prog, w⟩ 4 sp__law_least) := ⟨⟨_, _, _, PySem.W.mg_of X G a36, k36, F36.bindA (ps := ["_law_model_here", "_law_leads_here", "_law_event", "_law_count"]) 4 rfl fun _ _ _ _ _ _ us hl => match us, hl with | [_, _, _, _], _ => rfl, g__law_least⟩, rfl, rfl⟩
  have g__law_breaches : FnG l.prog w K mg base CX0 3 _ _ ["_law_one", "_law_other"] (lift ⟨K, l.prog, w⟩ 2 sp__law_breaches) := ok__law_breaches T c__law_leads c__law_least F37
  have c__law_breaches : Cal3 l.prog w K mg base CX0 3 "_law_breaches" 2 [] (allPos 2) [] 2 (lift ⟨K, l.prog, w⟩ 2 sp__law_breaches) := ⟨⟨_, _, _, PySem.W.mg_of X G a37, k37, F37.bindA (ps := ["_law_one", "_law_other"]) 2 rfl fun _ _ _ _ _ _ us hl => match us, hl with | [_, _], _ => rfl, g__law_breaches⟩, rfl, rfl⟩
  have g__law_sum : FnG l.prog w K mg base CX0 1 _ _ ["_law_counts"] (lift ⟨K, l.prog, w⟩ 1 sp__law_sum) := ok__law_sum T  F38
  have c__law_sum : Cal3 l.prog w K mg base CX0 1 "_law_sum" 1 [] (allPos 1) [] 1 (lift ⟨K, l.prog, w⟩ 1 sp__law_sum) := ⟨⟨_, _, _, PySem.W.mg_of X G a38, k38, F38.bindA (ps := ["_law_counts"]) 1 rfl fun _ _ _ _ _ _ us hl => match us, hl with | [_], _ => rfl, g__law_sum⟩, rfl, rfl⟩
  have g__law_is_moment : FnG l.prog w K mg base CX0 1 _ _ ["_law_model_here", "_law_counts"] (lift ⟨K, l.prog, w⟩ 2 sp__law_is_moment) := ok__law_is_moment T  F39
  have c__law_is_moment : Cal3 l.prog w K mg base CX0 1 "_law_is_moment" 2 [] (allPos 2) [] 2 (lift ⟨K, l.prog, w⟩ 2 sp__law_is_moment) := ⟨⟨_, _, _, PySem.W.mg_of X G a39, k39, F39.bindA (ps := ["_law_model_here", "_law_counts"]) 2 rfl fun _ _ _ _ _ _ us hl => match us, hl with | [_, _], _ => rfl, g__law_is_moment⟩, rfl, rfl⟩
  have g__law_within_right : FnG l.prog w K mg base CX0 4 _ _ ["_law_one", "_law_other", "_law_told"] (lift ⟨K, l.prog, w⟩ 3 sp__law_within_right) := ok__law_within_right T c__law_breaches c__law_sum c__law_is_moment F40
  have c__law_within_right : Cal3 l.prog w K mg base CX0 4 "_law_within_right" 3 [] (allPos 3) [] 3 (lift ⟨K, l.prog, w⟩ 3 sp__law_within_right) := ⟨⟨_, _, _, PySem.W.mg_of X G a40, k40, F40.bindA (ps := ["_law_one", "_law_other", "_law_told"]) 3 rfl fun _ _ _ _ _ _ us hl => match us, hl with | [_, _, _], _ => rfl, g__law_within_right⟩, rfl, rfl⟩
  have g__law_alike_right : FnG l.prog w K mg base CX0 4 _ _ ["_law_one", "_law_other", "_law_told"] (lift ⟨K, l.prog, w⟩ 3 sp__law_alike_right) := ok__law_alike_right T c__law_breaches c__law_sum c__law_is_moment F41
  have c__law_alike_right : Cal3 l.prog w K mg base CX0 4 "_law_alike_right" 3 [] (allPos 3) [] 3 (lift ⟨K, l.prog, w⟩ 3 sp__law_alike_right) := ⟨⟨_, _, _, PySem.W.mg_of X G a41, k41, F41.bindA (ps := ["_law_one", "_law_other", "_law_told"]) 3 rfl fun _ _ _ _ _ _ us hl => match us, hl with | [_, _, _], _ => rfl, g__law_alike_right⟩, rfl, rfl⟩
  have g__law_right : FnG l.prog w K mg base CX0 8 _ _ ["_law_one", "_law_other"] (lift ⟨K, l.prog, w⟩ 2 sp__law_right) := ok__law_right T c__law_plan c_within c_alike c__law_within_right c__law_alike_right F42
  have c__law_right : Cal3 l.prog w K mg base CX0 8 "_law_right" 2 [] (allPos 2) [] 2 (lift ⟨K, l.prog, w⟩ 2 sp__law_right) := ⟨⟨_, _, _, PySem.W.mg_of X G a42, k42, F42.bindA (ps := ["_law_one", "_law_other"]) 2 rfl fun _ _ _ _ _ _ us hl => match us, hl with | [_, _], _ => rfl, g__law_right⟩, rfl, rfl⟩
  have g__law_near : FnG l.prog w K mg base CX0 3 _ _ ["_law_box_here", "_law_model_here"] (lift ⟨K, l.prog, w⟩ 2 sp__law_near) := ok__law_near T c__law_take c__law_lag F43
  have c__law_near : Cal3 l.prog w K mg base CX0 3 "_law_near" 2 [] (allPos 2) [] 2 (lift ⟨K, l.prog, w⟩ 2 sp__law_near) := ⟨⟨_, _, _, PySem.W.mg_of X G a43, k43, F43.bindA (ps := ["_law_box_here", "_law_model_here"]) 2 rfl fun _ _ _ _ _ _ us hl => match us, hl with | [_, _], _ => rfl, g__law_near⟩, rfl, rfl⟩
  have g__law_small : FnG l.prog w K mg base CX0 4 _ _ ["_law_box_here", "_law_many"] (lift ⟨K, l.prog, w⟩ 2 spk__law_small) := ok__law_small T c__law_model F44
  have c__law_small : Cal3 l.prog w K mg base CX0 4 "_law_small" 2 [] (allPos 2) [] 2 (lift ⟨K, l.prog, w⟩ 2 spk__law_small) := ⟨⟨_, _, _, PySem.W.mg_of X G a44, k44, F44.bindA (ps := ["_law_box_here", "_law_many"]) 2 rfl fun _ _ _ _ _ _ us hl => match us, hl with | [_, _], _ => rfl, g__law_small⟩, rfl, rfl⟩
  have g__law_moments : FnG l.prog w K mg base CX0 2 _ _ ["_law_model_here", "_law_top"] (lift ⟨K, l.prog, w⟩ 2 sp__law_moments) := ok__law_moments T c__law_is_moment F45
  have c__law_moments : Cal3 l.prog w K mg base CX0 2 "_law_moments" 2 [] (allPos 2) [] 2 (lift ⟨K, l.prog, w⟩ 2 sp__law_moments) := ⟨⟨_, _, _, PySem.W.mg_of X G a45, k45, F45.bindA (ps := ["_law_model_here", "_law_top"]) 2 rfl fun _ _ _ _ _ _ us hl => match us, hl with | [_, _], _ => rfl, g__law_moments⟩, rfl, rfl⟩
  have g__law_small_right : FnG l.prog w K mg base CX0 7 _ _ ["_law_one", "_law_other"] (lift ⟨K, l.prog, w⟩ 2 sp__law_small_right) := ok__law_small_right T c__law_moments c__law_is_moment c_within c__law_plan c__law_sum F46
  have c__law_small_right : Cal3 l.prog w K mg base CX0 7 "_law_small_right" 2 [] (allPos 2) [] 2 (lift ⟨K, l.prog, w⟩ 2 sp__law_small_right) := ⟨⟨_, _, _, PySem.W.mg_of X G a46, k46, F46.bindA (ps := ["_law_one", "_law_other"]) 2 rfl fun _ _ _ _ _ _ us hl => match us, hl with | [_, _], _ => rfl, g__law_small_right⟩, rfl, rfl⟩
  exact ok_law T c__law_box c__law_cell c__law_model c__law_take c__law_right c__law_near c__law_small c__law_small_right F47
theorem endB {l : PySem.W.OpenLaw} {w : World} {K : PySem.W.Frag} {h : Heap} {mg : Str → Option Value} {fa : Addr} (X : K.In h) (G : h.Ns mainGlobals mg) (hfa : mg "law" = some (.ref fa)) (c : SaysB faB fnB K)
    : ∃ fd : FuncData, (∀ (s : Shared) (v : Value), BindsTo s fd ⟨[v], []⟩ [("_law_script", v)]) ∧ ∀ base : Heap, K.In base → base.Ns mainGlobals mg → BaseX base → FnG l.prog w K mg base CX0 9 fa fd ["_law_script"] (lift ⟨K, l.prog, w⟩ 1 sp_law) := by
  obtain ⟨_, F0⟩ := c.def3 0 (vs := _) (ks := _) rfl rfl rfl
  obtain ⟨_, F1⟩ := c.def3 1 (vs := _) (ks := _) rfl rfl rfl
  obtain ⟨_, F2⟩ := c.def3 2 (vs := _) (ks := _) rfl rfl rfl
  obtain ⟨_, F3⟩ := c.def3 3 (vs := _) (ks := _) rfl rfl rfl
  obtain ⟨_, F4⟩ := c.def3 4 (vs := _) (ks := _) rfl rfl rfl
  obtain ⟨_, F5⟩ := c.def3 5 (vs := _) (ks := _) rfl rfl rfl
  obtain ⟨_, F6⟩ := c.def3 6 (vs := _) (ks := _) rfl rfl rfl
  obtain ⟨_, F7⟩ := c.def3 7 (vs := _) (ks := _) rfl rfl rfl
  obtain ⟨_, F8⟩ := c.def3 8 (vs := _) (ks := _) rfl rfl rfl
  obtain ⟨_, F9⟩ := c.def3 9 (vs := _) (ks := _) rfl rfl rfl
  obtain ⟨_, F10⟩ := c.def3 10 (vs := _) (ks := _) rfl rfl rfl
  obtain ⟨_, F11⟩ := c.def3 11 (vs := _) (ks := _) rfl rfl rfl
  obtain ⟨_, F12⟩ := c.def3 12 (vs := _) (ks := _) rfl rfl rfl
  obtain ⟨_, F13⟩ := c.def3 13 (vs := _) (ks := _) rfl rfl rfl
  obtain ⟨_, F14⟩ := c.def3 14 (vs := _) (ks := _) rfl rfl rfl
  obtain ⟨_, F15⟩ := c.def3 15 (vs := _) (ks := _) rfl rfl rfl
  obtain ⟨_, F16⟩ := c.def3 16 (vs := _) (ks := _) rfl rfl rfl
  obtain ⟨_, F17⟩ := c.def3 17 (vs := _) (ks := _) rfl rfl rfl
  obtain ⟨_, F18⟩ := c.def3 18 (vs := _) (ks := _) rfl rfl rfl
  obtain ⟨_, F19⟩ := c.def3 19 (vs := _) (ks := _) rfl rfl rfl
  obtain ⟨_, F20⟩ := c.def3 20 (vs := _) (ks := _) rfl rfl rfl
  obtain ⟨_, F21⟩ := c.def3 21 (vs := _) (ks := _) rfl rfl rfl
  obtain ⟨_, F22⟩ := c.def3 22 (vs := _) (ks := _) rfl rfl rfl
  obtain ⟨_, F23⟩ := c.def3 23 (vs := _) (ks := _) rfl rfl rfl
  obtain ⟨_, F24⟩ := c.def3 24 (vs := _) (ks := _) rfl rfl rfl
  obtain ⟨_, F25⟩ := c.def3 25 (vs := _) (ks := _) rfl rfl rfl
  obtain ⟨_, F26⟩ := c.def3 26 (vs := _) (ks := _) rfl rfl rfl
  obtain ⟨_, F27⟩ := c.def3 27 (vs := _) (ks := _) rfl rfl rfl
  obtain ⟨_, F28⟩ := c.def3 28 (vs := _) (ks := _) rfl rfl rfl
  obtain ⟨_, F29⟩ := c.def3 29 (vs := _) (ks := _) rfl rfl rfl
  obtain ⟨_, F30⟩ := c.def3 30 (vs := _) (ks := _) rfl rfl rfl
  obtain ⟨_, F31⟩ := c.def3 31 (vs := _) (ks := _) rfl rfl rfl
  obtain ⟨_, F32⟩ := c.def3 32 (vs := _) (ks := _) rfl rfl rfl
  obtain ⟨_, F33⟩ := c.def3 33 (vs := _) (ks := _) rfl rfl rfl
  obtain ⟨_, F34⟩ := c.def3 34 (vs := _) (ks := _) rfl rfl rfl
  obtain ⟨_, F35⟩ := c.def3 35 (vs := _) (ks := _) rfl rfl rfl
  obtain ⟨_, F36⟩ := c.def3 36 (vs := _) (ks := _) rfl rfl rfl
  obtain ⟨_, F37⟩ := c.def3 37 (vs := _) (ks := _) rfl rfl rfl
  obtain ⟨_, F38⟩ := c.def3 38 (vs := _) (ks := _) rfl rfl rfl
  obtain ⟨_, F39⟩ := c.def3 39 (vs := _) (ks := _) rfl rfl rfl
  obtain ⟨_, F40⟩ := c.def3 40 (vs := _) (ks := _) rfl rfl rfl
  obtain ⟨_, F41⟩ := c.def3 41 (vs := _) (ks := _) rfl rfl rfl
  obtain ⟨_, F42⟩ := c.def3 42 (vs := _) (ks := _) rfl rfl rfl
  obtain ⟨_, F43⟩ := c.def3 43 (vs := _) (ks := _) rfl rfl rfl
  obtain ⟨_, F44⟩ := c.def3 44 (vs := _) (ks := _) rfl rfl rfl
  obtain ⟨_, F45⟩ := c.def3 45 (vs := _) (ks := _) rfl rfl rfl
  obtain ⟨_, F46⟩ := c.def3 46 (vs := _) (ks := _) rfl rfl rfl
  obtain ⟨_, F47⟩ := c.def3 47 (vs := _) (ks := _) rfl rfl rfl
  exact all_mk X G hfa (of_decide_eq_true (c.fact 0)) (c.fact 1) (c.fact 2) (c.fact 3) (of_decide_eq_true (c.fact 4)) (c.fact 5) (c.fact 6) (of_decide_eq_true (c.fact 7)) (of_decide_eq_true (c.fact 8)) (of_decide_eq_true (c.fact 9)) (of_decide_eq_true (c.fact 10)) (of_decide_eq_true (c.fact 11)) (c.fact 12) (of_decide_eq_true (c.fact 13)) (c.fact 14) (c.fact 15) (c.fact 16) (of_decide_eq_true (c.fact 17)) (c.fact 18) (c.fact 19) (of_decide_eq_true (c.fact 20)) (of_decide_eq_true (c.fact 21)) (of_decide_eq_true (c.fact 22)) (of_decide_eq_true (c.fact 23)) (of_decide_eq_true (c.fact 24)) (c.fact 25) (of_decide_eq_true (c.fact 26)) (of_decide_eq_true (c.fact 27)) (of_decide_eq_true (c.fact 28)) (of_decide_eq_true (c.fact 29)) (of_decide_eq_true (c.fact 30)) (of_decide_eq_true (c.fact 31)) (of_decide_eq_true (c.fact 32)) F0 (of_decide_eq_true (c.fact 33)) F1 (of_decide_eq_true (c.fact 34)) F2 (of_decide_eq_true (c.fact 35)) F3 (of_decide_eq_true (c.fact 36)) F4 (of_decide_eq_true (c.fact 37)) F5 (of_decide_eq_true (c.fact 38)) F6 (of_decide_eq_true (c.fact 39)) F7 (of_decide_eq_true (c.fact 40)) F8 (of_decide_eq_true (c.fact 41)) F9 (of_decide_eq_true (c.fact 42)) F10 (of_decide_eq_true (c.fact 43)) F11 (of_decide_eq_true (c.fact 44)) F12 (of_decide_eq_true (c.fact 45)) F13 (of_decide_eq_true (c.fact 46)) F14 (of_decide_eq_true (c.fact 47)) F15 (of_decide_eq_true (c.fact 48)) F16 (of_decide_eq_true (c.fact 49)) (c.fact 50) F17 (c.fact 51) (of_decide_eq_true (c.fact 52)) F18 (of_decide_eq_true (c.fact 53)) F19 (of_decide_eq_true (c.fact 54)) (c.fact 55) F20 (of_decide_eq_true (c.fact 56)) F21 (of_decide_eq_true (c.fact 57)) F22 (of_decide_eq_true (c.fact 58)) (c.fact 59) F23 (of_decide_eq_true (c.fact 60)) (c.fact 61) F24 (of_decide_eq_true (c.fact 62)) F25 (of_decide_eq_true (c.fact 63)) (c.fact 64) F26 (of_decide_eq_true (c.fact 65)) (c.fact 66) F27 (of_decide_eq_true (c.fact 67)) (c.fact 68) F28 (of_decide_eq_true (c.fact 69)) (c.fact 70) F29 (of_decide_eq_true (c.fact 71)) F30 (of_decide_eq_true (c.fact 72)) F31 (of_decide_eq_true (c.fact 73)) F32 (of_decide_eq_true (c.fact 74)) F33 (of_decide_eq_true (c.fact 75)) F34 (of_decide_eq_true (c.fact 76)) F35 (of_decide_eq_true (c.fact 77)) F36 (of_decide_eq_true (c.fact 78)) F37 (of_decide_eq_true (c.fact 79)) F38 (of_decide_eq_true (c.fact 80)) F39 (of_decide_eq_true (c.fact 81)) F40 (of_decide_eq_true (c.fact 82)) F41 (of_decide_eq_true (c.fact 83)) F42 (of_decide_eq_true (c.fact 84)) F43 (of_decide_eq_true (c.fact 85)) F44 (of_decide_eq_true (c.fact 86)) F45 (of_decide_eq_true (c.fact 87)) F46 (of_decide_eq_true (c.fact 88)) F47 (of_decide_eq_true (c.fact 89)) (of_decide_eq_true (c.fact 90)) (of_decide_eq_true (c.fact 91)) (of_decide_eq_true (c.fact 92)) (of_decide_eq_true (c.fact 93)) (of_decide_eq_true (c.fact 94)) (of_decide_eq_true (c.fact 95)) (of_decide_eq_true (c.fact 96)) (of_decide_eq_true (c.fact 97)) (of_decide_eq_true (c.fact 98)) (of_decide_eq_true (c.fact 99)) (of_decide_eq_true (c.fact 100)) (of_decide_eq_true (c.fact 101)) (of_decide_eq_true (c.fact 102)) (of_decide_eq_true (c.fact 103)) (of_decide_eq_true (c.fact 104)) (of_decide_eq_true (c.fact 105)) (He.str_ok X G (c.fact 106)) (He.str_ok X G (c.fact 107)) (He.int_ok X G (c.fact 108)) (He.int_ok X G (c.fact 109)) (He.int_ok X G (c.fact 110)) (He.str_ok X G (c.fact 111)) (He.str_ok X G (c.fact 112))
end K41
open PySem PySem.W PyProof.Rows
set_option maxHeartbeats 0 in
theorem PySem.Challenge.cw_pileups_k41_within_and_alike_holds : PySem.Challenge.rw_pileups_k41_within_and_alike.Holds := by
  w_on; o_law
  refine HandSHeadRun.head_any (r := OpenLaw.row PySem.Challenge.rw_pileups_k41_within_and_alike) (q := K41.qB) (H := K41.hkB) (ob := K41.obB) (M := 40000) (loose := K41.nmB) (d := HandSHeadRun.topDef (OpenLaw.row PySem.Challenge.rw_pileups_k41_within_and_alike).prog 68) (kwd := []) K41.obB_eq
    (by kernel_rfl) (fun s => by kernel_rfl) K41.runB (by kernel_rfl) (by kernel_rfl) (by kernel_rfl) (by rfl) (by first | assumption | decide +kernel) (by decide +kernel) ⟨rfl, rfl, rfl, rfl, rfl, by decide +kernel⟩ ?hw ?hc
  case hw => w_witness2
  case hc =>
    refine L3.walkE (l := PySem.Challenge.rw_pileups_k41_within_and_alike) (n := 63) (k := 9) (x := "_law_script") (X0 := fun _ => L2.CX0) (by decide +kernel) rfl (by decide) (by kernel_rfl) ⟨rfl, by decide, by decide⟩ ?F (fun _ _ _ _ _ z => z)
    intro w mg fa h Y G hmg0
    obtain ⟨K, KX, c⟩ := Y
    have hmg : mg ("law" : PySem.Str) = some (.ref fa) := by
      have e : (HandSHeadRun.topDef (OpenLaw.row PySem.Challenge.rw_pileups_k41_within_and_alike).prog 68).name = ("law" : PySem.Str) := by kernel_rfl
      rw [← e]
      exact hmg0
    obtain ⟨fd, hb, hF⟩ := K41.endB (l := PySem.Challenge.rw_pileups_k41_within_and_alike) (w := w) KX G hmg c
    exact ⟨K, fd, _, KX, hb, fun H a ns hl hS => K41.enter (K := ⟨K, (PySem.Challenge.rw_pileups_k41_within_and_alike).prog, w⟩) hl hS, fun base h1 h2 h3 => hF base h1 h2 h3.x⟩
