import PyProof.Rows.All
import Wide.All
import OpenK.AllK
import Wide.FinOn
import KE.KStateDown
import HandS.Base
import HandS.Call
import HandS.Ends
import HandS.More
import HandS.Words
import HandS.Defaults
import HandS.HeadHook1
import HandS.HeadHook2
import HandS.HeadHook3
import HandS.HeadHook4
import KE.RegKSuper
import HandS.ExcInit
import HandS.IsInst
import PyProof.InstNe
import HandS.Head0
import HandS.Head1
import HandS.Head2
import HandS.Text
import HandS.ForMost
import HandS.Codes
import HandS.Exc
import HandS.ExcCtx
import HandS.Flow
import KE.DataEq
import HandS.Conv
import HandS.SetBool
import KE.KExcSuper
import HandS.Hot
import HandS.HotCalls
import HandS.SuiteRaise
import HandS.MakeKwOnly
import KE.KDictZip
import KE.GoesMore
import KE.GoesEnum
import PyProof.EqAt
import HandS.DeepEq
import HandS.ListEq
import HandS.DictEq
import HandS.OwnEq
import HandS.RaiseMore
import HandS.Star
import HandS.Walk
import HandS.DictComp
import HandS.Style
import HandS.Zip0
import PyProof.EnumMake
import PyProof.Draws
import HandS.Wide
import HandS.Small
import HandS.ExcField
import HandS.Lambda
import HandS.Replace
import HandS.ReplaceLit
import HandS.HeadEnd
import HandS.HeadWalk
import PySem.Challenge.RW_shoutrounds_k05_whole_texts
set_option Elab.async false
set_option linter.all false
set_option maxRecDepth 100000
set_option maxHeartbeats 4000000
/-! The text by places. -/
namespace K5
open PySem PySem.Spec PyProof.Rows L2
def top (i : Nat) : Stmt := PySem.Challenge.pw_shoutrounds_k05_whole_texts.main.body.getD i (.Pass ⟨0, 0, 0, 0⟩)
abbrev sBadHall : Stmt := inClass (top 3) 0
abbrev sBadText : Stmt := inClass (top 6) 0
abbrev sIsNumber : Stmt := top 12
abbrev sIsValue : Stmt := top 13
abbrev sIsAct : Stmt := top 14
abbrev sIsKind : Stmt := top 15
abbrev sAreKinds : Stmt := top 16
abbrev sHallInit : Stmt := inClass (top 17) 0
abbrev sHallRules : Stmt := inClass (top 17) 1
abbrev sHallLen : Stmt := inClass (top 17) 2
abbrev sHallEq : Stmt := inClass (top 17) 5
abbrev sCheckHall : Stmt := top 18
abbrev sIsDeed : Stmt := top 20
abbrev sCheckHistory : Stmt := top 21
abbrev sTextOf : Stmt := top 26
abbrev sFlat : Stmt := top 27
abbrev sHallText : Stmt := top 28
abbrev sHistoryText : Stmt := top 29
abbrev sLinesIn : Stmt := top 30
abbrev sNumberIn : Stmt := top 31
abbrev sActsIn : Stmt := top 32
abbrev sKindIn : Stmt := top 33
abbrev sIsHead : Stmt := top 34
abbrev sReadHall : Stmt := top 35
abbrev sMadeOf : Stmt := top 36
abbrev sReadHistory : Stmt := top 37
abbrev sDraw : Stmt := top 39
abbrev sCellAt : Stmt := top 40
abbrev sDigits : Stmt := top 41
abbrev sTake : Stmt := top 42
abbrev sPool : Stmt := top 43
abbrev sPick : Stmt := top 44
abbrev sAct : Stmt := top 45
abbrev sPlan : Stmt := top 46
abbrev sHall : Stmt := top 47
abbrev sDeeds : Stmt := top 56
abbrev sLine : Stmt := top 58
abbrev sNames : Stmt := top 59
abbrev sLines : Stmt := top 60
abbrev sDigit : Stmt := top 61
abbrev sActs : Stmt := top 62
abbrev sRead : Stmt := top 63
abbrev sAt : Stmt := top 64
abbrev sSpoilt : Stmt := top 65
abbrev sLaw : Stmt := top 66
/-- the name that a statement binds -/
def nameS : Stmt → Str
  | .FunctionDef n _ _ _ _ _ _ _ _ _ => n
  | .ClassDef n _ _ _ _ _ _ _ _ _ _ => n
  | _ => ""
example : nameS sBadHall = "__init__" ∧ nameS sIsNumber = "is_number" ∧ nameS sHallEq = "__eq__" ∧ nameS sCheckHall = "check_hall" ∧ nameS sIsDeed = "is_deed" ∧ nameS sTextOf = "text_of" ∧ nameS sReadHistory = "read_history" ∧ nameS sDraw = "_law_draw" ∧ nameS sHall = "_law_hall" ∧ nameS sDeeds = "_law_deeds" ∧ nameS sLine = "_law_line" ∧ nameS sAt = "_law_at" ∧ nameS sLaw = "law" := by decide +kernel
end K5
set_option Elab.async false
set_option linter.all false
set_option maxRecDepth 100000
set_option maxHeartbeats 0
/-! The head: what the top leaves. -/
namespace K5
open PySem PySem.Spec PyProof.Rows L2
/-! ### defs -/
def dG (i : Nat) (x : Str) : He.DefD := ⟨(x, none), x, x, defArgs (top i), defBody (top i), defScope (top i), [], []⟩
def dM (j : Nat) (m q : Str) (kw : List (Str × He.Dv)) : He.DefD := ⟨("Hall", some m), m, q, defArgs (inClass (top 17) j), defBody (inClass (top 17) j), defScope (inClass (top 17) j), [], kw⟩
def hallKw : List (Str × He.Dv) := [("walk", .str "copy"), ("check", .bl false), ("errors", .str "stop"), ("once", .str "before"), ("same", .str "again"), ("put", .str "last"), ("nest", .str "now")]
def fnProg : List He.DefD := [dG 12 "is_number", dG 13 "is_value", dG 14 "is_act", dG 15 "is_kind", dG 16 "are_kinds", dM 0 "__init__" "Hall.__init__" hallKw, dM 1 "rules" "Hall.rules" [], dM 2 "__len__" "Hall.__len__" [], dM 5 "__eq__" "Hall.__eq__" [],
  dG 18 "check_hall", dG 20 "is_deed", dG 21 "check_history", dG 26 "text_of", dG 27 "flat", dG 28 "hall_text", dG 29 "history_text", dG 30 "lines_in", dG 31 "number_in", dG 32 "acts_in", dG 33 "kind_in", dG 34 "is_head", dG 35 "read_hall", dG 36 "made_of", dG 37 "read_history"]
def fnLaw : List He.DefD := [dG 39 "_law_draw", dG 40 "_law_cell_at", dG 41 "_law_digits", dG 42 "_law_take", dG 43 "_law_pool", dG 44 "_law_pick", dG 45 "_law_act", dG 46 "_law_plan", dG 47 "_law_hall", dG 56 "_law_deeds", dG 58 "_law_line", dG 59 "_law_names", dG 60 "_law_lines",
  dG 61 "_law_digit", dG 62 "_law_acts", dG 63 "_law_read", dG 64 "_law_at", dG 65 "_law_spoilt", dG 66 "law"]
def fn : List He.DefD := fnProg ++ fnLaw
/-! ### facts -/
def globs1 : List Str := ["is_number", "is_value", "is_act", "is_kind", "are_kinds", "Hall", "check_hall", "is_deed", "check_history", "text_of", "flat", "hall_text", "history_text", "lines_in", "number_in", "acts_in", "kind_in", "is_head", "read_hall", "made_of", "read_history"]
def globs2 : List Str := ["_law_draw", "_law_cell_at", "_law_digits", "_law_take", "_law_pool", "_law_pick", "_law_act", "_law_plan", "_law_hall", "_law_deeds", "_law_line", "_law_names", "_law_lines", "_law_digit", "_law_acts", "_law_read", "_law_at", "_law_spoilt", "law", "BadHall", "BadText", "RULES", "SHOWN", "TRUTHS"]
def frees : List Str := ["isinstance", "int", "bool", "str", "tuple", "list", "len", "all", "range", "enumerate", "zip", "dict", "abs", "sum", "super"]
def noats : List Str := ["events", "kinds", "walk", "check", "errors", "once", "same", "put", "nest"]
def fa : List He.Fa := globs1.map .glo ++ globs2.map .glo ++ frees.map .free ++ [.int "MOST_EVENTS" 3, .int "MOST_KINDS" 4, .int "MOST_ACTS" 3, .str "DIGITS" "0123456789", .cls "Hall", .meth "Hall" "rules", .meth "Hall" "__len__", .meth "Hall" "__eq__", .mkr "Hall", .keep "Hall",
  .keep "BadHall", .keep "BadText", .exm "BadHall" "BadHall" true, .exm "BadText" "BadText" true] ++ noats.map (.noat "Hall")
def ruleNames : List Str := ["walk", "check", "errors", "once", "same", "put", "nest"]
def ts : List He.Tab := [(fun K => He.ga K "RULES", ruleNames), (fun K => He.ga K "TRUTHS", ["no", "yes"])]
/-- a tuple of these at a -/
def tupAt (K : PySem.W.Frag) (a : Addr) (vs : List V) : Bool := match K.lookup a with
  | some ⟨.type c, _, .seq its _, _⟩ => decide (c = "tuple") && (decide (its.size ≤ sizeLine) && He.relAll vs its.toList)
  | _ => false
def ruleVals : List (Str × List V) := [("walk", [.str "copy", .str "fixed", .str "live"]), ("check", [.bl false, .bl true]), ("errors", [.str "go", .str "late", .str "stop"]), ("once", [.str "after", .str "before", .str "end"]), ("same", [.str "again", .str "move", .str "skip"]), ("put", [.str "first", .str "last"]), ("nest", [.str "later", .str "now"])]
def rulesB (K : PySem.W.Frag) : Bool := ruleVals.all fun q => match PySem.W.nsIn K (He.ga K "RULES") q.1 with
  | some (some (.ref t)) => tupAt K t q.2
  | _ => false
def truthsB (K : PySem.W.Frag) : Bool := He.valsB K (He.ga K "TRUTHS") [("no", .bl false), ("yes", .bl true)]
def shownB (K : PySem.W.Frag) : Bool := match K.lookup (He.ga K "SHOWN") with
  | some ⟨.type c, none, .dict es _, sl⟩ => decide (c = "dict") && (sl.isEmpty && (!(He.ga K "SHOWN" == sysModules) && (decide (es.toList.map (fun e => (e.hash, e.key)) = [(0, .bool false), (1, .bool true)]) && He.relAll [.str "no", .str "yes"] (es.toList.map (·.val)))))
  | _ => false
/-- an own exception class of the row's, f its field -/
def oexB (K : PySem.W.Frag) (x f : Str) : Bool := (match K.lookup (He.ga K x) with
  | some ⟨.type t, _, .cls cd, sl⟩ => decide (t = "type") && (decide (cd.mro = .ref (He.ga K x) :: cd.mro.drop 1) && (PySem.HandSPX.refsVE (cd.mro.drop 1) && (decide (sl.size = 6) && (decide (sl.toList[4]? = some (some (.builtin "ValueError.__new__"))) && (cd.hasDict && !cd.hasDel)))))
  | _ => false) && (He.eqO (PySem.W.findIn K (.ref (He.ga K x)) "__setattr__") (some (some (.builtin "object.__setattr__"))) && (decide (PySem.W.subIn K (.ref (He.ga K x)) (.type "BaseException") = some true) && (decide (PySem.W.subIn K (.ref (He.ga K x)) (.type "ValueError") = some true) &&
    (decide (PySem.W.typeIn K (.ref (He.ga K x)) = some (.type "type")) && (He.eqO (PySem.W.findIn K (.ref (He.ga K x)) "__init__") (some (some (.ref (He.ma K (He.ga K x) "__init__")))) && (PySem.W.isFn K (.ref (He.ma K (He.ga K x) "__init__")) && (PySem.W.keepIn K (.ref (He.ma K (He.ga K x) "__init__")) &&
    (He.eqO (PySem.W.findIn K (.ref (He.ga K x)) f) (some none) && (He.eqO (PySem.W.findIn K (.ref (He.ga K x)) "__getattribute__") (some (some (.builtin "BaseException.__getattribute__"))) && He.eqO (PySem.W.findIn K (.ref (He.ga K x)) "__getattr__") (some none))))))))))
/-- super() in such a class's __init__ -/
def supB (K : PySem.W.Frag) (x : Str) : Bool := decide (PySem.W.ks_superIn K (He.ga K x) (He.ga K x) "__init__" = some (some (.builtin "ValueError.__init__"))) && decide (PySem.W.nsIn K cStatics "thirdparty.any" = some none)
/-- the row's own file -/
def mfile : Str := (PySem.W.OpenLaw.row PySem.Challenge.rw_shoutrounds_k05_whole_texts).prog.main.file
/-- a code of that file -/
def filB (K : PySem.W.Frag) (cd : Value) : Bool := match cd with
  | .ref c => (match K.lookup c with
    | some ⟨_, _, .fields vs, _⟩ => (match vs.toList with
      | _ :: _ :: .str n _ :: _ => n == mfile
      | _ => false)
    | _ => false)
  | _ => false
/-- the __init__'s cell of __class__ -/
def celB (K : PySem.W.Frag) (x : Str) : Bool := match K.lookup (He.ma K (He.ga K x) "__init__") with
  | some ⟨_, _, .func fd, _⟩ => PySem.W.codeIn K fd.code (x ++ ".__init__") && filB K fd.code && (decide (fd.defaults = .none) && (decide (fd.kwdefaults = .none) && (decide (fd.closure.map (·.1) = ([("__class__" : Str)] : List Str)) && fd.closure.all fun q => match K.lookup q.2 with
      | some ⟨_, _, .cell v, _⟩ => decide (v = some (.ref (He.ga K x)))
      | _ => false)))
  | _ => false
/-- the class Hall: isinstance, == and != -/
def hallB (K : PySem.W.Frag) : Bool := (match K.lookup (He.ga K "Hall") with
  | some ⟨.type t, _, .cls cd, sl⟩ => decide (t = "type") && (decide (cd.mro = [.ref (He.ga K "Hall"), .type "object"]) && (decide (sl.size = 6) && (decide (sl.toList[4]? = some (some (.builtin "object.__new__"))) && (!cd.hasDel && (match K.lookup cd.ns with
    | some ⟨_, _, .dict es _, _⟩ => es.toList.all (fun e => isExactStrKey e.key) && (decide (nsFind es "__eq__" = some (.ref (He.ma K (He.ga K "Hall") "__eq__"))) && decide (nsFind es "__ne__" = none))
    | _ => false)))))
  | _ => false) && (He.eqO (PySem.W.findIn K (.ref (He.ga K "Hall")) "__class__") (some (some (.builtin "object.__class__"))) && (decide (PySem.W.specialIn K (.builtin "object.__class__") "__get__" = some (some (.builtin "getset_descriptor.__get__"))) &&
    (decide (PySem.W.takesIn K (.builtin "object.__class__") = some true) && (decide (PySem.W.mroIn K (He.ga K "Hall") (.type "object") = some true) && decide (PySem.W.kitOne K (.ref (He.ga K "Hall")) (.ref (He.ga K "Hall")) = some true)))))
def ex (K : PySem.W.Frag) : Bool := rulesB K && (truthsB K && (shownB K && (oexB K "BadHall" "part" && (oexB K "BadText" "row" && (supB K "BadHall" && (supB K "BadText" && (celB K "BadHall" && (celB K "BadText" && hallB K))))))))
def tf : List He.Defn := [("law", none)]
/-! ### the two __init__s, their closures aside -/
abbrev FnC : Type := Option (Str × Str × Arguments × FuncBody × Scope × Addr × Addr)
def fnC (K : PySem.W.Frag) (p : Str × Option Str) : FnC := match K.lookup (He.fAd K p) with
  | some ⟨_, _, .func fd, _⟩ => some (fd.name, fd.qualname, fd.params, fd.body, fd.scope, fd.globals, fd.builtins)
  | _ => none
def valC : List FnC := [some ("__init__", "BadHall.__init__", defArgs sBadHall, .stmts (defBody sBadHall), defScope sBadHall, mainGlobals, builtinsNs), some ("__init__", "BadText.__init__", defArgs sBadText, .stmts (defBody sBadText), defScope sBadText, mainGlobals, builtinsNs)]
def obsC (K : PySem.W.Frag) : List FnC := [fnC K ("BadHall", some "__init__"), fnC K ("BadText", some "__init__")]
structure SaysK (w : World) (h : Heap) (K : PySem.W.Frag) : Prop where
  x : He.SaysX fa fn ts tf ex w h K
  c : obsC K = valC
abbrev AlK : Type := He.AlX × List FnC
def NH : Nat := 5
/-- what is looked at: what the module's names reach, and the statics -/
def asK (g : Addr → Option Obj) : List Addr := He.asD g NH ++ [cStatics]
theorem saysK_of {as : List Addr} {w : World} {h : Heap} (e1 : He.obsT fa fn ts (He.frT h.get? as) = He.valT fn ts w) (e2 : (ex (He.frT h.get? as) && He.tabsB h.get? tf (He.frT h.get? as)) = true) : He.SaysX fa fn ts tf ex w h (He.frT h.get? as) := by
  obtain ⟨h1, h2⟩ := He.ba e2
  have key : ∀ p ∈ tf, PySem.W.codeHdIn (He.frT h.get? as) (He.cT (He.frT h.get? as) p).1 (He.cT (He.frT h.get? as) p).2 = true ∧ ∃ o, h.get? (He.cT (He.frT h.get? as) p).2 = some o ∧ He.emptyTab o = true := fun p hp => by
    obtain ⟨h3, h4⟩ := He.ba (List.all_eq_true.mp h2 p hp)
    refine ⟨h3, ?_⟩
    cases q : h.get? (He.cT (He.frT h.get? as) p).2 with
    | none =>
      rw [q] at h4
      cases h4
    | some o =>
      rw [q] at h4
      exact ⟨o, rfl, h4⟩
  refine ⟨e1, h1, fun p hp => (key p hp).1, fun p hp => ?_, fun p hp => ?_⟩
  · obtain ⟨_, o, q, z⟩ := key p hp
    exact He.frT_none q z
  · obtain ⟨_, o, q, z⟩ := key p hp
    rw [q, He.emptyTab_eq z]
def obsK (g : Addr → Option Obj) : AlK := ((He.obsT fa fn ts (He.frT g (asK g)), ex (He.frT g (asK g)) && He.tabsB g tf (He.frT g (asK g))), obsC (He.frT g (asK g)))
theorem saysK_in {w : World} {h : Heap} (e : obsK h.get? = (He.valX fn ts w, valC)) : ∃ K : PySem.W.Frag, K.In h ∧ SaysK w h K := by
  unfold obsK He.valX at e
  generalize asK h.get? = as at e
  rw [Prod.mk.injEq, Prod.mk.injEq] at e
  exact ⟨_, He.frT_in, ⟨saysK_of e.1.1 e.1.2, e.2⟩⟩
def hookK : PySem.W.Hook where
  α := AlK
  obs := fun s => obsK s.heap.get?
  val := fun w => (He.valX fn ts w, valC)
  says := fun w h => ∃ K : PySem.W.Frag, K.In h ∧ SaysK w h K
  of := fun _ _ e => saysK_in e
  keeps := fun _ _ _ ⟨K, hK, c⟩ k => ⟨K, PySem.W.Frag.In.keeps hK k, ⟨⟨c.x.t, c.x.more, c.x.hd, c.x.out, fun p hp => k _ _ (c.x.empty p hp)⟩, c.c⟩⟩
theorem obsK_eq {g : Addr → Option Obj} {s : Shared} (h : ∀ a, g a = s.heap.get? a) : obsK g = hookK.obs s := by
  have e : g = s.heap.get? := funext h
  rw [e] <;> rfl
/-! ### the run -/
abbrev R : PySem.W.OpenRow := PySem.W.OpenLaw.row PySem.Challenge.rw_shoutrounds_k05_whole_texts
def ob (s : PySem.W.SharedT) : AlK := obsK (HandSHeadRun.getT s)
theorem ob_eq (s : PySem.W.SharedT) : ob s = hookK.obs s.abs := obsK_eq (HandSHeadRun.getT_eq s)
def loose : List Str := R.prog.boundNames.filter fun n => n != ("law" : Str)
end K5
set_option Elab.async false
set_option linter.all false
set_option maxRecDepth 100000
set_option maxHeartbeats 0
namespace K5
open PySem PySem.Spec PyProof.Rows L2
theorem run_f (w : World) : HandSHeadRun.RunEq R (PySem.W.view R.prog [66]) hookK ob 6000 loose (w.withFollow "special-get-raises" false) := by
  intro os
  kernel_rfl
theorem run_t (w : World) : HandSHeadRun.RunEq R (PySem.W.view R.prog [66]) hookK ob 6000 loose (w.withFollow "special-get-raises" true) := by
  intro os
  kernel_rfl
theorem run (w : World) : HandSHeadRun.RunEq R (PySem.W.view R.prog [66]) hookK ob 6000 loose w :=
  PySem.W.byRow2 "special-get-raises" (P := fun w => HandSHeadRun.RunEq R (PySem.W.view R.prog [66]) hookK ob 6000 loose w) run_f run_t w
end K5
set_option Elab.async false
set_option linter.all false
set_option maxRecDepth 100000
set_option maxHeartbeats 4000000
/-! The plain law: halls and histories as texts, read back. No program in sight. -/
namespace K5
open PySem
abbrev NL : Str := "\n"
abbrev SP : Str := " "
abbrev NO : Str := ""
/-! ### splitting at one sign -/
theorem pre1 (c d : Nat) (r : List Nat) : TL.pre [c] (d :: r) = decide (d = c) := by
  by_cases h : d = c
  · subst h
    rw [decide_eq_true rfl]
    exact TL.pre_self [d] r
  · rw [decide_eq_false h]
    exact TL.pre_of_head [] r h
theorem spl1_cons (c d : Nat) (acc r : List Nat) : TL.spl [c] 0 acc (d :: r) = if d = c then acc :: TL.spl [c] 0 [] r else TL.spl [c] 0 (acc ++ [d]) r := by
  by_cases h : d = c
  · rw [if_pos h, TL.spl_hit (by rw [pre1, decide_eq_true h])] <;> rfl
  · rw [if_neg h, TL.spl_miss (by rw [pre1, decide_eq_false h])]
theorem spl1_ne (c : Nat) : ∀ (l acc : List Nat), TL.spl [c] 0 acc l ≠ []
  | [], acc => by rw [TL.spl_nil]; simp
  | d :: r, acc => by
    rw [spl1_cons]
    by_cases h : d = c
    · rw [if_pos h]; simp
    · rw [if_neg h]; exact spl1_ne c r _
theorem joinL_cons {s p : List Nat} : ∀ {q : List (List Nat)}, q ≠ [] → TL.joinL s (p :: q) = p ++ (s ++ TL.joinL s q)
  | [], h => absurd rfl h
  | _ :: _, _ => rfl
theorem spl1_join (c : Nat) : ∀ (l acc : List Nat), TL.joinL [c] (TL.spl [c] 0 acc l) = acc ++ l
  | [], acc => by rw [TL.spl_nil, List.append_nil] <;> rfl
  | d :: r, acc => by
    rw [spl1_cons]
    by_cases h : d = c
    · rw [if_pos h, joinL_cons (spl1_ne c r []), spl1_join c r [], h] <;> rfl
    · rw [if_neg h, spl1_join c r _, List.append_assoc] <;> rfl
theorem spl1_free (c : Nat) : ∀ (l acc : List Nat), c ∉ acc → ∀ p ∈ TL.spl [c] 0 acc l, c ∉ p
  | [], acc, h, p, hp => by
    rw [TL.spl_nil, List.mem_singleton] at hp
    rw [hp]; exact h
  | d :: r, acc, h, p, hp => by
    rw [spl1_cons] at hp
    by_cases e : d = c
    · rw [if_pos e] at hp
      rcases List.mem_cons.mp hp with hp | hp
      · rw [hp]; exact h
      · exact spl1_free c r [] (by simp) p hp
    · rw [if_neg e] at hp
      refine spl1_free c r _ ?_ p hp
      simp only [List.mem_append, List.mem_singleton, not_or]
      exact ⟨h, fun z => e z.symm⟩
/-- a separator of one plain sign -/
structure Sep (y : Str) (c : Nat) : Prop where
  tl : TL.tl y = [c]
  kd : y.cps.all (· < 256) = true
theorem sepN : Sep NL 10 := ⟨by decide +kernel, by decide +kernel⟩
theorem sepS : Sep SP 32 := ⟨by decide +kernel, by decide +kernel⟩
section
variable {y : Str} {c : Nat}
theorem Sep.split (s : Sep y c) (t : Str) : (Txt.split t y).map TL.tl = TL.spl [c] 0 [] (TL.tl t) := by
  have h := TL.split_spl t y (by rw [s.tl]; simp) (TL.kind_ok s.kd)
  rw [s.tl] at h
  exact h
theorem Sep.ne (s : Sep y c) (t : Str) : Txt.split t y ≠ [] := fun e => by
  have h := s.split t
  rw [e] at h
  exact spl1_ne c _ _ h.symm
theorem Sep.join (s : Sep y c) (t : Str) : Txt.join y (Txt.split t y) = t := by
  refine TL.ext_tl ?_
  rw [TL.join_eq, TL.tl_join, s.split, s.tl, spl1_join] <;> rfl
theorem Sep.free (s : Sep y c) (t : Str) : ∀ p ∈ Txt.split t y, c ∉ TL.tl p := fun p hp => by
  have h : TL.tl p ∈ (Txt.split t y).map TL.tl := List.mem_map.mpr ⟨p, hp, rfl⟩
  rw [s.split] at h
  exact spl1_free c _ _ (by simp) _ h
theorem Sep.back (s : Sep y c) {ps : List Str} (hne : ps ≠ []) (hf : ∀ p ∈ ps, c ∉ TL.tl p) : Txt.split (Txt.join y ps) y = ps := TL.split_join s.tl s.kd hne hf
end
theorem tl_cat (ps : List Str) : TL.tl (Txt.join NO ps) = (ps.map TL.tl).flatten := by
  rw [TL.join_eq, TL.tl_join, show TL.tl NO = [] by decide +kernel]
  generalize ps.map TL.tl = l
  induction l with
  | nil => rfl
  | cons p q ih =>
    cases q with
    | nil => simp [TL.joinL]
    | cons r q =>
      show p ++ ([] ++ TL.joinL [] (r :: q)) = _
      rw [ih]
      simp
/-- lines, each behind a line feed -/
def lined (ls : List Str) : Str := Txt.join NO (ls.map fun l => l ++ NL)
theorem lined_join : ∀ ls : List Str, lined ls = Txt.join NL (ls ++ [NO]) := fun ls => by
  refine TL.ext_tl ?_
  unfold lined
  rw [tl_cat, TL.join_eq, TL.tl_join, sepN.tl, List.map_map, List.map_append]
  have h0 : ([NO].map TL.tl : List (List Nat)) = [[]] := by decide +kernel
  rw [h0]
  induction ls with
  | nil => rfl
  | cons l r ih =>
    rw [List.map_cons, List.flatten_cons, ih, List.map_cons, List.cons_append, joinL_cons (by simp)]
    show TL.tl (l ++ NL) ++ _ = _
    rw [TL.tl_append, sepN.tl, List.append_assoc]
theorem lined_back {t : Str} {ls : List Str} (h : Txt.split t NL = ls ++ [NO]) : lined ls = t := by
  rw [lined_join, ← h, sepN.join]
theorem split_lined {ls : List Str} (h : ∀ l ∈ ls, 10 ∉ TL.tl l) : Txt.split (lined ls) NL = ls ++ [NO] := by
  rw [lined_join]
  refine sepN.back (by simp) fun p hp => ?_
  rcases List.mem_append.mp hp with hp | hp
  · exact h p hp
  · rw [List.mem_singleton.mp hp]
    decide +kernel
/-- the last of a split and what stands before -/
theorem split_parts (t : Str) : Txt.split t NL = (Txt.split t NL).dropLast ++ [(Txt.split t NL).getLast (sepN.ne t)] := (List.dropLast_concat_getLast _).symm
/-! ### digits -/
/-- str(n) -/
def dig (n : Nat) : Str := Str.ofString (toString (n : Int))
def numIn (z : Str) : Option Nat := match TL.tl z with
  | [c] => if 48 ≤ c ∧ c ≤ 57 then some (c - 48) else none
  | _ => none
theorem tl_dig {n : Nat} (h : n < 10) : TL.tl (dig n) = [48 + n] := by
  unfold dig
  rw [TL.tl_num, TL.numL_lt h]
theorem numIn_dig {n : Nat} (h : n < 10) : numIn (dig n) = some n := by
  unfold numIn
  rw [tl_dig h]
  show (if 48 ≤ 48 + n ∧ 48 + n ≤ 57 then some (48 + n - 48) else none) = some n
  rw [if_pos (by omega)]
  congr 1
  omega
theorem numIn_some {z : Str} {n : Nat} (h : numIn z = some n) : n < 10 ∧ z = dig n := by
  unfold numIn at h
  split at h
  · rename_i c e
    split at h
    · rename_i hc
      have hn : c - 48 = n := Option.some.inj h
      refine ⟨by omega, TL.ext_tl ?_⟩
      rw [e, tl_dig (by omega)]
      congr 1
      omega
    · cases h
  · cases h
/-! ### acts -/
inductive W3 where
  | add | cut | emit
  deriving DecidableEq
def W3.s : W3 → Str
  | .add => "add"
  | .cut => "cut"
  | .emit => "emit"
def w3 (a : Str) : Option W3 := if a = "add" then some .add else if a = "cut" then some .cut else if a = "emit" then some .emit else none
theorem w3_s (w : W3) : w3 w.s = some w := by cases w <;> decide +kernel
theorem w3_some {a : Str} {w : W3} (h : w3 a = some w) : a = w.s := by
  unfold w3 at h
  by_cases h1 : a = "add"
  · rw [if_pos h1] at h; cases h; exact h1
  · rw [if_neg h1] at h
    by_cases h2 : a = "cut"
    · rw [if_pos h2] at h; cases h; exact h2
    · rw [if_neg h2] at h
      by_cases h3 : a = "emit"
      · rw [if_pos h3] at h; cases h; exact h3
      · rw [if_neg h3] at h; cases h
inductive Act where
  | raise
  | num (w : W3) (n : Nat)
  deriving DecidableEq
abbrev sRaise : Str := "raise"
def actWords : Act → List Str
  | .raise => [sRaise]
  | .num w n => [w.s, dig n]
/-- the acts that words write -/
def actsIn : List Str → Option (List Act)
  | [] => some []
  | [a] => if a = sRaise then some [.raise] else none
  | a :: b :: r => if a = sRaise then (actsIn (b :: r)).map (.raise :: ·) else match w3 a, numIn b with
    | some w, some n => (actsIn r).map (.num w n :: ·)
    | _, _ => none
theorem raise_w3 (w : W3) : w.s ≠ sRaise := by cases w <;> decide +kernel
theorem actsIn_words : ∀ {ws : List Str} {as : List Act}, actsIn ws = some as → as.flatMap actWords = ws
  | [], as, h => by
    unfold actsIn at h
    cases h; rfl
  | [a], as, h => by
    unfold actsIn at h
    by_cases e : a = sRaise
    · rw [if_pos e] at h; cases h; rw [e]; rfl
    · rw [if_neg e] at h; cases h
  | a :: b :: r, as, h => by
    unfold actsIn at h
    by_cases e : a = sRaise
    · rw [if_pos e] at h
      obtain ⟨as', h1, rfl⟩ := Option.map_eq_some_iff.mp h
      rw [List.flatMap_cons, actsIn_words h1, e] <;> rfl
    · rw [if_neg e] at h
      split at h
      · rename_i w n hw hn
        obtain ⟨as', h1, rfl⟩ := Option.map_eq_some_iff.mp h
        rw [List.flatMap_cons, actsIn_words h1, w3_some hw, (numIn_some hn).2] <;> rfl
      · cases h
def actSmall : Act → Bool
  | .raise => true
  | .num _ n => decide (n < 10)
theorem actsIn_raise (r : List Str) : actsIn (sRaise :: r) = (actsIn r).map (.raise :: ·) := by
  cases r with
  | nil =>
    show (if sRaise = sRaise then some [Act.raise] else none) = _
    rw [if_pos rfl] <;> rfl
  | cons b r =>
    show (if sRaise = sRaise then (actsIn (b :: r)).map (.raise :: ·) else _) = _
    rw [if_pos rfl]
theorem actsIn_num {a b : Str} {r : List Str} {w : W3} {n : Nat} (ha : w3 a = some w) (hb : numIn b = some n) : actsIn (a :: b :: r) = (actsIn r).map (.num w n :: ·) := by
  show (if a = sRaise then (actsIn (b :: r)).map (.raise :: ·) else match w3 a, numIn b with
    | some w, some n => (actsIn r).map (.num w n :: ·)
    | _, _ => none) = _
  rw [if_neg (by rw [w3_some ha]; exact raise_w3 w), ha, hb]
theorem actsIn_bad {a : Str} {r : List Str} (h1 : a ≠ sRaise) (h2 : w3 a = none ∨ r = [] ∨ ∃ b r', r = b :: r' ∧ numIn b = none) : actsIn (a :: r) = none := by
  cases r with
  | nil =>
    show (if a = sRaise then some [Act.raise] else none) = none
    rw [if_neg h1]
  | cons b r =>
    show (if a = sRaise then (actsIn (b :: r)).map (.raise :: ·) else match w3 a, numIn b with
      | some w, some n => (actsIn r).map (.num w n :: ·)
      | _, _ => none) = none
    rw [if_neg h1]
    rcases h2 with h | h | ⟨b', r', e, h⟩
    · rw [h]
    · cases h
    · cases e
      rw [h]
      cases w3 a <;> rfl
theorem words_actsIn : ∀ {as : List Act}, as.all actSmall = true → actsIn (as.flatMap actWords) = some as
  | [], _ => rfl
  | .raise :: r, h => by
    rw [List.all_cons, Bool.and_eq_true] at h
    show actsIn (sRaise :: r.flatMap actWords) = _
    rw [actsIn_raise, words_actsIn h.2] <;> rfl
  | .num w n :: r, h => by
    rw [List.all_cons, Bool.and_eq_true] at h
    have hn : n < 10 := of_decide_eq_true h.1
    show actsIn (w.s :: dig n :: r.flatMap actWords) = _
    rw [actsIn_num (w3_s w) (numIn_dig hn), words_actsIn h.2] <;> rfl
theorem actsIn_small : ∀ {ws : List Str} {as : List Act}, actsIn ws = some as → as.all actSmall = true
  | [], as, h => by
    unfold actsIn at h
    cases h; rfl
  | [a], as, h => by
    unfold actsIn at h
    by_cases e : a = sRaise
    · rw [if_pos e] at h; cases h; rfl
    · rw [if_neg e] at h; cases h
  | a :: b :: r, as, h => by
    unfold actsIn at h
    by_cases e : a = sRaise
    · rw [if_pos e] at h
      obtain ⟨as', h1, rfl⟩ := Option.map_eq_some_iff.mp h
      rw [List.all_cons, actsIn_small h1] <;> rfl
    · rw [if_neg e] at h
      split at h
      · rename_i w n hw hn
        obtain ⟨as', h1, rfl⟩ := Option.map_eq_some_iff.mp h
        rw [List.all_cons, actsIn_small h1]
        show (decide (n < 10) && true) = true
        rw [decide_eq_true (numIn_some hn).1] <;> rfl
      · cases h
theorem actsIn_len : ∀ {ws : List Str} {as : List Act}, actsIn ws = some as → as.length ≤ ws.length := fun {ws as} h => by
  have e := congrArg List.length (actsIn_words h)
  rw [← e]
  clear h e
  induction as with
  | nil => simp
  | cons a r ih =>
    rw [List.flatMap_cons, List.length_append, List.length_cons]
    have : 1 ≤ (actWords a).length := by cases a <;> simp [actWords]
    omega
end K5
set_option Elab.async false
set_option linter.all false
set_option maxRecDepth 100000
set_option maxHeartbeats 4000000
/-! The readers of halls. -/
namespace K5
open PySem
/-! ### the first row that is refused -/
def fb (p : Nat → List Str → Bool) : Nat → List (List Str) → Option Nat
  | _, [] => none
  | i, r :: rs => if p i r = true then fb p (i + 1) rs else some i
theorem fb_none {p : Nat → List Str → Bool} : ∀ {rows : List (List Str)} {k : Nat}, (∀ j r, rows[j]? = some r → p (k + j) r = true) → fb p k rows = none
  | [], _, _ => rfl
  | r :: rs, k, h => by
    show (if p k r = true then fb p (k + 1) rs else some k) = none
    rw [if_pos (show p k r = true from h 0 r rfl)]
    refine fb_none fun j r' e => ?_
    have := h (j + 1) r' (by simpa using e)
    rw [show k + 1 + j = k + (j + 1) by omega]
    exact this
theorem fb_all {p : Nat → List Str → Bool} : ∀ {rows : List (List Str)} {k : Nat}, fb p k rows = none → ∀ j r, rows[j]? = some r → p (k + j) r = true
  | [], _, _, j, r, e => by simp at e
  | r0 :: rs, k, h, j, r, e => by
    have h' : (if p k r0 = true then fb p (k + 1) rs else some k) = none := h
    by_cases hp : p k r0 = true
    · rw [if_pos hp] at h'
      cases j with
      | zero =>
        simp at e
        subst e
        exact hp
      | succ j =>
        have := fb_all h' j r (by simpa using e)
        rw [show k + (j + 1) = k + 1 + j by omega]
        exact this
    · rw [if_neg hp] at h'; cases h'
theorem fb_some {p : Nat → List Str → Bool} : ∀ {rows : List (List Str)} {k i : Nat} {r : List Str}, rows[i]? = some r → p (k + i) r = false → (∀ j r', j < i → rows[j]? = some r' → p (k + j) r' = true) → fb p k rows = some (k + i)
  | [], _, i, r, e, _, _ => by simp at e
  | r0 :: rs, k, 0, r, e, hb, _ => by
    simp at e
    subst e
    show (if p k r0 = true then fb p (k + 1) rs else some k) = some (k + 0)
    rw [if_neg (by rw [show p k r0 = false from hb]; decide)]
    rfl
  | r0 :: rs, k, i + 1, r, e, hb, ha => by
    show (if p k r0 = true then fb p (k + 1) rs else some k) = some (k + (i + 1))
    rw [if_pos (show p k r0 = true from ha 0 r0 (by omega) rfl)]
    rw [show k + (i + 1) = k + 1 + i by omega]
    refine fb_some (r := r) (by simpa using e) ?_ fun j r' hj e' => ?_
    · rw [show k + 1 + i = k + (i + 1) by omega]; exact hb
    · have := ha (j + 1) r' (by omega) (by simpa using e')
      rw [show k + 1 + j = k + (j + 1) by omega]
      exact this
theorem fb_congr {p q : Nat → List Str → Bool} : ∀ {rows : List (List Str)} {k : Nat}, (∀ j r, p j r = q j r) → fb p k rows = fb q k rows
  | [], _, _ => rfl
  | r :: rs, k, h => by
    show (if p k r = true then fb p (k + 1) rs else some k) = (if q k r = true then fb q (k + 1) rs else some k)
    rw [h k r, fb_congr h]
/-! ### halls -/
structure Kind where
  ev : Nat
  once : Bool
  acts : List Act
  deriving DecidableEq
abbrev sKind : Str := "kind"
abbrev sOnce : Str := "once"
abbrev sAlways : Str := "always"
abbrev sEvents : Str := "events"
def kindIn (ev : Nat) (ws : List Str) : Option Kind := match ws with
  | k :: e :: o :: r => if k = sKind ∧ (o = sOnce ∨ o = sAlways) then match numIn e, actsIn r with
      | some n, some as => if n < ev then some ⟨n, decide (o = sOnce), as⟩ else none
      | _, _ => none
    else none
  | _ => none
def kindRow (k : Kind) : List Str := sKind :: dig k.ev :: (if k.once then sOnce else sAlways) :: k.acts.flatMap actWords
def names : List Str := ["walk", "check", "errors", "once", "same", "put", "nest"]
def vals : List (List Str) := [["copy", "fixed", "live"], ["no", "yes"], ["go", "late", "stop"], ["after", "before", "end"], ["again", "move", "skip"], ["first", "last"], ["later", "now"]]
def headOk (i : Nat) (ws : List Str) : Bool := match ws with
  | [a, b] => match i with
    | 0 => decide (a = sEvents) && (match numIn b with | some n => decide (1 ≤ n) && decide (n ≤ 3) | none => false)
    | j + 1 => decide (a = names.getD j NO) && decide (b ∈ vals.getD j [])
  | _ => false
/-- what the first line tells of the events -/
def evOf (rows : List (List Str)) : Nat := (numIn ((rows.getD 0 []).getD 1 NO)).getD 0
def rowOk (ev i : Nat) (ws : List Str) : Bool := if i < 8 then headOk i ws else (kindIn ev ws).isSome && !decide (i = 12)
def actOk (events many : Nat) : Act → Bool
  | .raise => true
  | .num .emit n => decide (n < events)
  | .num _ n => decide (n < many)
def kindOk (events many : Nat) (k : Kind) : Bool := decide (k.ev < events) && (decide (k.acts.length ≤ 3) && k.acts.all (actOk events many))
def kindsOk (events : Nat) (ks : List Kind) : Bool := (decide (1 ≤ ks.length) && decide (ks.length ≤ 4)) && ks.all (kindOk events ks.length)
/-- a hall: its events, its kinds, the words of its rules' values -/
structure HallD where
  events : Nat
  kinds : List Kind
  heads : List Str
  deriving DecidableEq
def headsOk (hs : List Str) : Prop := hs.length = 7 ∧ ∀ i w, hs[i]? = some w → w ∈ vals.getD i []
structure HallOk (h : HallD) : Prop where
  e1 : 1 ≤ h.events
  e3 : h.events ≤ 3
  hd : headsOk h.heads
  ks : kindsOk h.events h.kinds = true
def ruleRows (hs : List Str) : List (List Str) := List.zipWith (fun n v => [n, v]) names hs
def hallRows (h : HallD) : List (List Str) := [sEvents, dig h.events] :: (ruleRows h.heads ++ h.kinds.map kindRow)
def rowsText (rows : List (List Str)) : Str := lined (rows.map (Txt.join SP))
def hallText (h : HallD) : Str := rowsText (hallRows h)
/-- the rows of words of a text -/
def rowsOf (t : Str) : List (List Str) := (Txt.split t NL).dropLast.map fun l => Txt.split l SP
def restOf (t : Str) : Str := (Txt.split t NL).getLast (sepN.ne t)
def headsOf (rows : List (List Str)) : List Str := ((rows.drop 1).take 7).map fun ws => ws.getD 1 NO
def made (rows : List (List Str)) : HallD := ⟨evOf rows, (rows.drop 8).filterMap (kindIn (evOf rows)), headsOf rows⟩
def readHall (t : Str) : Except Nat HallD :=
  match fb (rowOk (evOf (rowsOf t))) 0 (rowsOf t) with
  | some i => .error i
  | none => if restOf t ≠ NO ∨ (rowsOf t).length < 8 then .error (rowsOf t).length
    else if kindsOk (evOf (rowsOf t)) (made (rowsOf t)).kinds = true then .ok (made (rowsOf t)) else .error (rowsOf t).length
/-! ### what is read writes the text -/
theorem kindIn_some {ev : Nat} {ws : List Str} {k : Kind} (h : kindIn ev ws = some k) : kindRow k = ws ∧ k.ev < ev ∧ k.ev < 10 ∧ k.acts.all actSmall = true := by
  unfold kindIn at h
  split at h
  · rename_i a e o r
    by_cases c : a = sKind ∧ (o = sOnce ∨ o = sAlways)
    · rw [if_pos c] at h
      split at h
      · rename_i n as hn ha
        by_cases c2 : n < ev
        · rw [if_pos c2] at h
          cases h
          refine ⟨?_, c2, (numIn_some hn).1, actsIn_small ha⟩
          unfold kindRow
          rw [actsIn_words ha, ← (numIn_some hn).2, c.1]
          have eo : (if decide (o = sOnce) = true then sOnce else sAlways) = o := by
            by_cases z : o = sOnce
            · rw [if_pos (decide_eq_true z), z]
            · rw [if_neg (by rw [decide_eq_false z]; decide)]
              rcases c.2 with q | q
              · exact absurd q z
              · exact q.symm
          show sKind :: e :: (if decide (o = sOnce) = true then sOnce else sAlways) :: r = _
          rw [eo]
        · rw [if_neg c2] at h; cases h
      · cases h
    · rw [if_neg c] at h; cases h
  · cases h
theorem kindIn_row {ev : Nat} {k : Kind} (h1 : k.ev < ev) (h2 : k.ev < 10) (h3 : k.acts.all actSmall = true) : kindIn ev (kindRow k) = some k := by
  unfold kindIn kindRow
  have hne : ¬ sAlways = sOnce := by decide +kernel
  have c : sKind = sKind ∧ ((if k.once = true then sOnce else sAlways) = sOnce ∨ (if k.once = true then sOnce else sAlways) = sAlways) := by
    refine ⟨rfl, ?_⟩
    cases k.once
    · exact .inr rfl
    · exact .inl rfl
  show (if sKind = sKind ∧ ((if k.once = true then sOnce else sAlways) = sOnce ∨ (if k.once = true then sOnce else sAlways) = sAlways) then match numIn (dig k.ev), actsIn (k.acts.flatMap actWords) with
      | some n, some as => if n < ev then some (⟨n, decide ((if k.once = true then sOnce else sAlways) = sOnce), as⟩ : Kind) else none
      | _, _ => none
    else none) = some k
  rw [if_pos c, numIn_dig h2, words_actsIn h3]
  show (if k.ev < ev then some (⟨k.ev, decide ((if k.once = true then sOnce else sAlways) = sOnce), k.acts⟩ : Kind) else none) = some k
  rw [if_pos h1]
  congr 1
  obtain ⟨e, o, as⟩ := k
  cases o
  · show (⟨e, decide (sAlways = sOnce), as⟩ : Kind) = _
    rw [decide_eq_false hne]
  · show (⟨e, decide (sOnce = sOnce), as⟩ : Kind) = _
    rw [decide_eq_true rfl]
theorem eight {rows : List (List Str)} (h : 8 ≤ rows.length) : ∃ r0 r1 r2 r3 r4 r5 r6 r7 rest, rows = r0 :: r1 :: r2 :: r3 :: r4 :: r5 :: r6 :: r7 :: rest := by
  match rows, h with
  | r0 :: r1 :: r2 :: r3 :: r4 :: r5 :: r6 :: r7 :: rest, _ => exact ⟨r0, r1, r2, r3, r4, r5, r6, r7, rest, rfl⟩
theorem headOk_succ {j : Nat} {ws : List Str} (h : headOk (j + 1) ws = true) : ∃ v, ws = [names.getD j NO, v] ∧ v ∈ vals.getD j [] := by
  unfold headOk at h
  split at h
  · rename_i a b
    rw [Bool.and_eq_true] at h
    have h1 : a = names.getD j NO := of_decide_eq_true h.1
    have h2 : b ∈ vals.getD j [] := of_decide_eq_true h.2
    exact ⟨b, by rw [h1], h2⟩
  · cases h
theorem headOk_zero {ws : List Str} (h : headOk 0 ws = true) : ∃ b n, ws = [sEvents, b] ∧ numIn b = some n ∧ 1 ≤ n ∧ n ≤ 3 := by
  unfold headOk at h
  split at h
  · rename_i a b
    rw [Bool.and_eq_true] at h
    have h1 : a = sEvents := of_decide_eq_true h.1
    have h2 := h.2
    split at h2
    · rename_i n hn
      rw [Bool.and_eq_true] at h2
      exact ⟨b, n, by rw [h1], hn, of_decide_eq_true h2.1, of_decide_eq_true h2.2⟩
    · cases h2
  · cases h
theorem rest_kinds {ev : Nat} : ∀ {rest : List (List Str)} {k : Nat}, 8 ≤ k → (∀ j r, rest[j]? = some r → rowOk ev (k + j) r = true) → (rest.filterMap (kindIn ev)).map kindRow = rest ∧ (rest.filterMap (kindIn ev)).length = rest.length
  | [], _, _, _ => ⟨rfl, rfl⟩
  | r :: rs, k, hk, h => by
    have h0 := h 0 r rfl
    unfold rowOk at h0
    rw [if_neg (by omega), Bool.and_eq_true] at h0
    obtain ⟨kd, hkd⟩ := Option.isSome_iff_exists.mp h0.1
    obtain ⟨i1, i2⟩ := rest_kinds (rest := rs) (k := k + 1) (by omega) fun j r' e => by
      have := h (j + 1) r' (by simpa using e)
      rw [show k + 1 + j = k + (j + 1) by omega]
      exact this
    rw [List.filterMap_cons, hkd]
    exact ⟨by rw [List.map_cons, i1, (kindIn_some hkd).1], by rw [List.length_cons, i2, List.length_cons]⟩
theorem rows_made {rows : List (List Str)} (h8 : 8 ≤ rows.length) (hf : fb (rowOk (evOf rows)) 0 rows = none) :
    hallRows (made rows) = rows ∧ headsOk (made rows).heads ∧ 1 ≤ evOf rows ∧ evOf rows ≤ 3 ∧ (made rows).kinds.length = rows.length - 8 := by
  obtain ⟨r0, r1, r2, r3, r4, r5, r6, r7, rest, rfl⟩ := eight h8
  have ha := fb_all hf
  have g : ∀ j r, j < 8 → (r0 :: r1 :: r2 :: r3 :: r4 :: r5 :: r6 :: r7 :: rest)[j]? = some r → headOk j r = true := fun j r hj e => by
    have := ha j r e
    unfold rowOk at this
    rw [Nat.zero_add, if_pos hj] at this
    exact this
  obtain ⟨b, n, e0, hn, n1, n3⟩ := headOk_zero (g 0 r0 (by omega) rfl)
  obtain ⟨v1, e1, m1⟩ := headOk_succ (g 1 r1 (by omega) rfl)
  obtain ⟨v2, e2, m2⟩ := headOk_succ (g 2 r2 (by omega) rfl)
  obtain ⟨v3, e3, m3⟩ := headOk_succ (g 3 r3 (by omega) rfl)
  obtain ⟨v4, e4, m4⟩ := headOk_succ (g 4 r4 (by omega) rfl)
  obtain ⟨v5, e5, m5⟩ := headOk_succ (g 5 r5 (by omega) rfl)
  obtain ⟨v6, e6, m6⟩ := headOk_succ (g 6 r6 (by omega) rfl)
  obtain ⟨v7, e7, m7⟩ := headOk_succ (g 7 r7 (by omega) rfl)
  subst e0 e1 e2 e3 e4 e5 e6 e7
  have hev : ∀ l, evOf ([sEvents, b] :: l) = n := fun l => by
    show (numIn b).getD 0 = n
    rw [hn] <;> rfl
  rw [hev] at ha
  obtain ⟨k1, k2⟩ := rest_kinds (ev := n) (rest := rest) (k := 8) (Nat.le_refl _) fun j r e => by
    have := ha (8 + j) r (by
      rw [show 8 + j = j + 8 by omega]
      simpa using e)
    rwa [Nat.zero_add] at this
  have hm : ∀ l, made ([sEvents, b] :: l) = ⟨n, (([sEvents, b] :: l).drop 8).filterMap (kindIn n), headsOf ([sEvents, b] :: l)⟩ := fun l => by
    unfold made
    rw [hev]
  refine ⟨?_, ⟨?_, ?_⟩, by rw [hev]; exact n1, by rw [hev]; exact n3, ?_⟩
  · rw [hm]
    unfold hallRows
    show [sEvents, dig n] :: (_ ++ (rest.filterMap (kindIn n)).map kindRow) = _
    rw [k1, ← (numIn_some hn).2]
    rfl
  · rw [hm] <;> rfl
  · rw [hm]
    intro i w hw
    match i, hw with
    | 0, hw => cases (Option.some.inj (show some v1 = some w from hw)); exact m1
    | 1, hw => cases (Option.some.inj (show some v2 = some w from hw)); exact m2
    | 2, hw => cases (Option.some.inj (show some v3 = some w from hw)); exact m3
    | 3, hw => cases (Option.some.inj (show some v4 = some w from hw)); exact m4
    | 4, hw => cases (Option.some.inj (show some v5 = some w from hw)); exact m5
    | 5, hw => cases (Option.some.inj (show some v6 = some w from hw)); exact m6
    | 6, hw => cases (Option.some.inj (show some v7 = some w from hw)); exact m7
    | i + 7, hw => cases (show none = some w from hw)
  · rw [hm]
    show (rest.filterMap (kindIn n)).length = _
    rw [k2] <;> rfl
theorem rowsText_of {t : Str} (h : restOf t = NO) : rowsText (rowsOf t) = t := by
  unfold rowsText rowsOf
  rw [List.map_map]
  have e : ((Txt.join SP) ∘ fun l => Txt.split l SP) = id := by
    funext l
    exact sepS.join l
  rw [e, List.map_id]
  refine lined_back ?_
  rw [← h]
  exact split_parts t
theorem readHall_ok {t : Str} {h : HallD} (e : readHall t = .ok h) : hallText h = t ∧ HallOk h := by
  unfold readHall at e
  split at e
  · cases e
  · rename_i hf
    by_cases c : restOf t ≠ NO ∨ (rowsOf t).length < 8
    · rw [if_pos c] at e; cases e
    · rw [if_neg c] at e
      have c1 : restOf t = NO := by
        by_cases z : restOf t = NO
        · exact z
        · exact absurd (.inl z) c
      have c2 : 8 ≤ (rowsOf t).length := by
        by_cases z : (rowsOf t).length < 8
        · exact absurd (.inr z) c
        · omega
      by_cases k : kindsOk (evOf (rowsOf t)) (made (rowsOf t)).kinds = true
      · rw [if_pos k] at e
        cases e
        obtain ⟨m1, m2, m3, m4, _⟩ := rows_made c2 hf
        refine ⟨?_, m3, m4, m2, k⟩
        unfold hallText
        rw [m1]
        exact rowsText_of c1
      · rw [if_neg k] at e; cases e
/-! ### the law's own reader -/
def lawRowOk (ev i : Nat) (ws : List Str) : Bool :=
  if i = 0 then (match ws with | [a, b] => decide (a = sEvents) && decide (b ∈ ([dig 1, dig 2, dig 3] : List Str)) | _ => false)
  else if i < 8 then (match ws with | [a, b] => decide (a = names.getD (i - 1) NO) && decide (b ∈ vals.getD (i - 1) []) | _ => false)
  else (match ws with
    | k :: e :: o :: r => (actsIn r).isSome && (decide (k = sKind) && (decide (o = sOnce ∨ o = sAlways) && (!decide (i = 12) && (match numIn e with | some n => decide (n < ev) | none => false))))
    | _ => false)
def lawActBad (ev many : Nat) (as : List Act) : Bool := as.any fun a => decide (3 < as.length) || !actOk ev many a
/-- the acts of a row of a kind -/
def rowActs (ws : List Str) : List Act := (actsIn (ws.drop 3)).getD []
def lawRead (t : Str) : Option Nat :=
  match fb (lawRowOk (evOf (rowsOf t))) 0 (rowsOf t) with
  | some i => some i
  | none => if restOf t ≠ NO ∨ (rowsOf t).length < 9 then some (rowsOf t).length
    else if ((rowsOf t).drop 8).any (fun ws => lawActBad (evOf (rowsOf t)) ((rowsOf t).length - 8) (rowActs ws)) = true then some (rowsOf t).length else none
def errOf {α : Type} : Except Nat α → Option Nat
  | .error i => some i
  | .ok _ => none
theorem num123 (b : Str) : decide (b ∈ ([dig 1, dig 2, dig 3] : List Str)) = (match numIn b with | some n => decide (1 ≤ n) && decide (n ≤ 3) | none => false) := by
  cases e : numIn b with
  | none =>
    refine decide_eq_false fun h => ?_
    simp only [List.mem_cons, List.not_mem_nil, or_false] at h
    rcases h with h | h | h <;> (rw [h, numIn_dig (by omega)] at e; cases e)
  | some n =>
    obtain ⟨h10, rfl⟩ := numIn_some e
    show decide (dig n ∈ ([dig 1, dig 2, dig 3] : List Str)) = (decide (1 ≤ n) && decide (n ≤ 3))
    match n, h10 with
    | 0, _ => decide +kernel
    | 1, _ => decide +kernel
    | 2, _ => decide +kernel
    | 3, _ => decide +kernel
    | 4, _ => decide +kernel
    | 5, _ => decide +kernel
    | 6, _ => decide +kernel
    | 7, _ => decide +kernel
    | 8, _ => decide +kernel
    | 9, _ => decide +kernel
    | n + 10, h => exact absurd h (by omega)
theorem lawRow_eq (ev i : Nat) (ws : List Str) : lawRowOk ev i ws = rowOk ev i ws := by
  unfold lawRowOk rowOk
  by_cases h0 : i = 0
  · subst h0
    rw [if_pos rfl, if_pos (by omega)]
    unfold headOk
    split
    · rename_i a b
      rw [num123]
    · rfl
  · rw [if_neg h0]
    by_cases h8 : i < 8
    · rw [if_pos h8, if_pos h8]
      obtain ⟨j, rfl⟩ : ∃ j, i = j + 1 := ⟨i - 1, by omega⟩
      rfl
    · rw [if_neg h8, if_neg h8]
      unfold kindIn
      split
      · rename_i k e o r
        by_cases c : k = sKind ∧ (o = sOnce ∨ o = sAlways)
        · rw [if_pos c, decide_eq_true c.1, decide_eq_true c.2]
          cases hn : numIn e with
          | none => cases actsIn r <;> simp
          | some n =>
            cases ha : actsIn r with
            | none => simp
            | some as =>
              by_cases c2 : n < ev
              · simp [c2]
              · simp [c2]
        · rw [if_neg c]
          by_cases c1 : k = sKind
          · have c2 : ¬ (o = sOnce ∨ o = sAlways) := fun z => c ⟨c1, z⟩
            rw [decide_eq_false c2]
            simp
          · rw [decide_eq_false c1]
            simp
      · rfl
theorem rowActs_kind {ev : Nat} {ws : List Str} {k : Kind} (h : kindIn ev ws = some k) : rowActs ws = k.acts := by
  unfold kindIn at h
  split at h
  · rename_i a e o r
    by_cases c : a = sKind ∧ (o = sOnce ∨ o = sAlways)
    · rw [if_pos c] at h
      split at h
      · rename_i n as hn ha
        by_cases c2 : n < ev
        · rw [if_pos c2] at h
          cases h
          show (actsIn r).getD [] = as
          rw [ha] <;> rfl
        · rw [if_neg c2] at h; cases h
      · cases h
    · rw [if_neg c] at h; cases h
  · cases h
theorem lawActBad_eq (ev many : Nat) (k : Kind) (h : k.ev < ev) : lawActBad ev many k.acts = !kindOk ev many k := by
  unfold lawActBad kindOk
  rw [decide_eq_true h, Bool.true_and]
  by_cases c : k.acts.length ≤ 3
  · rw [decide_eq_true c, Bool.true_and, List.all_eq_not_any_not, Bool.not_not]
    congr 1
    funext a
    rw [decide_eq_false (by omega), Bool.false_or]
  · rw [decide_eq_false c, Bool.false_and]
    cases e : k.acts with
    | nil =>
      rw [e] at c
      simp at c
    | cons a r =>
      rw [List.any_cons, decide_eq_true (by rw [e] at c; omega)]
      simp
theorem any_bad {ev many : Nat} : ∀ {rest : List (List Str)} {k : Nat}, 8 ≤ k → (∀ j r, rest[j]? = some r → rowOk ev (k + j) r = true) → rest.any (fun ws => lawActBad ev many (rowActs ws)) = !(rest.filterMap (kindIn ev)).all (kindOk ev many)
  | [], _, _, _ => rfl
  | r :: rs, k, hk, h => by
    have h0 := h 0 r rfl
    unfold rowOk at h0
    rw [if_neg (by omega), Bool.and_eq_true] at h0
    obtain ⟨kd, hkd⟩ := Option.isSome_iff_exists.mp h0.1
    have ih := any_bad (ev := ev) (many := many) (rest := rs) (k := k + 1) (by omega) fun j r' e => by
      have := h (j + 1) r' (by simpa using e)
      rw [show k + 1 + j = k + (j + 1) by omega]
      exact this
    rw [List.any_cons, ih, List.filterMap_cons, hkd]
    show _ = !(kindOk ev many kd && (rs.filterMap (kindIn ev)).all (kindOk ev many))
    rw [rowActs_kind hkd, lawActBad_eq ev many kd (kindIn_some hkd).2.1, Bool.not_and]
/-- THE LAW, of halls: both readers refuse at the same row -/
theorem law_hall (t : Str) : lawRead t = errOf (readHall t) := by
  unfold lawRead readHall
  rw [fb_congr (p := lawRowOk (evOf (rowsOf t))) (q := rowOk (evOf (rowsOf t))) fun j r => lawRow_eq _ j r]
  cases hf : fb (rowOk (evOf (rowsOf t))) 0 (rowsOf t) with
  | some i => rfl
  | none =>
    show (if restOf t ≠ NO ∨ (rowsOf t).length < 9 then some (rowsOf t).length
      else if ((rowsOf t).drop 8).any (fun ws => lawActBad (evOf (rowsOf t)) ((rowsOf t).length - 8) (rowActs ws)) = true then some (rowsOf t).length else none) =
      errOf (if restOf t ≠ NO ∨ (rowsOf t).length < 8 then .error (rowsOf t).length
        else if kindsOk (evOf (rowsOf t)) (made (rowsOf t)).kinds = true then .ok (made (rowsOf t)) else .error (rowsOf t).length)
    by_cases c : restOf t ≠ NO ∨ (rowsOf t).length < 8
    · rw [if_pos c, if_pos (c.elim .inl fun z => .inr (by omega))] <;> rfl
    · have c2 : 8 ≤ (rowsOf t).length := by
        by_cases z : (rowsOf t).length < 8
        · exact absurd (.inr z) c
        · omega
      obtain ⟨_, _, _, _, m5⟩ := rows_made c2 hf
      rw [if_neg c]
      by_cases c9 : (rowsOf t).length < 9
      · rw [if_pos (.inr c9), if_neg]
        · rfl
        · intro z
          unfold kindsOk at z
          rw [m5, Bool.and_eq_true, Bool.and_eq_true] at z
          have := of_decide_eq_true z.1.1
          omega
      · rw [if_neg (fun z => z.elim (fun z => c (.inl z)) c9)]
        have ha := fb_all hf
        have l12 : (rowsOf t).length ≤ 12 := by
          by_cases z : (rowsOf t).length ≤ 12
          · exact z
          · have := ha 12 ((rowsOf t)[12]'(by omega)) (List.getElem?_eq_getElem (by omega))
            unfold rowOk at this
            rw [if_neg (by omega), Bool.and_eq_true] at this
            have := this.2
            simp at this
        have hb := any_bad (ev := evOf (rowsOf t)) (many := (rowsOf t).length - 8) (rest := (rowsOf t).drop 8) (k := 8) (Nat.le_refl _) fun j r e => by
          have := ha (8 + j) r (by rw [List.getElem?_drop] at e; exact e)
          rwa [Nat.zero_add] at this
        rw [hb]
        have hk : kindsOk (evOf (rowsOf t)) (made (rowsOf t)).kinds = (((rowsOf t).drop 8).filterMap (kindIn (evOf (rowsOf t)))).all (kindOk (evOf (rowsOf t)) ((rowsOf t).length - 8)) := by
          unfold kindsOk
          rw [m5, decide_eq_true (by omega), decide_eq_true (by omega)]
          rfl
        rw [hk]
        cases (((rowsOf t).drop 8).filterMap (kindIn (evOf (rowsOf t)))).all (kindOk (evOf (rowsOf t)) ((rowsOf t).length - 8)) <;> rfl
end K5
set_option Elab.async false
set_option linter.all false
set_option maxRecDepth 100000
set_option maxHeartbeats 4000000
/-! What is written is read back; histories. -/
namespace K5
open PySem
/-- a word: no blank, no line feed -/
def Wd (z : Str) : Prop := 32 ∉ TL.tl z ∧ 10 ∉ TL.tl z
def wdB (z : Str) : Bool := (TL.tl z).all fun c => c != 32 && c != 10
theorem wd_of {z : Str} (h : wdB z = true) : Wd z := by
  unfold wdB at h
  rw [List.all_eq_true] at h
  refine ⟨fun m => ?_, fun m => ?_⟩
  · have := h _ m
    simp at this
  · have := h _ m
    simp at this
theorem wd_dig {n : Nat} (h : n < 10) : Wd (dig n) := by
  unfold Wd
  rw [tl_dig h]
  simp only [List.mem_singleton]
  omega
theorem wd_w3 (w : W3) : Wd w.s := by cases w <;> exact wd_of (by decide +kernel)
theorem wd_act {a : Act} (h : actSmall a = true) : ∀ z ∈ actWords a, Wd z := by
  intro z hz
  cases a with
  | raise =>
    rw [List.mem_singleton.mp hz]
    exact wd_of (by decide +kernel)
  | num w n =>
    have hn : n < 10 := of_decide_eq_true h
    rcases List.mem_cons.mp hz with e | hz
    · rw [e]; exact wd_w3 w
    · rw [List.mem_singleton.mp hz]; exact wd_dig hn
theorem mem_joinL {s c : Nat} (h : c ≠ s) : ∀ {ps : List (List Nat)}, (∀ p ∈ ps, c ∉ p) → c ∉ TL.joinL [s] ps
  | [], _ => by simp [TL.joinL]
  | [p], hp => hp p (by simp)
  | p :: q :: r, hp => by
    show c ∉ p ++ ([s] ++ TL.joinL [s] (q :: r))
    simp only [List.mem_append, List.mem_singleton, not_or]
    exact ⟨hp p (by simp), h, mem_joinL h fun z hz => hp z (List.mem_cons_of_mem _ hz)⟩
theorem free_row {r : List Str} (h : ∀ z ∈ r, Wd z) : 10 ∉ TL.tl (Txt.join SP r) := by
  rw [TL.join_eq, TL.tl_join, sepS.tl]
  refine mem_joinL (by decide) fun p hp => ?_
  obtain ⟨z, hz, rfl⟩ := List.mem_map.mp hp
  exact (h z hz).2
theorem split_row {r : List Str} (hne : r ≠ []) (h : ∀ z ∈ r, Wd z) : Txt.split (Txt.join SP r) SP = r := sepS.back hne fun p hp => (h p hp).1
/-- rows of words, written and read -/
theorem rows_back {rows : List (List Str)} (hne : ∀ r ∈ rows, r ≠ []) (h : ∀ r ∈ rows, ∀ z ∈ r, Wd z) : rowsOf (rowsText rows) = rows ∧ restOf (rowsText rows) = NO := by
  have hs : Txt.split (rowsText rows) NL = rows.map (Txt.join SP) ++ [NO] := split_lined fun l hl => by
    obtain ⟨r, hr, rfl⟩ := List.mem_map.mp hl
    exact free_row (h r hr)
  refine ⟨?_, ?_⟩
  · unfold rowsOf
    rw [hs, List.dropLast_concat, List.map_map]
    have e : ∀ r ∈ rows, ((fun l => Txt.split l SP) ∘ Txt.join SP) r = r := fun r hr => split_row (hne r hr) (h r hr)
    have e2 : rows.map ((fun l => Txt.split l SP) ∘ Txt.join SP) = rows.map id := List.map_congr_left e
    rw [e2, List.map_id]
  · unfold restOf
    have key : ∀ (l : List Str) (h : l ≠ []) (m : List Str), l = m ++ [NO] → l.getLast h = NO := fun l h m e => by
      subst e
      simp
    exact key _ _ _ hs
theorem actOk_small {ev many : Nat} (he : ev ≤ 3) (hm : many ≤ 4) {a : Act} (h : actOk ev many a = true) : actSmall a = true := by
  cases a with
  | raise => rfl
  | num w n =>
    refine decide_eq_true ?_
    cases w with
    | emit => have : n < ev := of_decide_eq_true h; omega
    | add => have : n < many := of_decide_eq_true h; omega
    | cut => have : n < many := of_decide_eq_true h; omega
theorem acts_small {ev many : Nat} (he : ev ≤ 3) (hm : many ≤ 4) {as : List Act} (h : as.all (actOk ev many) = true) : as.all actSmall = true := by
  rw [List.all_eq_true] at h ⊢
  exact fun a ha => actOk_small he hm (h a ha)
theorem seven {hs : List Str} (h : hs.length = 7) : ∃ a b c d e f g, hs = [a, b, c, d, e, f, g] := by
  match hs, h with
  | [a, b, c, d, e, f, g], _ => exact ⟨a, b, c, d, e, f, g, rfl⟩
theorem vals_wd : ∀ (i : Nat) (v : Str), v ∈ vals.getD i [] → Wd v := by
  intro i v h
  have all : (vals.all fun l => l.all wdB) = true := by decide +kernel
  rw [List.all_eq_true] at all
  by_cases hi : i < vals.length
  · rw [List.getD_eq_getElem?_getD, List.getElem?_eq_getElem hi] at h
    have := all _ (List.getElem_mem hi)
    rw [List.all_eq_true] at this
    exact wd_of (this v h)
  · rw [List.getD_eq_getElem?_getD, List.getElem?_eq_none (by omega)] at h
    cases h
theorem names_wd (i : Nat) (h : i < 7) : Wd (names.getD i NO) := by
  match i, h with
  | 0, _ => exact wd_of (by decide +kernel)
  | 1, _ => exact wd_of (by decide +kernel)
  | 2, _ => exact wd_of (by decide +kernel)
  | 3, _ => exact wd_of (by decide +kernel)
  | 4, _ => exact wd_of (by decide +kernel)
  | 5, _ => exact wd_of (by decide +kernel)
  | 6, _ => exact wd_of (by decide +kernel)
  | i + 7, h => exact absurd h (by omega)
structure KindP (ev many : Nat) (k : Kind) : Prop where
  e : k.ev < ev
  l : k.acts.length ≤ 3
  a : k.acts.all (actOk ev many) = true
theorem kindOk_iff {ev many : Nat} {k : Kind} (h : kindOk ev many k = true) : KindP ev many k := by
  unfold kindOk at h
  rw [Bool.and_eq_true, Bool.and_eq_true] at h
  exact ⟨of_decide_eq_true h.1, of_decide_eq_true h.2.1, h.2.2⟩
structure KindsP (ev : Nat) (ks : List Kind) : Prop where
  l1 : 1 ≤ ks.length
  l4 : ks.length ≤ 4
  all : ∀ k ∈ ks, KindP ev ks.length k
theorem kindsOk_iff {ev : Nat} {ks : List Kind} (h : kindsOk ev ks = true) : KindsP ev ks := by
  unfold kindsOk at h
  rw [Bool.and_eq_true, Bool.and_eq_true, List.all_eq_true] at h
  exact ⟨of_decide_eq_true h.1.1, of_decide_eq_true h.1.2, fun k hk => kindOk_iff (h.2 k hk)⟩
theorem kindsOk_of {ev : Nat} {ks : List Kind} (h : KindsP ev ks) : kindsOk ev ks = true := by
  unfold kindsOk
  rw [decide_eq_true h.l1, decide_eq_true h.l4, Bool.true_and, Bool.true_and, List.all_eq_true]
  intro k hk
  have q := h.all k hk
  unfold kindOk
  rw [decide_eq_true q.e, decide_eq_true q.l, q.a] <;> rfl
theorem kindRow_wd {ev : Nat} {ks : List Kind} (he : ev ≤ 3) (h : KindsP ev ks) {k : Kind} (hk : k ∈ ks) : ∀ z ∈ kindRow k, Wd z := by
  intro z hz
  have q := h.all k hk
  unfold kindRow at hz
  rcases List.mem_cons.mp hz with e | hz
  · rw [e]; exact wd_of (by decide +kernel)
  rcases List.mem_cons.mp hz with e | hz
  · rw [e]; exact wd_dig (by have := q.e; omega)
  rcases List.mem_cons.mp hz with e | hz
  · rw [e]
    cases k.once
    · exact wd_of (by decide +kernel)
    · exact wd_of (by decide +kernel)
  · obtain ⟨a, ha, hz⟩ := List.mem_flatMap.mp hz
    have := acts_small he h.l4 q.a
    rw [List.all_eq_true] at this
    exact wd_act (this a ha) z hz
theorem kinds_back {ev : Nat} {many : Nat} (he : ev ≤ 3) (hm : many ≤ 4) : ∀ {ks : List Kind}, (∀ k ∈ ks, KindP ev many k) → (ks.map kindRow).filterMap (kindIn ev) = ks
  | [], _ => rfl
  | k :: ks, h => by
    have q := h k (by simp)
    rw [List.map_cons, List.filterMap_cons, kindIn_row q.e (by have := q.e; omega) (acts_small he hm q.a), kinds_back he hm fun k' hk' => h k' (List.mem_cons_of_mem _ hk')]
theorem hall_back {h : HallD} (ok : HallOk h) : readHall (hallText h) = .ok h := by
  obtain ⟨ev, ks, hs⟩ := h
  have e1 : 1 ≤ ev := ok.e1
  have e3 : ev ≤ 3 := ok.e3
  obtain ⟨hl, hv⟩ := (show headsOk hs from ok.hd)
  have kp : KindsP ev ks := kindsOk_iff ok.ks
  obtain ⟨a, b, c, d, e, f, g, rfl⟩ := seven hl
  have v : ∀ i w, ([a, b, c, d, e, f, g] : List Str)[i]? = some w → w ∈ vals.getD i [] := hv
  have hr : hallRows ⟨ev, ks, [a, b, c, d, e, f, g]⟩ = [sEvents, dig ev] :: [names.getD 0 NO, a] :: [names.getD 1 NO, b] :: [names.getD 2 NO, c] :: [names.getD 3 NO, d] :: [names.getD 4 NO, e] :: [names.getD 5 NO, f] :: [names.getD 6 NO, g] :: ks.map kindRow := rfl
  have two : ∀ {x y : Str}, Wd x → Wd y → ∀ z ∈ ([x, y] : List Str), Wd z := fun {x y} hx hy z hz => by
    rcases List.mem_cons.mp hz with q | hz
    · rw [q]; exact hx
    · rw [List.mem_singleton.mp hz]; exact hy
  obtain ⟨r1, r2⟩ : rowsOf (hallText ⟨ev, ks, [a, b, c, d, e, f, g]⟩) = _ ∧ restOf (hallText ⟨ev, ks, [a, b, c, d, e, f, g]⟩) = NO := by
    unfold hallText
    rw [hr]
    refine rows_back (fun r hm => ?_) (fun r hm => ?_)
    · simp only [List.mem_cons, List.mem_map] at hm
      rcases hm with q | q | q | q | q | q | q | q | ⟨k, _, q⟩
      · rw [q]; simp
      · rw [q]; simp
      · rw [q]; simp
      · rw [q]; simp
      · rw [q]; simp
      · rw [q]; simp
      · rw [q]; simp
      · rw [q]; simp
      · rw [← q]; simp [kindRow]
    · simp only [List.mem_cons, List.mem_map] at hm
      rcases hm with q | q | q | q | q | q | q | q | ⟨k, hk, q⟩
      · rw [q]; exact two (wd_of (by decide +kernel)) (wd_dig (by omega))
      · rw [q]; exact two (names_wd 0 (by omega)) (vals_wd 0 _ (v 0 a rfl))
      · rw [q]; exact two (names_wd 1 (by omega)) (vals_wd 1 _ (v 1 b rfl))
      · rw [q]; exact two (names_wd 2 (by omega)) (vals_wd 2 _ (v 2 c rfl))
      · rw [q]; exact two (names_wd 3 (by omega)) (vals_wd 3 _ (v 3 d rfl))
      · rw [q]; exact two (names_wd 4 (by omega)) (vals_wd 4 _ (v 4 e rfl))
      · rw [q]; exact two (names_wd 5 (by omega)) (vals_wd 5 _ (v 5 f rfl))
      · rw [q]; exact two (names_wd 6 (by omega)) (vals_wd 6 _ (v 6 g rfl))
      · rw [← q]; exact kindRow_wd e3 kp hk
  have hev : ∀ l, evOf ([sEvents, dig ev] :: l) = ev := fun l => by
    show (numIn (dig ev)).getD 0 = ev
    rw [numIn_dig (by omega)] <;> rfl
  have hd : ∀ j w, w ∈ vals.getD j [] → headOk (j + 1) [names.getD j NO, w] = true := fun j w hw => by
    show (decide (names.getD j NO = names.getD j NO) && decide (w ∈ vals.getD j [])) = true
    rw [decide_eq_true rfl, decide_eq_true hw] <;> rfl
  have hf : fb (rowOk ev) 0 ([sEvents, dig ev] :: [names.getD 0 NO, a] :: [names.getD 1 NO, b] :: [names.getD 2 NO, c] :: [names.getD 3 NO, d] :: [names.getD 4 NO, e] :: [names.getD 5 NO, f] :: [names.getD 6 NO, g] :: ks.map kindRow) = none := by
    refine fb_none fun j r hj => ?_
    rw [Nat.zero_add]
    match j, hj with
    | 0, hj =>
      cases (Option.some.inj (show some [sEvents, dig ev] = some r from hj))
      show (decide (sEvents = sEvents) && (match numIn (dig ev) with | some n => decide (1 ≤ n) && decide (n ≤ 3) | none => false)) = true
      rw [numIn_dig (by omega), decide_eq_true rfl]
      show (true && (decide (1 ≤ ev) && decide (ev ≤ 3))) = true
      rw [decide_eq_true e1, decide_eq_true e3] <;> rfl
    | 1, hj => cases (Option.some.inj (show some [names.getD 0 NO, a] = some r from hj)); exact hd 0 a (v 0 a rfl)
    | 2, hj => cases (Option.some.inj (show some [names.getD 1 NO, b] = some r from hj)); exact hd 1 b (v 1 b rfl)
    | 3, hj => cases (Option.some.inj (show some [names.getD 2 NO, c] = some r from hj)); exact hd 2 c (v 2 c rfl)
    | 4, hj => cases (Option.some.inj (show some [names.getD 3 NO, d] = some r from hj)); exact hd 3 d (v 3 d rfl)
    | 5, hj => cases (Option.some.inj (show some [names.getD 4 NO, e] = some r from hj)); exact hd 4 e (v 4 e rfl)
    | 6, hj => cases (Option.some.inj (show some [names.getD 5 NO, f] = some r from hj)); exact hd 5 f (v 5 f rfl)
    | 7, hj => cases (Option.some.inj (show some [names.getD 6 NO, g] = some r from hj)); exact hd 6 g (v 6 g rfl)
    | j + 8, hj =>
      have hj' : (ks.map kindRow)[j]? = some r := hj
      rw [List.getElem?_map] at hj'
      obtain ⟨k, hk, rfl⟩ := Option.map_eq_some_iff.mp hj'
      have q := kp.all k (List.mem_of_getElem? hk)
      have hlt : j < ks.length := (List.getElem?_eq_some_iff.mp hk).1
      have := kp.l4
      unfold rowOk
      rw [if_neg (by omega), kindIn_row q.e (by have := q.e; omega) (acts_small e3 kp.l4 q.a), decide_eq_false (by omega)] <;> rfl
  unfold readHall
  rw [r1, hev, hf, r2]
  have hm : made ([sEvents, dig ev] :: [names.getD 0 NO, a] :: [names.getD 1 NO, b] :: [names.getD 2 NO, c] :: [names.getD 3 NO, d] :: [names.getD 4 NO, e] :: [names.getD 5 NO, f] :: [names.getD 6 NO, g] :: ks.map kindRow) = ⟨ev, ks, [a, b, c, d, e, f, g]⟩ := by
    unfold made
    rw [hev]
    show (⟨ev, (ks.map kindRow).filterMap (kindIn ev), _⟩ : HallD) = _
    rw [kinds_back e3 kp.l4 kp.all]
    rfl
  show (if NO ≠ NO ∨ _ < 8 then Except.error _ else _) = _
  rw [if_neg (by
    intro z
    rcases z with z | z
    · exact z rfl
    · simp only [List.length_cons] at z
      omega), hm, if_pos ok.ks]
/-! ### histories -/
abbrev Deed : Type := W3 × Nat
def deedOk (ev many : Nat) (d : Deed) : Bool := actOk ev many (.num d.1 d.2)
def deedRow (d : Deed) : List Str := [d.1.s, dig d.2]
def deedIn (ws : List Str) : Option Deed := match ws with
  | [a, b] => match w3 a, numIn b with
    | some w, some n => some (w, n)
    | _, _ => none
  | _ => none
def deedRowOk (ev many : Nat) (ws : List Str) : Bool := match deedIn ws with
  | some d => deedOk ev many d
  | none => false
def readHist (ev many : Nat) (t : Str) : Except Nat (List Deed) :=
  match fb (fun _ => deedRowOk ev many) 0 (rowsOf t) with
  | some i => .error i
  | none => if restOf t ≠ NO then .error (rowsOf t).length else .ok ((rowsOf t).filterMap deedIn)
def histText (ds : List Deed) : Str := rowsText (ds.map deedRow)
theorem deedIn_some {ws : List Str} {d : Deed} (h : deedIn ws = some d) : ws = deedRow d := by
  unfold deedIn at h
  split at h
  · rename_i a b
    split at h
    · rename_i w n hw hn
      cases h
      rw [w3_some hw, (numIn_some hn).2] <;> rfl
    · cases h
  · cases h
theorem deedIn_row {d : Deed} (h : d.2 < 10) : deedIn (deedRow d) = some d := by
  show (match w3 d.1.s, numIn (dig d.2) with
    | some w, some n => some (w, n)
    | _, _ => none) = some d
  rw [w3_s, numIn_dig h]
theorem deed_small {ev many : Nat} (he : ev ≤ 3) (hm : many ≤ 4) {d : Deed} (h : deedOk ev many d = true) : d.2 < 10 := of_decide_eq_true (actOk_small he hm h)
theorem deedRow_wd {d : Deed} (h : d.2 < 10) : ∀ z ∈ deedRow d, Wd z := by
  intro z hz
  rcases List.mem_cons.mp hz with e | hz
  · rw [e]; exact wd_w3 _
  · rw [List.mem_singleton.mp hz]; exact wd_dig h
theorem hist_back {ev many : Nat} (he : ev ≤ 3) (hm : many ≤ 4) {ds : List Deed} (h : ∀ d ∈ ds, deedOk ev many d = true) : readHist ev many (histText ds) = .ok ds := by
  obtain ⟨r1, r2⟩ : rowsOf (histText ds) = ds.map deedRow ∧ restOf (histText ds) = NO := rows_back (fun r hr => by
    obtain ⟨d, _, rfl⟩ := List.mem_map.mp hr
    simp [deedRow]) (fun r hr => by
    obtain ⟨d, hd, rfl⟩ := List.mem_map.mp hr
    exact deedRow_wd (deed_small he hm (h d hd)))
  unfold readHist
  rw [r1, r2]
  have hf : fb (fun _ => deedRowOk ev many) 0 (ds.map deedRow) = none := fb_none fun j r hj => by
    rw [List.getElem?_map] at hj
    obtain ⟨d, hd, rfl⟩ := Option.map_eq_some_iff.mp hj
    have q := h d (List.mem_of_getElem? hd)
    show deedRowOk ev many (deedRow d) = true
    unfold deedRowOk
    rw [deedIn_row (deed_small he hm q)]
    exact q
  rw [hf]
  show (if NO ≠ NO then Except.error _ else Except.ok _) = _
  rw [if_neg (fun z => z rfl)]
  congr 1
  clear hf r1 r2
  induction ds with
  | nil => rfl
  | cons d r ih =>
    rw [List.map_cons, List.filterMap_cons, deedIn_row (deed_small he hm (h d (by simp))), ih fun d' hd' => h d' (List.mem_cons_of_mem _ hd')]
def allDeeds (ev many : Nat) : List Deed := (List.range many).map (fun n => (W3.add, n)) ++ (List.range many).map (fun n => (W3.cut, n)) ++ (List.range ev).map (fun n => (W3.emit, n))
theorem mem_allDeeds {ev many : Nat} {d : Deed} : d ∈ allDeeds ev many ↔ deedOk ev many d = true := by
  obtain ⟨w, n⟩ := d
  unfold allDeeds
  simp only [List.mem_append, List.mem_map, List.mem_range, Prod.mk.injEq]
  cases w with
  | add => simp [deedOk, actOk]
  | cut => simp [deedOk, actOk]
  | emit => simp [deedOk, actOk]
def lineOf (d : Deed) : Str := Txt.join SP (deedRow d) ++ NL
theorem snoc_inj {a b : Str} (h : a ++ NL = b ++ NL) : a = b := by
  have e := congrArg TL.tl h
  rw [TL.tl_append, TL.tl_append] at e
  exact TL.ext_tl (List.append_cancel_right e)
theorem line_mem {ev many : Nat} (he : ev ≤ 3) (hm : many ≤ 4) (l : Str) : decide (l ++ NL ∈ (allDeeds ev many).map lineOf) = deedRowOk ev many (Txt.split l SP) := by
  by_cases h : l ++ NL ∈ (allDeeds ev many).map lineOf
  · rw [decide_eq_true h]
    obtain ⟨d, hd, e⟩ := List.mem_map.mp h
    have e1 := snoc_inj e
    have ok := mem_allDeeds.mp hd
    have sm := deed_small he hm ok
    unfold deedRowOk
    rw [← e1, split_row (by simp [deedRow]) (deedRow_wd sm), deedIn_row sm]
    exact ok.symm
  · rw [decide_eq_false h]
    unfold deedRowOk
    cases e : deedIn (Txt.split l SP) with
    | none => rfl
    | some d =>
      show false = deedOk ev many d
      cases q : deedOk ev many d with
      | false => rfl
      | true =>
        refine absurd (List.mem_map.mpr ⟨d, mem_allDeeds.mpr q, ?_⟩) h
        unfold lineOf
        rw [← deedIn_some e, sepS.join]
/-- the rows that are no line of a deed -/
def badOf (every : List Str) : Nat → List Str → List Nat
  | _, [] => []
  | k, l :: r => if decide (l ++ NL ∈ every) = true then badOf every (k + 1) r else k :: badOf every (k + 1) r
def lawHist (ev many : Nat) (t : Str) : Option Nat := match badOf ((allDeeds ev many).map lineOf) 0 (Txt.split t NL).dropLast with
  | i :: _ => some i
  | [] => if restOf t = NO then none else some (Txt.split t NL).dropLast.length
theorem bad_head {ev many : Nat} (he : ev ≤ 3) (hm : many ≤ 4) : ∀ (ls : List Str) (k : Nat), (badOf ((allDeeds ev many).map lineOf) k ls).head? = fb (fun _ => deedRowOk ev many) k (ls.map fun l => Txt.split l SP)
  | [], _ => rfl
  | l :: r, k => by
    show (if decide (l ++ NL ∈ (allDeeds ev many).map lineOf) = true then badOf _ (k + 1) r else k :: badOf _ (k + 1) r).head? = (if deedRowOk ev many (Txt.split l SP) = true then fb _ (k + 1) _ else some k)
    rw [line_mem he hm]
    by_cases c : deedRowOk ev many (Txt.split l SP) = true
    · rw [if_pos c, if_pos c, bad_head he hm r (k + 1)]
    · rw [if_neg c, if_neg c] <;> rfl
theorem law_hist {ev many : Nat} (he : ev ≤ 3) (hm : many ≤ 4) (t : Str) : lawHist ev many t = errOf (readHist ev many t) := by
  unfold lawHist readHist
  have hb := bad_head he hm (Txt.split t NL).dropLast 0
  have hr : (Txt.split t NL).dropLast.map (fun l => Txt.split l SP) = rowsOf t := rfl
  rw [hr] at hb
  have hl : (Txt.split t NL).dropLast.length = (rowsOf t).length := by
    unfold rowsOf
    rw [List.length_map]
  cases e : badOf ((allDeeds ev many).map lineOf) 0 (Txt.split t NL).dropLast with
  | nil =>
    rw [e] at hb
    rw [← hb]
    show (if restOf t = NO then none else some (Txt.split t NL).dropLast.length) = errOf (if restOf t ≠ NO then .error (rowsOf t).length else .ok ((rowsOf t).filterMap deedIn))
    by_cases c : restOf t = NO
    · rw [if_pos c, if_neg (fun z => z c)] <;> rfl
    · rw [if_neg c, if_pos c, hl] <;> rfl
  | cons i r =>
    rw [e] at hb
    rw [← hb] <;> rfl
end K5
set_option Elab.async false
set_option linter.all false
set_option maxRecDepth 100000
set_option maxHeartbeats 4000000
/-! The facts of the written part, by names. -/
namespace K5
open PySem PySem.Spec PyProof.Rows L2
abbrev cHall (K : PySem.W.Frag) : Addr := He.ga K "Hall"
/-- an own exception class: f its field -/
structure ExcT (K : PySem.W.Frag) (mg : Str → Option Value) (x f : Str) (st : Stmt) : Prop where
  oex : OexC K (He.ga K x)
  iC : PySem.W.findIn K (.ref (He.ga K x)) "__init__" = some (some (.ref (He.ma K (He.ga K x) "__init__")))
  tI : PySem.W.typeIn K (.ref (He.ma K (He.ga K x) "__init__")) = some (.type "function")
  kI : PySem.W.keepIn K (.ref (He.ma K (He.ga K x) "__init__")) = true
  noF : PySem.W.findIn K (.ref (He.ga K x)) f = some none
  ga : PySem.W.findIn K (.ref (He.ga K x)) "__getattribute__" = some (some (.builtin "BaseException.__getattribute__"))
  gg : PySem.W.findIn K (.ref (He.ga K x)) "__getattr__" = some none
  hd : PySem.W.hasDictIn K (He.ga K x) = true
  sub : PySem.W.subIn K (.ref (He.ga K x)) (.type "ValueError") = some true
  sup : PySem.W.ks_superIn K (He.ga K x) (He.ga K x) "__init__" = some (some (.builtin "ValueError.__init__"))
  sta : PySem.W.nsIn K cStatics "thirdparty.any" = some none
  exm : PySem.W.exmOne K (.ref (He.ga K x)) (.ref (He.ga K x)) = some true
  mgC : mg x = some (.ref (He.ga K x))
  fn : ∃ (oc : Value) (od : Option Addr) (osl : Array (Option Value)) (fd : FuncData) (cc : Addr) (co : Value) (cd : Option Addr) (csl : Array (Option Value)), K.lookup (He.ma K (He.ga K x) "__init__") = some ⟨oc, od, .func fd, osl⟩ ∧ fd.name = "__init__" ∧ fd.qualname = x ++ ".__init__" ∧ fd.params = defArgs st ∧ fd.body = .stmts (defBody st) ∧ fd.scope = defScope st ∧
    fd.globals = mainGlobals ∧ fd.builtins = builtinsNs ∧ fd.defaults = .none ∧ fd.kwdefaults = .none ∧ fd.closure = [(("__class__" : Str), cc)] ∧ (PySem.W.codeIn K fd.code (x ++ ".__init__") = true ∧ ∃ cda ccl cdd vs ccs tf, fd.code = .ref cda ∧ K.lookup cda = some ⟨ccl, cdd, .fields vs, ccs⟩ ∧ vs[2]? = some (.str mfile tf)) ∧ K.lookup cc = some ⟨co, cd, .cell (some (.ref (He.ga K x))), csl⟩
theorem opt2 {α : Type} [DecidableEq α] {a b : α} (h : decide (a = b) = true) : a = b := of_decide_eq_true h
theorem oexc_of {K : PySem.W.Frag} {x f : Str} (h : oexB K x f = true) (kC : PySem.W.keepIn K (.ref (He.ga K x)) = true) : OexC K (He.ga K x) ∧ PySem.W.hasDictIn K (He.ga K x) = true := by
  unfold oexB at h
  obtain ⟨h1, h⟩ := He.ba h
  obtain ⟨hsa, h⟩ := He.ba h
  obtain ⟨hbe, h⟩ := He.ba h
  obtain ⟨hve, h⟩ := He.ba h
  obtain ⟨hty, _⟩ := He.ba h
  cases q : K.lookup (He.ga K x) with
  | none => rw [q] at h1; cases h1
  | some o =>
    obtain ⟨oc, od, dt, sl⟩ := o
    rw [q] at h1
    cases oc with
    | type t =>
      cases dt with
      | cls cd =>
        obtain ⟨a1, a2⟩ := He.ba (show (decide (t = "type") && (decide (cd.mro = .ref (He.ga K x) :: cd.mro.drop 1) && (PySem.HandSPX.refsVE (cd.mro.drop 1) && (decide (sl.size = 6) && (decide (sl.toList[4]? = some (some (.builtin "ValueError.__new__"))) && (cd.hasDict && !cd.hasDel)))))) = true from h1)
        obtain ⟨a3, a4⟩ := He.ba a2
        obtain ⟨a5, a6⟩ := He.ba a4
        obtain ⟨a7, a8⟩ := He.ba a6
        obtain ⟨a9, a10⟩ := He.ba a8
        obtain ⟨a11, a12⟩ := He.ba a10
        have e1 : t = "type" := of_decide_eq_true a1
        have e3 := of_decide_eq_true a3
        have e7 : sl.size = 6 := of_decide_eq_true a7
        have e9 := of_decide_eq_true a9
        have hdel : cd.hasDel = false := by
          cases z : cd.hasDel with
          | false => rfl
          | true => rw [z] at a12; cases a12
        have hD : PySem.W.hasDictIn K (He.ga K x) = true := by
          unfold PySem.W.hasDictIn PySem.W.clsIn
          rw [q]
          exact a11
        refine ⟨⟨?_, He.eqO_ok hsa, of_decide_eq_true hbe, of_decide_eq_true hty, kC⟩, hD⟩
        obtain ⟨nm, bs, mro, ns, qn, hd, sn, sub, ab, col, del⟩ := cd
        dsimp only at e3 a11 hdel a5
        subst hdel e1 a11
        obtain ⟨l⟩ := sl
        have e7' : l.length = 6 := by simpa using e7
        match l, e7' with
        | [k0, k1, k2, k3, k4, k5], _ =>
          have e4 : k4 = some (.builtin "ValueError.__new__") := Option.some.inj (show some k4 = some (some (.builtin "ValueError.__new__")) from e9)
          subst e4
          refine ⟨nm, qn, ns, bs, mro.drop 1, sn, sub, ab, col, od, k0, k1, k2, k3, k5, ?_, a5⟩
          rw [q]
          rw [e3]
          rfl
      | _ => cases h1
    | _ => cases dt <;> cases h1
theorem fnC_ok {K : PySem.W.Frag} {p : Str × Option Str} {n q : Str} {a : Arguments} {b : FuncBody} {sc : Scope} {g bl : Addr} (h : fnC K p = some (n, q, a, b, sc, g, bl)) :
    ∃ oc od osl fd, K.lookup (He.fAd K p) = some ⟨oc, od, .func fd, osl⟩ ∧ fd.name = n ∧ fd.qualname = q ∧ fd.params = a ∧ fd.body = b ∧ fd.scope = sc ∧ fd.globals = g ∧ fd.builtins = bl := by
  unfold fnC at h
  cases e : K.lookup (He.fAd K p) with
  | none => rw [e] at h; cases h
  | some o =>
    obtain ⟨oc, od, dt, osl⟩ := o
    rw [e] at h
    cases dt with
    | func fd =>
      have h2 : (some (fd.name, fd.qualname, fd.params, fd.body, fd.scope, fd.globals, fd.builtins) : FnC) = some (n, q, a, b, sc, g, bl) := h
      simp only [Option.some.injEq, Prod.mk.injEq] at h2
      obtain ⟨h1, h2, h3, h4, h5, h6, h7⟩ := h2
      exact ⟨oc, od, osl, fd, rfl, h1, h2, h3, h4, h5, h6, h7⟩
    | _ => cases h
theorem filB_ok {K : PySem.W.Frag} {v : Value} (h : filB K v = true) : ∃ cda ccl cdd vs ccs tf, v = .ref cda ∧ K.lookup cda = some ⟨ccl, cdd, .fields vs, ccs⟩ ∧ vs[2]? = some (.str mfile tf) := by
  unfold filB at h
  split at h
  · rename_i c
    split at h
    · rename_i ccl cdd vs ccs q
      split at h
      · rename_i x y n tf r ql
        have e : n = mfile := beq_iff_eq.mp h
        subst e
        refine ⟨c, ccl, cdd, vs, ccs, tf, rfl, q, ?_⟩
        rw [← Array.getElem?_toList, ql]
        rfl
      · cases h
    · cases h
  · cases h
theorem celB_ok {K : PySem.W.Frag} {x : Str} (h : celB K x = true) {oc : Value} {od : Option Addr} {osl : Array (Option Value)} {fd : FuncData} (l : K.lookup (He.ma K (He.ga K x) "__init__") = some ⟨oc, od, .func fd, osl⟩) :
    (PySem.W.codeIn K fd.code (x ++ ".__init__") = true ∧ ∃ cda ccl cdd vs ccs tf, fd.code = .ref cda ∧ K.lookup cda = some ⟨ccl, cdd, .fields vs, ccs⟩ ∧ vs[2]? = some (.str mfile tf)) ∧ fd.defaults = .none ∧ fd.kwdefaults = .none ∧ ∃ cc co cd csl, fd.closure = [(("__class__" : Str), cc)] ∧ K.lookup cc = some ⟨co, cd, .cell (some (.ref (He.ga K x))), csl⟩ := by
  unfold celB at h
  rw [l] at h
  obtain ⟨h1, h2⟩ := He.ba (show (PySem.W.codeIn K fd.code (x ++ ".__init__") && filB K fd.code && (decide (fd.defaults = .none) && (decide (fd.kwdefaults = .none) && (decide (fd.closure.map (·.1) = ([("__class__" : Str)] : List Str)) && fd.closure.all fun q => match K.lookup q.2 with
      | some ⟨_, _, .cell v, _⟩ => decide (v = some (.ref (He.ga K x)))
      | _ => false)))) = true from h)
  obtain ⟨h0, hf⟩ := He.ba h1
  obtain ⟨h3, h4⟩ := He.ba h2
  obtain ⟨h5, h6⟩ := He.ba h4
  obtain ⟨h7, h8⟩ := He.ba h6
  refine ⟨⟨h0, filB_ok hf⟩, of_decide_eq_true h3, of_decide_eq_true h5, ?_⟩
  have e7 : fd.closure.map (·.1) = ([("__class__" : Str)] : List Str) := of_decide_eq_true h7
  generalize fd.closure = cl at e7 h8
  match cl, e7, h8 with
  | [(n, c)], e7, h8 =>
    have en : n = "__class__" := (List.cons.inj e7).1
    subst en
    have h9 : (match K.lookup c with
      | some ⟨_, _, .cell v, _⟩ => decide (v = some (.ref (He.ga K x)))
      | _ => false) = true := by simpa using h8
    cases q : K.lookup c with
    | none => rw [q] at h9; cases h9
    | some o =>
      obtain ⟨co, cd, dt, csl⟩ := o
      rw [q] at h9
      cases dt with
      | cell v =>
        have ev : v = some (.ref (He.ga K x)) := of_decide_eq_true h9
        subst ev
        exact ⟨c, co, cd, csl, rfl, q⟩
      | _ => cases h9
/-- a written tuple -/
theorem tupAt_ok {K : PySem.W.Frag} {a : Addr} {vs : List V} (h : tupAt K a vs = true) (H : Hp) : SqT K H a vs := by
  unfold tupAt at h
  cases q : K.lookup a with
  | none => rw [q] at h; cases h
  | some o =>
    obtain ⟨oc, od, dt, osl⟩ := o
    rw [q] at h
    cases oc with
    | type c =>
      cases dt with
      | seq its n =>
        obtain ⟨h1, h2⟩ := He.ba (show (decide (c = "tuple") && (decide (its.size ≤ sizeLine) && He.relAll vs its.toList)) = true from h)
        obtain ⟨h3, h4⟩ := He.ba h2
        exact .inr ⟨_, its, n, q, congrArg Value.type (of_decide_eq_true h1), rfl, of_decide_eq_true h3, He.relAll_ok h4⟩
      | _ => cases h
    | _ => cases dt <;> cases h
/-- a table of the top: its keys in order -/
structure TabK (K : PySem.W.Frag) (w : World) (a : Addr) (ks : List Str) : Prop where
  ex : ∃ (es : Array DictEntry) (n : Nat), KDict K w a es n ∧ es.toList.map He.keyOf = He.keysIn w.params ks
theorem tabK_of {K : PySem.W.Frag} {w : World} {a : Addr} {ks : List Str} (h : He.dicW K a = some (He.keysIn w.params ks)) : TabK K w a ks := by
  obtain ⟨es, n, D⟩ := He.dicW_ok (w := w) h
  refine ⟨es, n, D, ?_⟩
  have h0 := h
  unfold He.dicW at h0
  rw [D.at_] at h0
  have h1 : (match decide ("dict" = "dict") && ((#[] : Array (Option Value)).isEmpty && !(a == sysModules)) with
    | true => some (es.toList.map He.keyOf)
    | false => none) = some (He.keysIn w.params ks) := h0
  cases z : decide ("dict" = "dict") && ((#[] : Array (Option Value)).isEmpty && !(a == sysModules)) with
  | false => rw [z] at h1; cases h1
  | true => rw [z] at h1; exact Option.some.inj h1
structure Txt (w : World) (K : PySem.W.Frag) (mg : Str → Option Value) : Prop where
  glo : ∀ x ∈ globs1 ++ globs2, mg x = some (.ref (He.ga K x))
  fre : ∀ x ∈ frees, mg x = none
  mE : ∃ t, mg "MOST_EVENTS" = some (.int 3 t)
  mK : ∃ t, mg "MOST_KINDS" = some (.int 4 t)
  mA : ∃ t, mg "MOST_ACTS" = some (.int 3 t)
  dg : ∃ t, mg "DIGITS" = some (.str "0123456789" t)
  fnD : ∀ (i : Nat) (d : He.DefD), fn[i]? = some d → ∃ fd, FunD K d.name d.qual d.params d.body d.scope (d.dvs K) (d.kws K) (He.fAd K d.at_) fd
  cl : Cls K (cHall K)
  mRules : Meth K (cHall K) "rules" (He.ma K (cHall K) "rules")
  mLen : Meth K (cHall K) "__len__" (He.ma K (cHall K) "__len__")
  mEq : Meth K (cHall K) "__eq__" (He.ma K (cHall K) "__eq__")
  mkH : Mk K (cHall K) (He.ma K (cHall K) "__init__")
  na : ∀ f ∈ noats, NoAttr K (cHall K) f
  ins : C8.InsC K (cHall K)
  ne : ∃ nm q N bs hdct sn sub ab col dd k0 k1 k2 k3 k5 oc od es n osl, K.lookup (cHall K) = some (excClassObj nm q (cHall K) N bs [.type "object"] hdct sn sub ab col dd k0 k1 k2 k3 k5 "object.__new__") ∧ K.lookup N = some ⟨oc, od, .dict es n, osl⟩ ∧ StrKeys es ∧ nsFind es "__eq__" = some (.ref (He.ma K (cHall K) "__eq__")) ∧ nsFind es "__ne__" = none
  bh : ExcT K mg "BadHall" "part" sBadHall
  bt : ExcT K mg "BadText" "row" sBadText
  rk : TabK K w (He.ga K "RULES") ruleNames
  rv : ∀ q ∈ ruleVals, ∃ t, PySem.W.nsIn K (He.ga K "RULES") q.1 = some (some (.ref t)) ∧ ∀ H, SqT K H t q.2
  tk : TabK K w (He.ga K "TRUTHS") ["no", "yes"]
  tv : PySem.W.nsIn K (He.ga K "TRUTHS") "no" = some (some (.bool false)) ∧ PySem.W.nsIn K (He.ga K "TRUTHS") "yes" = some (some (.bool true))
  sh : ∃ x y n, (He.ga K "SHOWN" == sysModules) = false ∧ K.lookup (He.ga K "SHOWN") = some ⟨.type "dict", none, .dict #[⟨0, .bool false, x⟩, ⟨1, .bool true, y⟩] n, #[]⟩ ∧ RelV (.str "no") x ∧ RelV (.str "yes") y
theorem excT_of {K : PySem.W.Frag} {mg : Str → Option Value} {x f : Str} {st : Stmt} (h : oexB K x f = true) (h2 : supB K x = true) (h3 : celB K x = true) (hf : fnC K (x, some "__init__") = some (("__init__" : Str), x ++ ".__init__", defArgs st, FuncBody.stmts (defBody st), defScope st, mainGlobals, builtinsNs))
    (kC : PySem.W.keepIn K (.ref (He.ga K x)) = true) (exm : PySem.W.exmOne K (.ref (He.ga K x)) (.ref (He.ga K x)) = some true) (mgC : mg x = some (.ref (He.ga K x))) : ExcT K mg x f st := by
  obtain ⟨ho, hd⟩ := oexc_of h kC
  have h0 := h
  unfold oexB at h0
  obtain ⟨_, h0⟩ := He.ba h0
  obtain ⟨_, h0⟩ := He.ba h0
  obtain ⟨_, h0⟩ := He.ba h0
  obtain ⟨hve, h0⟩ := He.ba h0
  obtain ⟨_, h0⟩ := He.ba h0
  obtain ⟨hin, h0⟩ := He.ba h0
  obtain ⟨hfn, h0⟩ := He.ba h0
  obtain ⟨hki, h0⟩ := He.ba h0
  obtain ⟨hnf, h0⟩ := He.ba h0
  obtain ⟨hga, hgg⟩ := He.ba h0
  obtain ⟨s1, s2⟩ := He.ba h2
  obtain ⟨oc, od, osl, fd, l, n1, n2, n3, n4, n5, n6, n7⟩ := fnC_ok hf
  have l' : K.lookup (He.ma K (He.ga K x) "__init__") = some ⟨oc, od, .func fd, osl⟩ := l
  obtain ⟨c1, c2, c3, cc, co, cd, csl, c4, c5⟩ := celB_ok h3 l'
  exact ⟨ho, He.eqO_ok hin, beq_iff_eq.mp hfn, hki, He.eqO_ok hnf, He.eqO_ok hga, He.eqO_ok hgg, hd, of_decide_eq_true hve, of_decide_eq_true s1, of_decide_eq_true s2, exm, mgC, oc, od, osl, fd, cc, co, cd, csl, l', n1, n2, n3, n4, n5, n6, n7, c2, c3, c4, c1, c5⟩
theorem ne_of_hallB {K : PySem.W.Frag} (h : hallB K = true) : (∃ nm q N bs hdct sn sub ab col dd k0 k1 k2 k3 k5 oc od es n osl, K.lookup (cHall K) = some (excClassObj nm q (cHall K) N bs [.type "object"] hdct sn sub ab col dd k0 k1 k2 k3 k5 "object.__new__") ∧ K.lookup N = some ⟨oc, od, .dict es n, osl⟩ ∧ StrKeys es ∧ nsFind es "__eq__" = some (.ref (He.ma K (cHall K) "__eq__")) ∧ nsFind es "__ne__" = none) ∧
    PySem.W.findIn K (.ref (cHall K)) "__class__" = some (some (.builtin "object.__class__")) ∧ PySem.W.specialIn K (.builtin "object.__class__") "__get__" = some (some (.builtin "getset_descriptor.__get__")) ∧ PySem.W.takesIn K (.builtin "object.__class__") = some true ∧ PySem.W.mroIn K (cHall K) (.type "object") = some true ∧ PySem.W.kitOne K (.ref (cHall K)) (.ref (cHall K)) = some true := by
  unfold hallB at h
  obtain ⟨h1, h⟩ := He.ba h
  obtain ⟨g1, h⟩ := He.ba h
  obtain ⟨g2, h⟩ := He.ba h
  obtain ⟨g3, h⟩ := He.ba h
  obtain ⟨g4, g5⟩ := He.ba h
  refine ⟨?_, He.eqO_ok g1, of_decide_eq_true g2, of_decide_eq_true g3, of_decide_eq_true g4, of_decide_eq_true g5⟩
  cases q : K.lookup (He.ga K "Hall") with
  | none => rw [q] at h1; cases h1
  | some o =>
    obtain ⟨oc, od, dt, sl⟩ := o
    rw [q] at h1
    cases oc with
    | type t =>
      cases dt with
      | cls cd =>
        obtain ⟨a1, a2⟩ := He.ba (show (decide (t = "type") && (decide (cd.mro = [.ref (He.ga K "Hall"), .type "object"]) && (decide (sl.size = 6) && (decide (sl.toList[4]? = some (some (.builtin "object.__new__"))) && (!cd.hasDel && (match K.lookup cd.ns with
          | some ⟨_, _, .dict es _, _⟩ => es.toList.all (fun e => isExactStrKey e.key) && (decide (nsFind es "__eq__" = some (.ref (He.ma K (He.ga K "Hall") "__eq__"))) && decide (nsFind es "__ne__" = none))
          | _ => false)))))) = true from h1)
        obtain ⟨a3, a4⟩ := He.ba a2
        obtain ⟨a5, a6⟩ := He.ba a4
        obtain ⟨a7, a8⟩ := He.ba a6
        obtain ⟨a9, a10⟩ := He.ba a8
        have e1 : t = "type" := of_decide_eq_true a1
        have e3 := of_decide_eq_true a3
        have e7 : sl.size = 6 := of_decide_eq_true a5
        have e9 := of_decide_eq_true a7
        have hdel : cd.hasDel = false := by
          cases z : cd.hasDel with
          | false => rfl
          | true => rw [z] at a9; cases a9
        obtain ⟨nm, bs, mro, ns, qn, hd, sn, sub, ab, col, del⟩ := cd
        dsimp only at e3 hdel a10
        subst hdel e1 e3
        obtain ⟨l⟩ := sl
        have e7' : l.length = 6 := by simpa using e7
        cases q2 : K.lookup ns with
        | none => rw [q2] at a10; cases a10
        | some o2 =>
          obtain ⟨oc2, od2, dt2, sl2⟩ := o2
          rw [q2] at a10
          cases dt2 with
          | dict es n =>
            obtain ⟨b1, b2⟩ := He.ba (show (es.toList.all (fun e => isExactStrKey e.key) && (decide (nsFind es "__eq__" = some (.ref (He.ma K (He.ga K "Hall") "__eq__"))) && decide (nsFind es "__ne__" = none))) = true from a10)
            obtain ⟨b3, b4⟩ := He.ba b2
            match l, e7' with
            | [k0, k1, k2, k3, k4, k5], _ =>
              have e4 : k4 = some (.builtin "object.__new__") := Option.some.inj (show some k4 = some (some (.builtin "object.__new__")) from e9)
              subst e4
              refine ⟨nm, qn, ns, bs, hd, sn, sub, ab, col, od, k0, k1, k2, k3, k5, oc2, od2, es, n, sl2, rfl, q2, ?_, of_decide_eq_true b3, of_decide_eq_true b4⟩
              intro e he
              have := List.all_eq_true.mp b1 e (by simpa using he)
              unfold isExactStrKey at this
              split at this
              · rename_i x t q
                exact ⟨x, t, q⟩
              · cases this
          | _ => cases a10
      | _ => cases h1
    | _ => cases dt <;> cases h1
theorem sh_of {K : PySem.W.Frag} (h : shownB K = true) : ∃ x y n, (He.ga K "SHOWN" == sysModules) = false ∧ K.lookup (He.ga K "SHOWN") = some ⟨.type "dict", none, .dict #[⟨0, .bool false, x⟩, ⟨1, .bool true, y⟩] n, #[]⟩ ∧ RelV (.str "no") x ∧ RelV (.str "yes") y := by
  unfold shownB at h
  cases q : K.lookup (He.ga K "SHOWN") with
  | none => rw [q] at h; cases h
  | some o =>
    obtain ⟨oc, od, dt, sl⟩ := o
    rw [q] at h
    cases oc with
    | type c =>
      cases od with
      | none =>
        cases dt with
        | dict es n =>
          obtain ⟨a1, a2⟩ := He.ba (show (decide (c = "dict") && (sl.isEmpty && (!(He.ga K "SHOWN" == sysModules) && (decide (es.toList.map (fun e => (e.hash, e.key)) = [(0, .bool false), (1, .bool true)]) && He.relAll [.str "no", .str "yes"] (es.toList.map (·.val)))))) = true from h)
          obtain ⟨a3, a4⟩ := He.ba a2
          obtain ⟨a5, a6⟩ := He.ba a4
          obtain ⟨a7, a8⟩ := He.ba a6
          have e1 : c = "dict" := of_decide_eq_true a1
          have e2 : sl = #[] := Array.isEmpty_iff.mp a3
          have e3 : (He.ga K "SHOWN" == sysModules) = false := by
            cases y : He.ga K "SHOWN" == sysModules with
            | false => rfl
            | true => rw [y] at a5; cases a5
          have e4 : es.toList.map (fun e => (e.hash, e.key)) = [(0, .bool false), (1, .bool true)] := of_decide_eq_true a7
          subst e1 e2
          obtain ⟨l⟩ := es
          match l, e4, a8 with
          | [⟨h1, k1, v1⟩, ⟨h2, k2, v2⟩], e4, a8 =>
            simp only [List.map_cons, List.map_nil, List.cons.injEq, Prod.mk.injEq, and_true] at e4
            obtain ⟨⟨rfl, rfl⟩, ⟨rfl, rfl⟩⟩ := e4
            have r := He.relAll_ok (vs := [.str "no", .str "yes"]) (us := [v1, v2]) a8
            cases r with
            | cons r1 rr =>
              cases rr with
              | cons r2 _ => exact ⟨v1, v2, n, e3, rfl, r1, r2⟩
        | _ => cases h
      | some b => cases dt <;> cases h
    | _ => cases od <;> cases dt <;> cases h
theorem txt_of {w : World} {h : Heap} {K : PySem.W.Frag} {mg : Str → Option Value} (X : K.In h) (G : h.Ns mainGlobals mg) (c : SaysK w h K) : Txt w K mg := by
  have hd := c.x.t.d
  have hm := c.x.more
  unfold ex at hm
  obtain ⟨x1, hm⟩ := He.ba hm
  obtain ⟨x2, hm⟩ := He.ba hm
  obtain ⟨x3, hm⟩ := He.ba hm
  obtain ⟨x4, hm⟩ := He.ba hm
  obtain ⟨x5, hm⟩ := He.ba hm
  obtain ⟨x6, hm⟩ := He.ba hm
  obtain ⟨x7, hm⟩ := He.ba hm
  obtain ⟨x8, hm⟩ := He.ba hm
  obtain ⟨x9, x10⟩ := He.ba hm
  obtain ⟨ne, g1, g2, g3, g4, g5⟩ := ne_of_hallB x10
  have glo : ∀ x ∈ globs1 ++ globs2, mg x = some (.ref (He.ga K x)) := fun x hx => by
    refine He.glo_ok X G (hd.facts (f := .glo x) ?_)
    unfold fa
    rcases List.mem_append.mp hx with hx | hx
    · simp only [List.mem_append]
      exact .inl (.inl (.inl (.inl (List.mem_map.mpr ⟨x, hx, rfl⟩))))
    · simp only [List.mem_append]
      exact .inl (.inl (.inl (.inr (List.mem_map.mpr ⟨x, hx, rfl⟩))))
  have oth : ∀ f, f ∈ ([.int "MOST_EVENTS" 3, .int "MOST_KINDS" 4, .int "MOST_ACTS" 3, .str "DIGITS" "0123456789", .cls "Hall", .meth "Hall" "rules", .meth "Hall" "__len__", .meth "Hall" "__eq__", .mkr "Hall", .keep "Hall",
      .keep "BadHall", .keep "BadText", .exm "BadHall" "BadHall" true, .exm "BadText" "BadText" true] : List He.Fa) → f.ok K = true := fun f hf => by
    refine hd.facts ?_
    unfold fa
    simp only [List.mem_append]
    exact .inl (.inr hf)
  have cls : Cls K (cHall K) := He.cls_ok (oth (.cls "Hall") (by simp))
  have tab : ∀ (i : Nat) (t : He.Tab), ts[i]? = some t → He.dicW K (t.1 K) = some (He.keysIn w.params t.2) := fun i t h => by
    have e : ts.map (fun t => He.dicW K (t.1 K)) = ts.map fun t => some (He.keysIn w.params t.2) := congrArg (fun z : He.AlT => z.2) c.x.t
    have e2 : (ts.map fun t => He.dicW K (t.1 K))[i]? = (ts.map fun t => some (He.keysIn w.params t.2))[i]? := by rw [e]
    rw [List.getElem?_map, List.getElem?_map, h] at e2
    exact Option.some.inj e2
  have hc := c.c
  unfold obsC valC at hc
  rw [List.cons.injEq, List.cons.injEq] at hc
  refine ⟨glo, fun x hx => ?_, He.int_ok X G (oth (.int "MOST_EVENTS" 3) (by simp)), He.int_ok X G (oth (.int "MOST_KINDS" 4) (by simp)), He.int_ok X G (oth (.int "MOST_ACTS" 3) (by simp)), He.str_ok X G (oth (.str "DIGITS" "0123456789") (by simp)), fun i d h => hd.def_ i h, cls,
    He.meth_ok (oth (.meth "Hall" "rules") (by simp)), He.meth_ok (oth (.meth "Hall" "__len__") (by simp)), He.meth_ok (oth (.meth "Hall" "__eq__") (by simp)), He.mkr_ok (oth (.mkr "Hall") (by simp)), fun f hf => ?_, ⟨cls, g1, g2, g3, g4, g5⟩, ne,
    excT_of x4 x6 x8 hc.1 (He.keep_ok (oth (.keep "BadHall") (by simp))) (He.exm_ok (oth (.exm "BadHall" "BadHall" true) (by simp))) (glo "BadHall" (by decide +kernel)),
    excT_of x5 x7 x9 hc.2.1 (He.keep_ok (oth (.keep "BadText") (by simp))) (He.exm_ok (oth (.exm "BadText" "BadText" true) (by simp))) (glo "BadText" (by decide +kernel)), tabK_of (tab 0 _ rfl), fun q hq => ?_, tabK_of (tab 1 _ rfl), ?_, sh_of x3⟩
  · refine He.free_ok X G (hd.facts (f := .free x) ?_)
    unfold fa
    simp only [List.mem_append]
    exact .inl (.inl (.inr (List.mem_map.mpr ⟨x, hx, rfl⟩)))
  · refine He.noat_ok (hd.facts (f := .noat "Hall" f) ?_)
    unfold fa
    simp only [List.mem_append]
    exact .inr (List.mem_map.mpr ⟨f, hf, rfl⟩)
  · unfold rulesB at x1
    have h1 := List.all_eq_true.mp x1 q hq
    cases e : PySem.W.nsIn K (He.ga K "RULES") q.1 with
    | none => rw [e] at h1; cases h1
    | some r =>
      rw [e] at h1
      cases r with
      | none => cases h1
      | some u =>
        cases u with
        | ref t => exact ⟨t, rfl, fun H => tupAt_ok h1 H⟩
        | _ => cases h1
  · unfold truthsB at x2
    obtain ⟨u1, e1, r1⟩ := He.valsB_ok x2 (q := ("no", .bl false)) (by simp)
    obtain ⟨u2, e2, r2⟩ := He.valsB_ok x2 (q := ("yes", .bl true)) (by simp)
    have r1' : u1 = Value.bool false := r1
    have r2' : u2 = Value.bool true := r2
    rw [r1'] at e1
    rw [r2'] at e2
    exact ⟨e1, e2⟩
end K5
set_option Elab.async false
set_option linter.all false
set_option maxRecDepth 100000
set_option maxHeartbeats 4000000
/-! Defs by their promises; short words. -/
namespace K5
open PySem PySem.Spec PyProof.Rows L2
theorem iteT' {b : Bool} {p q : Prop} (e : b = true) (h : p) : if b = true then p else q := by rw [if_pos e]; exact h
theorem iteF' {b : Bool} {p q : Prop} (e : b = false) (h : q) : if b = true then p else q := by rw [if_neg (by rw [e]; exact Bool.false_ne_true)]; exact h
/-- a def that may be called by its name -/
structure Cl (P : Program) (w : World) (K : PySem.W.Frag) (mg : Str → Option Value) (base : Heap) (CX : CXT) (k : Nat) (x : Str) (sp : Sp) : Prop where
  ex : ∃ (f : Addr) (fd : FuncData) (ps : List Str), FnOk P w K mg base CX k f fd ps sp ∧ mg x = some (.ref f) ∧ PySem.W.keepIn K (.ref f) = true ∧ Binds K fd ps []
section
variable {X : Cx} {CX : CXT} {k j : Nat} {x : Str} {sp : Sp} {E : XK} {p pos : Pos} {e : Expr} {es : List Expr} {t : TA}
theorem pe_cl (c : Cl X.prog X.w X.K X.mg X.base CX k x sp) (hr : Room j X.A) (hk : k ≤ j) (hx : Passes CX X E) (hg : Gl X x) (ha : PA X (e :: es) t)
    (hdb : (x == ("__debug__" : Str)) = false := by decide) (he : starEach (e :: es) X.env = (false, eval e X.env) :: starEach es X.env := by rfl) (hpl : (backTo pos (starEach es X.env)).any (·.1) = false := by rfl) :
    PE X (.Call (.Name x p) (e :: es) [] pos) (tCall sp [] E t) := by
  obtain ⟨f, fd, ps, F, hm, hkp, hb⟩ := c.ex
  exact pe_call F (hr.mono hk) hg hm hkp hb .nil hx ha hdb he hpl
theorem pe_cl0 (c : Cl X.prog X.w X.K X.mg X.base CX k x sp) (hr : Room j X.A) (hk : k ≤ j) (hx : Passes CX X E) (hg : Gl X x) (hdb : (x == ("__debug__" : Str)) = false := by decide) :
    PE X (.Call (.Name x p) [] [] pos) (tCall sp [] E tNil) := by
  obtain ⟨f, fd, ps, F, hm, hkp, hb⟩ := c.ex
  exact pe_call0 F (hr.mono hk) hg hm hkp hb .nil hx hdb
end
section
variable {P : Program} {w : World} {K : PySem.W.Frag} {mg : Str → Option Value} {base : Heap}
/-- how a def's arguments bind, all written -/
abbrev BindN (i : Nat) (x : Str) (ps : List Str) : Prop := ∀ (kV doc pm : Value) (an : Option Addr) (cdv ct : Value) (us : List Value), us.length = ps.length →
  bindArgs (PySem.W.fnOf x x (defArgs (top i)) (defBody (top i)) (defScope (top i)) .none kV doc pm an cdv ct) ⟨us, []⟩ = pure (ps.zip us)
/-- a def of the top, nothing let out -/
theorem cl_def (T : Txt w K mg) {i j k : Nat} {x : Str} {N ps : List Str} {sp : Sp} (hj : fn[j]? = some (dG i x)) (hx : x ∈ globs1 ++ globs2) (S : FnScope N ps (defScope (top i))) (hb : BindN i x ps) (len : ∀ vs H Q E, sp vs H Q E → vs.length = ps.length)
    (hbody : ∀ (cdv : Value) (A : Around) (outer : List Env) (s : Shared) (H : Hp) (vs : List V) (Q : VK) (E : XK), Room k (A.deeper (envOfC x (defScope (top i)) s.heap.objs.size (He.ga K x) cdv)) → sp vs H Q E →
      ∃ t, PSs (cxOf CX0 P w K mg base N x (defScope (top i)) (He.ga K x) cdv A outer s H E).nox (defBody (top i)) t ∧ t { nx := fun _ H' => Q .non H', rt := Q } (start N vs) H) : Cl P w K mg base CX0 (k + 1) x sp := by
  obtain ⟨fd, F⟩ := T.fnD j _ hj
  have F' : FunD K x x (defArgs (top i)) (defBody (top i)) (defScope (top i)) [] [] (He.ga K x) fd := F
  refine ⟨He.ga K x, fd, ps, F'.ok S len fun cdv A outer s H vs Q E hr h => ?_, T.glo x hx, F'.kp, F'.bindsN hb⟩
  obtain ⟨t, h1, h2⟩ := hbody cdv A outer s H vs Q E hr h
  exact ⟨t, h1.nox, h2⟩
/-- a def of the top that may raise -/
theorem cl_defX (T : Txt w K mg) {i j k : Nat} {x : Str} {N ps : List Str} {sp : Sp} {CX : CXT} (hj : fn[j]? = some (dG i x)) (hx : x ∈ globs1 ++ globs2) (S : FnScope N ps (defScope (top i))) (hb : BindN i x ps) (len : ∀ vs H Q E, sp vs H Q E → vs.length = ps.length)
    (hbody : ∀ (cdv : Value) (A : Around) (outer : List Env) (s : Shared) (H : Hp) (vs : List V) (Q : VK) (E : XK), Room k (A.deeper (envOfC x (defScope (top i)) s.heap.objs.size (He.ga K x) cdv)) → sp vs H Q E →
      ∃ t, PSs (cxOf CX P w K mg base N x (defScope (top i)) (He.ga K x) cdv A outer s H E) (defBody (top i)) t ∧ t { nx := fun _ H' => Q .non H', rt := Q } (start N vs) H) : Cl P w K mg base CX (k + 1) x sp := by
  obtain ⟨fd, F⟩ := T.fnD j _ hj
  have F' : FunD K x x (defArgs (top i)) (defBody (top i)) (defScope (top i)) [] [] (He.ga K x) fd := F
  exact ⟨He.ga K x, fd, ps, F'.ok S len hbody, T.glo x hx, F'.kp, F'.bindsN hb⟩
end
/-! ### built-in names -/
abbrev rLenS (K : PySem.W.Frag) : List V → Hp → VK → Prop := fun xs H Q => ∃ p ys, xs = [.ref p] ∧ (SqL K H p ys ∨ SqT K H p ys) ∧ Q (.int ys.length) H
theorem fr {w : World} {K : PySem.W.Frag} {mg : Str → Option Value} (T : Txt w K mg) (x : Str) (h : frees.contains x = true := by decide +kernel) : mg x = none := T.fre x (List.contains_iff_mem.mp h)
section
variable {X : Cx} {w : World} {a c : Expr} {es : List Expr} {ta tc : TE} {t : TA} {p q pos : Pos}
theorem isi (T : Txt X.w X.K X.mg) (ha : PA X [a, c] t) (hg : Gl X "isinstance" := by rfl) (he : starEach [a, c] X.env = (false, eval a X.env) :: starEach [c] X.env := by rfl) (hpl : (backTo pos (starEach [c] X.env)).any (·.1) = false := by rfl) :
    PE X (.Call (.Name "isinstance" p) [a, c] [] pos) (tCB (rIsi X.K) t) := pe_callB call_isi hg (fr T "isinstance") PyProof.Rows.boot_isinstance ha (by decide) (by decide) he hpl
theorem tyInt (T : Txt X.w X.K X.mg) (hg : Gl X "int" := by rfl) : PE X (.Name "int" p) (tC (.ty "int")) := pe_bltn hg (fr T "int") PyProof.Rows.boot_int rfl
theorem tyBool (T : Txt X.w X.K X.mg) (hg : Gl X "bool" := by rfl) : PE X (.Name "bool" p) (tC (.ty "bool")) := pe_bltn hg (fr T "bool") PyProof.Rows.boot_bool rfl
theorem tyStr (T : Txt X.w X.K X.mg) (hg : Gl X "str" := by rfl) : PE X (.Name "str" p) (tC (.ty "str")) := pe_bltn hg (fr T "str") PyProof.Rows.boot_str rfl
theorem tyTup (T : Txt X.w X.K X.mg) (hg : Gl X "tuple" := by rfl) : PE X (.Name "tuple" p) (tC (.ty "tuple")) := pe_bltn hg (fr T "tuple") PyProof.Rows.boot_tuple rfl
theorem tyList (T : Txt X.w X.K X.mg) (hg : Gl X "list" := by rfl) : PE X (.Name "list" p) (tC (.ty "list")) := pe_bltn hg (fr T "list") PyProof.Rows.boot_list rfl
theorem pLen (T : Txt X.w X.K X.mg) (ha : PA X [a] t) (hg : Gl X "len" := by rfl) (he : starEach [a] X.env = (false, eval a X.env) :: starEach [] X.env := by rfl) : PE X (.Call (.Name "len" p) [a] [] pos) (tCB (rLen X.K) t) := pe_callB call_len hg (fr T "len") boot_len ha (by decide) (by decide) he rfl
theorem pInt {nm : Str} {i : Int} (h : ∃ t, X.mg nm = some (.int i t)) (hg : Gl X nm) (hd : (nm == ("__debug__" : Str)) = false := by decide) : PE X (.Name nm p) (tC (.int i)) := by
  obtain ⟨t, h⟩ := h
  exact pe_glob hg h ⟨t, rfl⟩ hd
theorem pGlo {nm : Str} (T : Txt X.w X.K X.mg) (hx : nm ∈ globs1 ++ globs2) (hg : Gl X nm) (hd : (nm == ("__debug__" : Str)) = false := by decide) : PE X (.Name nm p) (tC (.ref (He.ga X.K nm))) := pe_glob hg (T.glo nm hx) rfl hd
theorem pDig (T : Txt X.w X.K X.mg) (hg : Gl X "DIGITS") : PE X (.Name "DIGITS" p) (tC (.str "0123456789")) := by
  obtain ⟨t, h⟩ := T.dg
  exact pe_glob hg h ⟨t, rfl⟩ (by decide)
end
end K5
set_option Elab.async false
set_option linter.all false
set_option maxRecDepth 100000
set_option maxHeartbeats 4000000
/-! How halls, acts, deeds stand in the heap. -/
namespace K5
open PySem PySem.Spec PyProof.Rows L2
theorem qe {Q : VK} {H : Hp} {a b : V} (e : a = b) (k : Q b H) : Q a H := by
  rw [e]
  exact k
theorem qb {Q : VK} {H : Hp} {a b : Bool} (e : a = b) (k : Q (.bl b) H) : Q (.bl a) H := by
  rw [e]
  exact k
/-! ### heaps -/
theorem Same.new {H : Hp} {p : Addr} {o : HO} (h : H p = none) : Same H (upd H p o) := fun b u e => by
  rw [upd_ne (ne_of_none e h)]
  exact e
theorem Same.new' {H H1 : Hp} {p : Addr} {o : HO} (s : Same H H1) (h : H1 p = none) : Same H (upd H1 p o) := s.trans (Same.new h)
theorem Same.none {H H' : Hp} {p : Addr} (s : Same H H') (h : H' p = Option.none) : H p = Option.none := by
  cases e : H p with
  | none => rfl
  | some o => rw [s _ _ e] at h; cases h
/-- tuples stay -/
def Kt (H H' : Hp) : Prop := ∀ b xs, H b = some (.tup xs) → H' b = some (.tup xs)
theorem Kt.refl (H : Hp) : Kt H H := fun _ _ h => h
theorem Kt.trans {H H1 H2 : Hp} (a : Kt H H1) (b : Kt H1 H2) : Kt H H2 := fun c xs h => b c xs (a c xs h)
theorem Kt.of {H H' : Hp} (s : Same H H') : Kt H H' := fun b xs h => s b _ h
theorem Same.tup {K : PySem.W.Frag} {H H' : Hp} {a : Addr} {xs : List V} (e : Same H H') (h : SqT K H a xs) : SqT K H' a xs := by
  rcases h with (h | ⟨o, h⟩) | h
  · exact .inl (.inl (e _ _ h))
  · exact .inl (.inr ⟨o, e _ _ h⟩)
  · exact .inr h
/-- all stays but what stands at these -/
def But (D : Addr) (H H' : Hp) : Prop := ∀ b o, b ≠ D → H b = some o → H' b = some o
theorem But.refl (D : Addr) (H : Hp) : But D H H := fun _ _ _ h => h
theorem But.trans {D : Addr} {H H1 H2 : Hp} (a : But D H H1) (b : But D H1 H2) : But D H H2 := fun c o n h => b c o n (a c o n h)
theorem But.of {D : Addr} {H H' : Hp} (s : Same H H') : But D H H' := fun b o _ h => s b o h
theorem But.mut {D : Addr} {H : Hp} {o : HO} : But D H (upd H D o) := fun b u n h => by
  rw [upd_ne n]
  exact h
theorem But.kt {D : Addr} {H H' : Hp} {ys : List V} (b : But D H H') (h : H D = some (.lst ys)) : Kt H H' := fun c xs e => b c _ (ne_of e h (by intro z; cases z)) e
theorem But.new {D : Addr} {H H1 : Hp} {p : Addr} {o : HO} (b : But D H H1) (h : H1 p = none) : But D H (upd H1 p o) := b.trans (But.of (Same.new h))
/-! ### data -/
def actV : Act → List V
  | .raise => [.str sRaise]
  | .num w n => [.str w.s, .int n]
def ActAt (H : Hp) (v : V) (a : Act) : Prop := ∃ p, v = .ref p ∧ H p = some (.tup (actV a))
def ActsAt (H : Hp) (v : V) (as : List Act) : Prop := ∃ p vs, v = .ref p ∧ H p = some (.tup vs) ∧ Paired (ActAt H) vs as
def KindAt (H : Hp) (v : V) (k : Kind) : Prop := ∃ p t, v = .ref p ∧ H p = some (.tup [.int k.ev, .bl k.once, t]) ∧ ActsAt H t k.acts
def KindsAt (H : Hp) (v : V) (ks : List Kind) : Prop := ∃ p vs, v = .ref p ∧ H p = some (.tup vs) ∧ Paired (KindAt H) vs ks
theorem paired_mono {α : Type} {F G : V → α → Prop} (h : ∀ v a, F v a → G v a) : ∀ {vs : List V} {as : List α}, Paired F vs as → Paired G vs as
  | _, _, .nil => .nil
  | _, _, .cons r t => .cons (h _ _ r) (paired_mono h t)
theorem paired_get {α : Type} {F : V → α → Prop} : ∀ {vs : List V} {as : List α} {i : Nat} {v : V}, Paired F vs as → vs[i]? = some v → ∃ a, as[i]? = some a ∧ F v a
  | _, _, _, _, .nil, e => by simp at e
  | _, _, 0, _, .cons r _, e => by simp at e; subst e; exact ⟨_, rfl, r⟩
  | _, _, i + 1, v, .cons _ t, e => by
    obtain ⟨a, h1, h2⟩ := paired_get (i := i) (v := v) t (by simpa using e)
    exact ⟨a, by simpa using h1, h2⟩
section
variable {H H' : Hp} {v : V}
theorem ActAt.mono (k : Kt H H') {a : Act} (h : ActAt H v a) : ActAt H' v a := by
  obtain ⟨p, e, h⟩ := h
  exact ⟨p, e, k _ _ h⟩
theorem ActsAt.mono (k : Kt H H') {as : List Act} (h : ActsAt H v as) : ActsAt H' v as := by
  obtain ⟨p, vs, e, h, q⟩ := h
  exact ⟨p, vs, e, k _ _ h, paired_mono (fun _ _ z => z.mono k) q⟩
theorem KindAt.mono (k : Kt H H') {a : Kind} (h : KindAt H v a) : KindAt H' v a := by
  obtain ⟨p, t, e, h, q⟩ := h
  exact ⟨p, t, e, k _ _ h, q.mono k⟩
theorem KindsAt.mono (k : Kt H H') {ks : List Kind} (h : KindsAt H v ks) : KindsAt H' v ks := by
  obtain ⟨p, vs, e, h, q⟩ := h
  exact ⟨p, vs, e, k _ _ h, paired_mono (fun _ _ z => z.mono k) q⟩
end
/-! ### == of data -/
section
variable {X : Cx}
def rEqP (K : PySem.W.Frag) : R2 := fun x y H Q => ∃ d e, Dp K H x d ∧ Dp K H y e ∧ d.plain = true ∧ e.plain = true ∧ min d.depth e.depth ≤ 64 ∧ Q (.bl (PyData.eqv d e)) H
def rNeP (K : PySem.W.Frag) : R2 := fun x y H Q => ∃ d e, Dp K H x d ∧ Dp K H y e ∧ d.plain = true ∧ e.plain = true ∧ min d.depth e.depth ≤ 64 ∧ Q (.bl (!PyData.eqv d e)) H
theorem op_eqP (hu : X.A.units + 64 < cLine) : OpR X (compareOp .Eq) (rEqP X.K) := by
  intro pins s σ H x y v u Q I rx ry h
  obtain ⟨d, e, hd, he, sd, se, hm, q⟩ := h
  obtain ⟨as, r1⟩ := Dp.reads I d x v hd rx
  obtain ⟨bs, r2⟩ := Dp.reads I e y u he ry
  exact SeqAt.eq_plain r1 r2 sd se (by omega) ⟨.bl _, H, I, rfl, q⟩
theorem op_neP (hu : X.A.units + 64 < cLine) : OpR X (compareOp .NotEq) (rNeP X.K) := by
  intro pins s σ H x y v u Q I rx ry h
  obtain ⟨d, e, hd, he, sd, se, hm, q⟩ := h
  obtain ⟨as, r1⟩ := Dp.reads I d x v hd rx
  obtain ⟨bs, r2⟩ := Dp.reads I e y u he ry
  exact SeqAt.ne_plain r1 r2 sd se (by omega) ⟨.bl _, H, I, rfl, q⟩
end
/-! ### as plain data -/
def actD : Act → PyData
  | .raise => .tuple [.str sRaise]
  | .num w n => .tuple [.str w.s, .int n]
def kindD (k : Kind) : PyData := .tuple [.int k.ev, .bool k.once, .tuple (k.acts.map actD)]
def kindsD (ks : List Kind) : PyData := .tuple (ks.map kindD)
theorem dpAll_map {α : Type} {K : PySem.W.Frag} {H : Hp} {F : V → α → Prop} {f : α → PyData} (h : ∀ v a, F v a → Dp K H v (f a)) : ∀ {vs : List V} {as : List α}, Paired F vs as → DpAll K H vs (as.map f)
  | _, _, .nil => .nil
  | _, _, .cons r t => .cons (h _ _ r) (dpAll_map h t)
theorem actDp {K : PySem.W.Frag} {H : Hp} {v : V} {a : Act} (h : ActAt H v a) : Dp K H v (actD a) := by
  obtain ⟨p, rfl, hp⟩ := h
  cases a with
  | raise => exact .tup (SqT.of hp) (.cons (.str _) .nil)
  | num w n => exact .tup (SqT.of hp) (.cons (.str _) (.cons (.int _) .nil))
theorem kindDp {K : PySem.W.Frag} {H : Hp} {v : V} {k : Kind} (h : KindAt H v k) : Dp K H v (kindD k) := by
  obtain ⟨p, t, rfl, hp, q, vs, rfl, hq, pr⟩ := h
  exact .tup (SqT.of hp) (.cons (.int _) (.cons (.bl _) (.cons (.tup (SqT.of hq) (dpAll_map (F := ActAt H) (f := actD) (fun _ _ => actDp) pr)) .nil)))
theorem kindsDp {K : PySem.W.Frag} {H : Hp} {v : V} {ks : List Kind} (h : KindsAt H v ks) : Dp K H v (kindsD ks) := by
  obtain ⟨p, vs, rfl, hp, pr⟩ := h
  exact .tup (SqT.of hp) (dpAll_map (F := KindAt H) (f := kindD) (fun _ _ => kindDp) pr)
theorem plain_map {α : Type} {f : α → PyData} (h : ∀ a, (f a).plain = true) : ∀ as : List α, PyData.plainAll (as.map f) = true
  | [] => rfl
  | a :: r => by
    show ((f a).plain && PyData.plainAll (r.map f)) = true
    rw [h a, plain_map h r] <;> rfl
theorem depth_map {α : Type} {f : α → PyData} {n : Nat} (h : ∀ a, (f a).depth ≤ n) : ∀ as : List α, PyData.depthAll (as.map f) ≤ n
  | [] => Nat.zero_le _
  | a :: r => by
    show max (f a).depth (PyData.depthAll (r.map f)) ≤ n
    exact Nat.max_le.mpr ⟨h a, depth_map h r⟩
theorem actD_plain (a : Act) : (actD a).plain = true := by cases a <;> rfl
theorem actD_depth (a : Act) : (actD a).depth ≤ 4 := by cases a <;> simp [actD, PyData.depth, PyData.depthAll]
theorem kindD_plain (k : Kind) : (kindD k).plain = true := by
  show (true && (true && (PyData.plainAll (k.acts.map actD) && true))) = true
  rw [plain_map actD_plain] <;> rfl
theorem kindD_depth (k : Kind) : (kindD k).depth ≤ 8 := by
  have := depth_map actD_depth k.acts
  simp [kindD, PyData.depth, PyData.depthAll]
  omega
theorem kindsD_plain (ks : List Kind) : (kindsD ks).plain = true := plain_map kindD_plain ks
theorem kindsD_depth (ks : List Kind) : (kindsD ks).depth ≤ 64 := by
  have := depth_map kindD_depth ks
  show PyData.depthAll (ks.map kindD) + 1 ≤ 64
  omega
end K5
set_option Elab.async false
set_option linter.all false
set_option maxRecDepth 100000
set_option maxHeartbeats 4000000
/-! Comprehensions as maps. -/
namespace K5
open PySem PySem.Spec PyProof.Rows L2
theorem wipe_set {σ : L2.St} {i : Nat} {x : Option V} : wipe (σ.set i x) [i] = wipe σ [i] := by
  show (σ.set i x).set i none = σ.set i none
  exact List.set_set _
theorem wipe_wipe {σ : L2.St} {i : Nat} : wipe (wipe σ [i]) [i] = wipe σ [i] := wipe_set
section
variable {α : Type} {K : PySem.W.Frag} {a : Addr} {xs : List V} {te : TE} {i : Nat} {σ : L2.St} {H1 : Hp} {D : Addr} {Qd : Hp → Prop}
/-- the step of a map -/
theorem map_step {F : V → α → Prop} {as : List α} (f : α → V) (hD : H1 D = none) (pr : Paired F xs as) (len : as.length < sizeLine)
    (hs : ∀ x c H, F x c → c ∈ as → Same H1 H → ∀ Q : VK, (∀ H', Same H H' → Q (f c) H') → te ((wipe σ [i]).set i (some x)) H Q) (j : Nat) (x : V) (H : Hp) (hx : xs[j]? = some x) (q : Same H1 H ∧ H D = some (.lst ((as.take j).map f))) :
    gName i x (wipe σ [i]) H fun σ2 H2 => wipe σ2 [i] = wipe σ [i] ∧ tYes σ2 H2 fun b H3 =>
      if b = true then te σ2 H3 fun y H4 => ∃ acc, H4 D = some (.lst acc) ∧ acc.length < sizeLine ∧ (Same H1 (upd H4 D (.lst (acc ++ [y]))) ∧ (upd H4 D (.lst (acc ++ [y]))) D = some (.lst ((as.take (j + 1)).map f))) else (Same H1 H3 ∧ H3 D = some (.lst ((as.take (j + 1)).map f))) := by
  refine ⟨?_, ?_⟩
  · rw [wipe_set]
    exact wipe_wipe
  · show te _ _ _
    obtain ⟨c, hc, fc⟩ := paired_get pr hx
    have hm : c ∈ as := List.mem_of_getElem? hc
    refine hs x c H fc hm q.1 _ fun H' s' => ?_
    have hd' := s' _ _ q.2
    refine ⟨_, hd', ?_, ?_, ?_⟩
    · rw [List.length_map]
      exact Nat.lt_of_le_of_lt (List.length_take_le' _ _) len
    · intro b u hb
      rw [upd_ne (ne_of_none hb hD)]
      exact s' _ _ (q.1 _ _ hb)
    · rw [upd_same, List.take_add_one, hc]
      simp
theorem lc_mapT {F : V → α → Prop} {as : List α} (f : α → V) (hD : H1 D = none) (hx : SqT K H1 a xs) (pr : Paired F xs as) (len : as.length < sizeLine)
    (hs : ∀ x c H, F x c → c ∈ as → Same H1 H → ∀ Q : VK, (∀ H', Same H H' → Q (f c) H') → te ((wipe σ [i]).set i (some x)) H Q) (hd : ∀ H, Same H1 H → H D = some (.lst (as.map f)) → Qd H) :
    ∃ W : Nat → Nat → Hp → Prop, (∃ m, W 0 m (upd H1 D (.lst []))) ∧ ∀ j m H, W j m H →
      ((Itt K a).stop j H ∧ Qd H) ∨ ((Itt K a).go j H ∧ ∃ Nx : Hp → Prop, (∀ H', Nx H' → ∃ m', m' < m ∧ W (j + 1) m' H') ∧ ∀ x H', (Itt K a).yld j H x H' → gName i x (wipe σ [i]) H' fun σ2 H2 => wipe σ2 [i] = wipe σ [i] ∧ tYes σ2 H2 fun b H3 =>
        if b = true then te σ2 H3 fun y H4 => ∃ acc, H4 D = some (.lst acc) ∧ acc.length < sizeLine ∧ Nx (upd H4 D (.lst (acc ++ [y]))) else Nx H3) := by
  refine lc_tup (xs := xs) (fun j H => Same H1 H ∧ H D = some (.lst ((as.take j).map f))) ⟨Same.new hD, by rw [upd_same]; rfl⟩ (fun j H _ q => Same.tup q.1 hx) (fun j x H hx q => map_step f hD pr len hs j x H hx q) (fun H q => hd H q.1 ?_)
  have h1 := Paired.length pr
  have := q.2
  rwa [h1, List.take_length] at this
theorem lc_mapL {F : V → α → Prop} {as : List α} (f : α → V) (hD : H1 D = none) (hx : SqL K H1 a xs) (pr : Paired F xs as) (len : as.length < sizeLine)
    (hs : ∀ x c H, F x c → c ∈ as → Same H1 H → ∀ Q : VK, (∀ H', Same H H' → Q (f c) H') → te ((wipe σ [i]).set i (some x)) H Q) (hd : ∀ H, Same H1 H → H D = some (.lst (as.map f)) → Qd H) :
    ∃ W : Nat → Nat → Hp → Prop, (∃ m, W 0 m (upd H1 D (.lst []))) ∧ ∀ j m H, W j m H →
      ((Itl K a).stop j H ∧ Qd H) ∨ ((Itl K a).go j H ∧ ∃ Nx : Hp → Prop, (∀ H', Nx H' → ∃ m', m' < m ∧ W (j + 1) m' H') ∧ ∀ x H', (Itl K a).yld j H x H' → gName i x (wipe σ [i]) H' fun σ2 H2 => wipe σ2 [i] = wipe σ [i] ∧ tYes σ2 H2 fun b H3 =>
        if b = true then te σ2 H3 fun y H4 => ∃ acc, H4 D = some (.lst acc) ∧ acc.length < sizeLine ∧ Nx (upd H4 D (.lst (acc ++ [y]))) else Nx H3) := by
  refine lc_list (xs := xs) (fun j H => Same H1 H ∧ H D = some (.lst ((as.take j).map f))) ⟨Same.new hD, by rw [upd_same]; rfl⟩ (fun j H _ q => L2.Same.seq q.1 hx) (fun j x H hx q => map_step f hD pr len hs j x H hx q) (fun H q => hd H q.1 ?_)
  have h1 := Paired.length pr
  have := q.2
  rwa [h1, List.take_length] at this
end
theorem paired_self : ∀ xs : List V, Paired (fun v c => v = c) xs xs
  | [] => .nil
  | _ :: r => .cons rfl (paired_self r)
theorem paired_map {α : Type} (f : α → V) : ∀ as : List α, Paired (fun v c => v = f c) (as.map f) as
  | [] => .nil
  | _ :: r => .cons rfl (paired_map f r)
/-! ### slices -/
theorem cut_from (xs : List V) (k : Nat) : cutV xs (some (k : Int)) none = xs.drop k := by
  unfold cutV
  rw [HT.sIx_nat, HT.sIx_none]
  by_cases h : k ≤ xs.length
  · rw [Nat.min_eq_left h]
    exact List.take_of_length_le (by simp)
  · rw [Nat.min_eq_right (by omega), List.drop_length, List.drop_eq_nil_of_le (by omega), List.take_nil]
theorem cut_to (xs : List V) (k : Nat) : cutV xs none (some (k : Int)) = xs.take k := by
  unfold cutV
  rw [HT.sIx_nat, HT.sIx_none, List.drop_zero, Nat.sub_zero, ← List.take_take, List.take_length]
theorem cut_init (xs : List V) : cutV xs none (some (-1)) = xs.dropLast := by
  unfold cutV
  rw [HT.sIx_none, List.drop_zero, Nat.sub_zero, List.dropLast_eq_take]
  congr 1
  show (if (-1 : Int) < 0 then ((-1 : Int) + (xs.length : Int)).toNat else min (-1 : Int).toNat xs.length) = _
  rw [if_pos (by omega)]
  omega
/-! ### rules whose readings name the written part by itself (within comprehensions) -/
section
variable {X : Cx} {K : PySem.W.Frag} {tg l o e a b : Expr} {tl te to ta tb : TE} {apos pos : Pos}
theorem pTup (hK : X.K = K) (h : PE X l tl) : PI X tg l (iTup K tl) := by
  subst hK
  exact pi_tup h
theorem pList (hK : X.K = K) (h : PE X l tl) : PI X tg l (iList K tl) := by
  subst hK
  exact pi_list h
abbrev rJoin (K : PySem.W.Frag) : V → List V → Hp → VK → Prop := fun x xs H Q => ∃ a p, ∃ ys : List Str, x = .str a ∧ xs = [.ref p] ∧ (SqL K H p (ys.map V.str) ∨ SqT K H p (ys.map V.str)) ∧ (ys.map (·.length)).sum + ys.length * a.length ≤ 16777216 ∧ Q (.str (Txt.join a ys)) H
theorem pJoin (hK : X.K = K) (ho : PE X o to) (he : PE X e te) (hs : starEach [e] X.env = [(false, eval e X.env)] := by rfl) (hbase : attributeBase o "join" X.env (eval o X.env) = eval o X.env := by rfl) (hline : (apos.endLine == pos.line) = true := by rfl) :
    PE X (.Call (.Attribute o "join" apos) [e] [] pos) (tM1 (rJoin K) to te) := by
  subst hK
  exact pe_join ho he hs hbase hline
theorem pIxT (hK : X.K = K) (ha : PE X a ta) (hb : PE X b tb) (hs : PlainIx b) : PE X (.Subscript a b pos) (tOp (rIxT K) ta tb) := by
  subst hK
  exact pe_ix ix_tup ha hb hs
theorem pIxL (hK : X.K = K) (ha : PE X a ta) (hb : PE X b tb) (hs : PlainIx b) : PE X (.Subscript a b pos) (tOp (rIxL K) ta tb) := by
  subst hK
  exact pe_ix ix_list ha hb hs
end
end K5
set_option Elab.async false
set_option linter.all false
set_option maxRecDepth 100000
set_option maxHeartbeats 4000000
/-! Written dicts: RULES, TRUTHS, SHOWN. -/
namespace K5
open PySem PySem.Spec PyProof.Rows L2
theorem dict_pairs {P : Program} {w : World} : ∀ {l : List DictEntry} {ks : List Str}, l.map He.keyOf = He.keysIn w.params ks →
    ∃ vs : List Value, vs.length = ks.length ∧ Pairs (strKind P w) l (ks.zip vs) ∧ ∀ e ∈ l, ∃ k, (strKind P w).is k e.key = true ∧ e.hash = (strKind P w).hash k
  | [], [], _ => ⟨[], rfl, .nil, fun _ h => by cases h⟩
  | [], _ :: _, h => by cases h
  | e :: r, [], h => by cases h
  | e :: r, k :: ks, h => by
    have h1 : He.keyOf e :: r.map He.keyOf = some (k, PyData.keyHash w.params k) :: He.keysIn w.params ks := h
    injection h1 with h2 h3
    obtain ⟨vs, h4, h5, h6⟩ := dict_pairs h3
    have h7 : ∃ t, e.key = .str k t ∧ e.hash = PyData.keyHash w.params k := by
      unfold He.keyOf at h2
      split at h2
      · rename_i x t hx
        injection h2 with h2
        injection h2 with h8 h9
        subst h8
        exact ⟨_, hx, h9⟩
      · cases h2
    obtain ⟨t, h8, h9⟩ := h7
    have h10 : (strKind P w).is k e.key = true := by rw [h8]; exact strKind_is P w k t
    refine ⟨e.val :: vs, by simp [h4], .cons h10 rfl h5, fun e' he' => ?_⟩
    rcases List.mem_cons.mp he' with rfl | he'
    · exact ⟨k, h10, h9⟩
    · exact h6 e' he'
section
variable {P : Program} {w : World} {K : PySem.W.Frag} {a : Addr} {ks : List Str} {h : Heap}
theorem TabK.dict (T : TabK K w a ks) (X : K.In h) (nd : ks.Nodup) : ∃ vs : List Value, vs.length = ks.length ∧ h.DictOf (strKind P w) a (ks.zip vs) ∧ (a == sysModules) = false := by
  obtain ⟨es, n, D, e⟩ := T.ex
  obtain ⟨vs, h1, h2, h3⟩ := dict_pairs (P := P) e
  refine ⟨vs, h1, ⟨_, es, n, X _ _ D.at_, ⟨rfl, rfl, rfl⟩, rfl, fun q hq => h3 q (Array.mem_toList_iff.mpr hq), h2, ?_⟩, D.low⟩
  rwa [List.map_fst_zip (by omega)]
theorem valueAt_zip : ∀ {ks : List Str} {vs : List Value}, vs.length = ks.length → ∀ z : Str, (valueAt (ks.zip vs) z).isSome = decide (z ∈ ks)
  | [], [], _, z => by simp [valueAt]
  | [], _ :: _, h, _ => by simp at h
  | _ :: _, [], h, _ => by simp at h
  | k :: ks, v :: vs, h, z => by
    have ih := valueAt_zip (ks := ks) (vs := vs) (by simpa using h) z
    unfold valueAt at ih ⊢
    rw [List.zip_cons_cons, List.find?_cons]
    by_cases e : k = z
    · subst e
      simp
    · simp only [show decide ((k, v).1 = z) = false from decide_eq_false e]
      rw [ih]
      simp [Ne.symm e, fun q : z = k => e q.symm]
end
section
variable {X : Cx} {a : Addr} {ks : List Str}
/-- word in TRUTHS -/
def rInTab (a : Addr) (ks : List Str) : R2 := fun x y H Q => ∃ z : Str, x = .str z ∧ y = .ref a ∧ Q (.bl (decide (z ∈ ks))) H
theorem op_in_tab (T : TabK X.K X.w a ks) (nd : ks.Nodup) : OpR X (compareOp .In) (rInTab a ks) := by
  intro pins s σ H x y v u Q I rx ry h
  obtain ⟨z, rfl, rfl, q⟩ := h
  obtain ⟨t, rfl⟩ := rx
  cases ry
  obtain ⟨vs, hl, hd, lo⟩ := T.dict (P := X.prog) I.kIn nd
  refine wpAny_in_of (PySem.strKind_is X.prog X.w z t) lo hd.mapOf ?_
  rw [valueAt_zip hl z]
  exact ⟨.bl _, H, I.tok _, rfl, q⟩
/-- list(RULES) -/
def rListTab (a : Addr) (ks : List Str) : List V → Hp → VK → Prop := fun xs H Q => xs = [.ref a] ∧ ∀ q, H q = none → Q (.ref q) (upd H q (.lst (ks.map V.str)))
theorem call_list_tab (hc : X.calm = true) (T : TabK X.K X.w a ks) (nd : ks.Nodup) (hz : ks.length ≤ sizeLine) : CallR X (.type "list") (rListTab a ks) := by
  intro pins s σ H xs us Q I r h
  obtain ⟨e, q⟩ := h
  subst e
  obtain ⟨u, eu, rx⟩ := vals1 r
  subst eu
  obtain rfl : u = Value.ref a := rx
  obtain ⟨vs, hl, hd, lo⟩ := T.dict (P := X.prog) I.kIn nd
  obtain ⟨ep, hat⟩ := hd.dictAt
  have hlz : (ks.zip vs).length = ks.length := by simp [List.length_zip, hl]
  refine PySem.W.kdl_call (PySem.W.kdl_dict (knd := strKind X.prog X.w) (kvs := ks.zip vs) (ep := ep) lo) (I.ok.hd hc) hat (by rw [hlz]; exact hz) fun h' tk acc' c' hkeep hS hacc => ?_
  refine ⟨.ref s.heap.objs.size, upd H s.heap.objs.size (.lst (ks.map V.str)), I.laid hkeep (Nat.le_refl _) (show ObjOk X.prog X.w _ _ _ (.lst (ks.map V.str)) from ⟨?_, acc'.toList, c', ?_, ?_⟩), rfl, q _ (I.hok.fresh (Nat.le_refl _))⟩
  · rw [List.length_map]; exact hz
  · have el : acc'.toList.length = acc'.size := by simp
    refine vals_of_at (by rw [List.length_map, el, hacc.1, hlz]) fun j x w h1 h2 => ?_
    obtain ⟨k, y, hky, hi⟩ := hacc.2 j w (by rw [← Array.getElem?_toList]; exact h2)
    have e1 : ks[j]? = some k := by
      have := congrArg (Option.map Prod.fst) hky
      rw [← List.getElem?_map, List.map_fst_zip (by omega)] at this
      exact this
    rw [List.getElem?_map, e1] at h1
    cases h1
    obtain ⟨t, rfl⟩ := Value.isStrOf_shape hi
    exact ⟨t, rfl⟩
  · rw [Array.toArray_toList]; exact hS
/-- len(RULES) -/
def rLenTab (a : Addr) (ks : List Str) : List V → Hp → VK → Prop := fun xs H Q => xs = [.ref a] ∧ Q (.int ks.length) H
theorem call_len_tab (T : TabK X.K X.w a ks) (nd : ks.Nodup) (hz : ks.length ≤ sizeLine) : CallR X (.builtin "len") (rLenTab a ks) := by
  intro pins s σ H xs us Q I r h
  obtain ⟨e, q⟩ := h
  subst e
  obtain ⟨u, rfl, ru⟩ := vals1 r
  cases ru
  obtain ⟨vs, hl, hd, lo⟩ := T.dict (P := X.prog) I.kIn nd
  have hlz : (ks.zip vs).length = ks.length := by simp [List.length_zip, hl]
  refine call_len_dict lo hd (by rw [hlz]; rw [sizeLine_eq] at hz; omega) ?_
  rw [hlz]
  exact ⟨.int _, H, I.tok _, ⟨_, rfl⟩, q⟩
/-- d[key] of a written dict -/
def rItTab (K : PySem.W.Frag) (a : Addr) : R2 := fun x y H Q => ∃ (z : Str) (u0 : Value) (v0 : V), x = .ref a ∧ y = .str z ∧ PySem.W.nsIn K a z = some (some u0) ∧ RelV v0 u0 ∧ Q v0 H
theorem op_item_tab (T : TabK X.K X.w a ks) : OpR X getItem (rItTab X.K a) := by
  obtain ⟨es, n, D, _⟩ := T.ex
  exact op_item_kd D
theorem ix_tab (T : TabK X.K X.w a ks) : IxR X (rItTab X.K a) := by
  intro value slice pins s σ H x y v u Q I rx ry h hs
  obtain ⟨es, n, D, _⟩ := T.ex
  obtain ⟨z, u0, v0, rfl, rfl, e, r, q⟩ := h
  cases rx
  obtain ⟨t, rfl⟩ := ry
  have hm := PySem.W.mapOf_K (prog := X.prog) (w := X.w) I.kIn D.at_ D.lit
  exact tail_any hm.typeIs PySem.F.slot_dict_getitem.lookup (wpAny_getItem_of (strKind_is X.prog X.w z t) hm (PySem.W.find_K D.at_ e) ⟨v0, H, I.tok _, r, q⟩) hs
/-- SHOWN[value] -/
def shownOf (b : Bool) : Str := if b then "yes" else "no"
def rShown (a : Addr) : R2 := fun x y H Q => ∃ b : Bool, x = .ref a ∧ y = .bl b ∧ Q (.str (shownOf b)) H
theorem ix_shown (hK : ∃ x y n, (a == sysModules) = false ∧ X.K.lookup a = some ⟨.type "dict", none, .dict #[⟨0, .bool false, x⟩, ⟨1, .bool true, y⟩] n, #[]⟩ ∧ RelV (.str "no") x ∧ RelV (.str "yes") y) : IxR X (rShown a) := by
  intro value slice pins s σ H x y v u Q I rx ry h hs
  obtain ⟨vn, vy, n, lo, hl, rn, ryy⟩ := hK
  obtain ⟨b, rfl, rfl, q⟩ := h
  cases rx
  cases ry
  have hk : PySem.KeysOf (PpSet.boolK X.prog X.w) #[⟨0, .bool false, vn⟩, ⟨1, .bool true, vy⟩] := by
    intro e he
    rcases (List.mem_cons.mp (Array.mem_toList_iff.mpr he)) with rfl | he
    · exact ⟨false, rfl, (by decide +kernel : (0 : Int) = PpSet.hB false)⟩
    · rcases List.mem_cons.mp he with rfl | he
      · exact ⟨true, rfl, (by decide +kernel : (1 : Int) = PpSet.hB true)⟩
      · cases he
  have hm : s.heap.MapOf (PpSet.boolK X.prog X.w) a (fun k => findBy PpSet.isB #[⟨0, .bool false, vn⟩, ⟨1, .bool true, vy⟩] k) := ⟨_, _, n, I.kIn _ _ hl, ⟨rfl, rfl, rfl⟩, rfl, hk, fun _ => rfl⟩
  cases b with
  | false => exact tail_any hm.typeIs PySem.F.slot_dict_getitem.lookup (wpAny_getItem_of (PpSet.boolK_is X.prog X.w false) hm (show _ = some vn from rfl) ⟨.str "no", H, I.tok _, rn, q⟩) hs
  | true => exact tail_any hm.typeIs PySem.F.slot_dict_getitem.lookup (wpAny_getItem_of (PpSet.boolK_is X.prog X.w true) hm (show _ = some vy from rfl) ⟨.str "yes", H, I.tok _, ryy, q⟩) hs
end
end K5
set_option Elab.async false
set_option linter.all false
set_option maxRecDepth 100000
set_option maxHeartbeats 4000000
namespace K5
open PySem PySem.Spec PyProof.Rows L2
variable {P : Program} {w : World} {K : PySem.W.Frag} {mg : Str → Option Value} {base : Heap}
theorem kii : PySem.W.kitOne K (.type "int") (.type "int") = some true := by rfl
theorem kib : PySem.W.kitOne K (.type "int") (.type "bool") = some false := by rfl
theorem kni : PySem.W.kitOne K (.type "NoneType") (.type "int") = some false := by rfl
/-- is_number -/
def numB (v : V) (lo hi : Int) : Bool := match v with
  | .int n => decide (lo ≤ n) && decide (n ≤ hi)
  | _ => false
def spIsNumber : Sp := fun vs H Q _ => ∃ (v : V) (lo hi : Int), vs = [v, .int lo, .int hi] ∧ (v = .non ∨ ∃ n, v = .int n) ∧ Q (.bl (numB v lo hi)) H
theorem scIsNumber : FnScope ["thing", "low", "high"] ["thing", "low", "high"] (defScope sIsNumber) := ⟨rfl, rfl, rfl, by decide +kernel, rfl, by decide +kernel, by decide +kernel⟩
theorem cl_isNumber (T : Txt w K mg) : Cl P w K mg base CX0 1 "is_number" spIsNumber := by
  refine cl_def T (i := 12) (j := 0) rfl (by decide +kernel) scIsNumber (fun _ _ _ _ _ _ us hl => match us, hl with | [_, _, _], _ => rfl) (fun vs H Q E h => ?_) (fun cdv A outer s H vs Q E hr h => ?_)
  · obtain ⟨v, lo, hi, rfl, _⟩ := h
    rfl
  · obtain ⟨v, lo, hi, rfl, hv, k⟩ := h
    refine ⟨_, pss_one (ps_ret (pe_and (isi T (pa_cons (pv 0) (pa_cons (tyInt T) pa_nil))) (pe_and (pe_not (isi T (pa_cons (pv 0) (pa_cons (tyBool T) pa_nil)))) (pe_one (pe_chain op_le op_le (pv 1) (pv 0) (pv 2)))))), ?_⟩
    rcases hv with rfl | ⟨n, rfl⟩
    · refine ⟨_, rfl, _, _, _, _, _, rfl, .ty _, .base .non, kni, _, rfl, ?_⟩
      exact iteF k
    · refine ⟨_, rfl, _, _, _, _, _, rfl, .ty _, .base (.int _), kii, _, rfl, ?_⟩
      refine iteT ?_
      refine ⟨_, rfl, _, _, _, _, _, rfl, .ty _, .base (.int _), kib, _, rfl, _, rfl, ?_⟩
      refine iteT ?_
      refine ⟨_, rfl, _, rfl, _, _, rfl, rfl, _, rfl, ?_⟩
      refine ite2 (fun h1 => ?_) (fun h1 => ?_)
      · refine ⟨_, rfl, _, _, rfl, rfl, ?_⟩
        refine qb (Q := Q) ?_ k
        show decide (n ≤ hi) = (decide (lo ≤ n) && decide (n ≤ hi))
        rw [h1, Bool.true_and]
      · refine qb (Q := Q) ?_ k
        show false = (decide (lo ≤ n) && decide (n ≤ hi))
        cases q : decide (lo ≤ n) with
        | true => exact absurd q h1
        | false => rfl
theorem numB_nat (n m : Nat) : numB (.int (n : Int)) 0 ((m : Int) - 1) = decide (n < m) := by
  show (decide ((0 : Int) ≤ n) && decide ((n : Int) ≤ m - 1)) = decide (n < m)
  by_cases h : n < m
  · rw [decide_eq_true h, decide_eq_true (show (0 : Int) ≤ n by omega), decide_eq_true (show (n : Int) ≤ m - 1 by omega)] <;> rfl
  · rw [decide_eq_false h, decide_eq_false (show ¬ (n : Int) ≤ m - 1 by omega), Bool.and_false]
/-! ### is_act -/
theorem kst : PySem.W.kitOne K (.type "str") (.type "str") = some true := by rfl
theorem ktt : PySem.W.kitOne K (.type "tuple") (.type "tuple") = some true := by rfl
theorem kbb : PySem.W.kitOne K (.type "bool") (.type "bool") = some true := by rfl
def spIsAct : Sp := fun vs H Q _ => ∃ (ev many : Nat) (v : V) (a : Act), vs = [.int ev, .int many, v] ∧ ActAt H v a ∧ ∀ H', Same H H' → Q (.bl (actOk ev many a)) H'
theorem scIsAct : FnScope ["events", "many", "thing"] ["events", "many", "thing"] (defScope sIsAct) := ⟨rfl, rfl, rfl, by decide +kernel, rfl, by decide +kernel, by decide +kernel⟩
theorem dp_act {H : Hp} {p : Addr} {a : Act} (h : H p = some (.tup (actV a))) : ∃ d, Dp K H (.ref p) (.tuple d) ∧ PyData.plain (.tuple d) = true ∧ PyData.depth (.tuple d) ≤ 64 ∧ d ≠ [] ∧ PyData.eqv (.tuple d) (.tuple [.str sRaise]) = (match a with | .raise => true | _ => false) := by
  cases a with
  | raise => exact ⟨[.str sRaise], .tup (SqT.of h) (.cons (.str _) .nil), rfl, by simp [PyData.depth, PyData.depthAll], by simp, by simp [PyData.eqv, PyData.eqvAll]⟩
  | num w n => exact ⟨[.str w.s, .int n], .tup (SqT.of h) (.cons (.str _) (.cons (.int _) .nil)), rfl, by simp [PyData.depth, PyData.depthAll], by simp, by simp [PyData.eqv, PyData.eqvAll]⟩
theorem eqv_nil {d : List PyData} (h : d ≠ []) : PyData.eqv (.tuple d) (.tuple []) = false := by
  cases d with
  | nil => exact absurd rfl h
  | cons x r => simp [PyData.eqv, PyData.eqvAll]
theorem cl_isAct (T : Txt w K mg) (C1 : Cl P w K mg base CX0 1 "is_number" spIsNumber) : Cl P w K mg base CX0 2 "is_act" spIsAct := by
  refine cl_def T (i := 14) (j := 2) rfl (by decide +kernel) scIsAct (fun _ _ _ _ _ _ us hl => match us, hl with | [_, _, _], _ => rfl) (fun vs H Q E h => ?_) (fun cdv A outer s H vs Q E hr h => ?_)
  · obtain ⟨ev, many, v, a, rfl, _⟩ := h
    rfl
  · obtain ⟨ev, many, v, a, rfl, ⟨p, rfl, hp⟩, k⟩ := h
    refine ⟨_, pss_cons (ps_if (PW.pt (pw_or (pt_not (pt_val (isi T (pa_cons (pv 2) (pa_cons (tyTup T) pa_nil))))) (pw_or (pt_cmpR (op_eqP hr.units) (pv 2) (pe_tup pa_nil) (nomark _)) (pw_or1 (pt_not (pt_val (isi T (pa_cons (pe_ix ix_tup (pv 2) pe_int (fun _ _ => rfl)) (pa_cons (tyStr T) pa_nil)))))))))
        (pss_one (ps_ret pe_bl)) pss_nil)
      (pss_cons (ps_if (pt_cmpR op_in_seq (pe_ix ix_tup (pv 2) pe_int (fun _ _ => rfl)) (pe_tup (pa_cons pe_str (pa_cons pe_str (pa_cons pe_str pa_nil)))) (by rfl))
        (pss_one (ps_ret (pe_and (pe_cmpR op_eq (pe_callB call_len_seq (by rfl) (fr T "len") boot_len (pa_cons (pv 2) pa_nil)) pe_int (nomark _)) (pe_one (pe_cl C1 hr (by decide) pass0 rfl (pa_cons (pe_ix ix_tup (pv 2) pe_int (fun _ _ => rfl)) (pa_cons pe_int (pa_cons (pe_op op_sub (pe_ifExp (pt_cmpR op_eq (pe_ix ix_tup (pv 2) pe_int (fun _ _ => rfl)) pe_str (nomark _)) (pv 0) (pv 1)) pe_int) pa_nil)))))))) pss_nil)
      (pss_one (ps_ret (pe_cmpR (op_eqP hr.units) (pv 2) (pe_tup (pa_cons pe_str pa_nil)) (nomark _))))), ?_⟩
    obtain ⟨d, hd, hpl, hdp, hne, heq⟩ := dp_act (K := K) hp
    refine ⟨_, rfl, _, _, _, _, _, rfl, .ty _, .base (.tup hp), ktt, _, rfl, ?_⟩
    refine iteF ?_
    refine ⟨_, rfl, Nat.zero_le _, fun q hq => ?_⟩
    have hp1 := Same.new (o := .tup []) hq p _ hp
    obtain ⟨d1, hd1, hpl1, hdp1, hne1, heq1⟩ := dp_act (K := K) hp1
    refine ⟨_, _, hd1, .tup (SqT.of upd_same) .nil, hpl1, rfl, by simp [PyData.depth, PyData.depthAll], ?_⟩
    rw [eqv_nil hne1]
    refine ⟨_, rfl, ?_⟩
    refine iteF ?_
    have k1 : ∀ H', Same (upd H q (.tup [])) H' → Q (.bl (actOk ev many a)) H' := fun H' z => k H' ((Same.new hq).trans z)
    cases a with
    | raise =>
      refine ⟨_, rfl, _, _, _, _, rfl, rfl, SqT.of hp1, rfl, _, _, _, _, _, rfl, .ty _, .base (.str _), kst, _, rfl, ?_⟩
      refine iteF ?_
      refine ⟨_, rfl, _, _, _, _, rfl, rfl, SqT.of hp1, rfl, by decide, fun q2 hq2 => ?_⟩
      refine ⟨_, _, rfl, .inr (SqT.of upd_same), rfl, by decide +kernel, _, rfl, ?_⟩
      refine iteF ?_
      have hp2 := Same.new (o := .tup [.str "add", .str "cut", .str "emit"]) hq2 p _ hp1
      refine ⟨_, rfl, by decide, fun q3 hq3 => ?_⟩
      have hp3 := Same.new (o := .tup [.str "raise"]) hq3 p _ hp2
      refine ⟨.tuple [.str sRaise], .tuple [.str sRaise], .tup (SqT.of hp3) (.cons (.str _) .nil), .tup (SqT.of upd_same) (.cons (.str _) .nil), rfl, rfl, by simp [PyData.depth, PyData.depthAll], ?_⟩
      refine qb (Q := Q) (a := PyData.eqv _ _) (b := true) (by simp [PyData.eqv, PyData.eqvAll]) ?_
      exact k1 _ ((Same.new hq2).trans (Same.new hq3))
    | num w n =>
      have hin : inV (.str w.s) [.str "add", .str "cut", .str "emit"] = true := by cases w <;> decide +kernel
      refine ⟨_, rfl, _, _, _, _, rfl, rfl, SqT.of hp1, rfl, _, _, _, _, _, rfl, .ty _, .base (.str _), kst, _, rfl, ?_⟩
      refine iteF ?_
      refine ⟨_, rfl, _, _, _, _, rfl, rfl, SqT.of hp1, rfl, by decide, fun q2 hq2 => ?_⟩
      have hp2 := Same.new (o := .tup [.str "add", .str "cut", .str "emit"]) hq2 p _ hp1
      refine ⟨_, _, rfl, .inr (SqT.of upd_same), rfl, by decide +kernel, _, rfl, ?_⟩
      show if inV (.str w.s) [.str "add", .str "cut", .str "emit"] = true then _ else _
      rw [hin]
      refine iteT ?_
      refine ⟨_, rfl, _, _, rfl, .inr (SqT.of hp2), rfl, _, rfl, ?_⟩
      refine iteT ?_
      refine ⟨_, rfl, _, _, _, _, rfl, rfl, SqT.of hp2, rfl, _, rfl, _, _, _, _, rfl, rfl, SqT.of hp2, rfl, ?_⟩
      refine ⟨rfl, _, rfl, ?_⟩
      have fin : ∀ H', Same (upd H q (.tup [])) H' → ∀ m : Nat, decide (n < m) = actOk ev many (.num w n) → Q (.bl (numB (.int (n : Int)) 0 ((m : Int) - 1))) H' := fun H' z m e => qb (Q := Q) (by rw [numB_nat, e]) (k1 H' z)
      cases w with
      | emit =>
        refine iteT ?_
        refine ⟨_, rfl, _, _, rfl, rfl, _, _, _, rfl, .inr ⟨_, rfl⟩, ?_⟩
        exact fin _ (Same.new hq2) ev rfl
      | add =>
        refine iteF ?_
        refine ⟨_, rfl, _, _, rfl, rfl, _, _, _, rfl, .inr ⟨_, rfl⟩, ?_⟩
        exact fin _ (Same.new hq2) many rfl
      | cut =>
        refine iteF ?_
        refine ⟨_, rfl, _, _, rfl, rfl, _, _, _, rfl, .inr ⟨_, rfl⟩, ?_⟩
        exact fin _ (Same.new hq2) many rfl
/-! ### is_kind, are_kinds -/
theorem scIsKind : FnScope ["events", "many", "thing", "act"] ["events", "many", "thing"] (defScope sIsKind) := ⟨rfl, rfl, rfl, by decide +kernel, rfl, by decide +kernel, by decide +kernel⟩
def spIsKind : Sp := fun vs H Q _ => ∃ (ev many : Nat) (v : V) (a : Kind), vs = [.int ev, .int many, v] ∧ KindAt H v a ∧ ∀ H', Same H H' → Q (.bl (kindOk ev many a)) H'
theorem paired_len {α : Type} {F : V → α → Prop} {vs : List V} {as : List α} (p : Paired F vs as) : vs.length = as.length := Paired.length p
/-- a list of truths made in a comprehension -/
theorem all_map {α : Type} (f : α → Bool) (as : List α) : (as.map f).all id = as.all f := by
  induction as with
  | nil => rfl
  | cons a r ih => rw [List.map_cons, List.all_cons, List.all_cons, ih] <;> rfl
theorem cl_isKind (T : Txt w K mg) (C_is_number : Cl P w K mg base CX0 1 "is_number" spIsNumber) (C_is_act : Cl P w K mg base CX0 2 "is_act" spIsAct) : Cl P w K mg base CX0 3 "is_kind" spIsKind := by
  refine cl_def T (i := 15) (j := 3) rfl (by decide +kernel) scIsKind (fun _ _ _ _ _ _ us hl => match us, hl with | [_, _, _], _ => rfl) (fun vs H Q E h => ?_) (fun cdv A outer s H vs Q E hr h => ?_)
  · obtain ⟨ev, many, v, a, rfl, _⟩ := h
    rfl
  · obtain ⟨ev, many, v, ⟨e, o, as⟩, rfl, ⟨p, t, rfl, hp, ⟨p2, avs, rfl, hp2, pr⟩⟩, k⟩ := h
    refine ⟨_, (pss_cons (ps_if (PW.pt (pw_or (pt_not (pt_val (isi T (pa_cons (pv 2) (pa_cons (tyTup T) pa_nil))))) (pw_or (pt_cmpR op_ne (pe_callB (r := rLenS K) call_len_seq (by rfl) (fr T "len") boot_len (pa_cons (pv 2) pa_nil)) pe_int (nomark _)) (pw_or1 (pt_not (pt_val (pe_cl C_is_number hr (by decide) pass0 rfl (pa_cons (pe_ix ix_tup (pv 2) pe_int (fun _ _ => rfl)) (pa_cons pe_int (pa_cons (pe_op op_sub (pv 0) pe_int) pa_nil)))))))))) (pss_one (ps_ret pe_bl)) pss_nil)
      (pss_cons (ps_if (PW.pt (pw_or (pt_not (pt_val (isi T (pa_cons (pe_ix ix_tup (pv 2) pe_int (fun _ _ => rfl)) (pa_cons (tyBool T) pa_nil))))) (pw_or (pt_not (pt_val (isi T (pa_cons (pe_ix ix_tup (pv 2) pe_int (fun _ _ => rfl)) (pa_cons (tyTup T) pa_nil))))) (pw_or1 (pt_cmpR op_gt (pe_callB (r := rLenS K) call_len_seq (by rfl) (fr T "len") boot_len (pa_cons (pe_ix ix_tup (pv 2) pe_int (fun _ _ => rfl)) pa_nil)) (pInt T.mA rfl) (nomark _)))))) (pss_one (ps_ret pe_bl)) pss_nil)
      (pss_one (ps_ret (pe_callB (cr_all rfl) (by rfl) (fr T "all") PyProof.Rows.boot_all (pa_cons (pe_lc (own := [("act", 3)]) (g := gName 3) (tt := tYes) rfl scIsKind.nd (pi_tup (pe_ix ix_tup (pv 2) pe_int (fun _ _ => rfl))) (blkOk_by (own := [("act", 3)]) (N := ["events", "many", "thing", "act"]) (sc := defScope sIsKind) (by decide +kernel)) (fun _ _ _ _ _ => (pg_name (i := 3) scIsKind.nd rfl (by first | exact Or.inl rfl | exact Or.inr rfl))) (fun _ _ _ _ _ => pts_nil) (fun _ _ _ _ _ => (pe_cl C_is_act hr (by decide) pass0 rfl (pa_cons (pv 0) (pa_cons (pv 1) (pa_cons (pv 3) pa_nil)))))) pa_nil)))))), ?_⟩
    refine ⟨_, rfl, _, _, _, _, _, rfl, .ty _, .base (.tup hp), ktt, _, rfl, ?_⟩
    refine iteF ?_
    refine ⟨_, rfl, _, _, rfl, .inr (SqT.of hp), rfl, _, rfl, ?_⟩
    refine iteF ?_
    refine ⟨_, rfl, _, _, _, _, rfl, rfl, SqT.of hp, rfl, _, rfl, _, _, rfl, rfl, _, _, _, rfl, .inr ⟨_, rfl⟩, _, rfl, ?_⟩
    rw [numB_nat]
    have kk : ∀ b : Bool, b = kindOk ev many ⟨e, o, as⟩ → ∀ H', Same H H' → Q (.bl b) H' := fun b z H' s => qb (Q := Q) z (k H' s)
    by_cases he : e < ev
    · rw [decide_eq_true he]
      refine iteF ?_
      refine ⟨_, rfl, _, _, _, _, rfl, rfl, SqT.of hp, rfl, _, _, _, _, _, rfl, .ty _, .base (.bl _), kbb, _, rfl, ?_⟩
      refine iteF ?_
      refine ⟨_, rfl, _, _, _, _, rfl, rfl, SqT.of hp, rfl, _, _, _, _, _, rfl, .ty _, .base (.tup hp2), ktt, _, rfl, ?_⟩
      refine iteF ?_
      refine ⟨_, rfl, _, _, _, _, rfl, rfl, SqT.of hp, rfl, _, _, rfl, .inr (SqT.of hp2), _, _, rfl, rfl, _, rfl, ?_⟩
      have hl := paired_len pr
      have hl' : avs.length = as.length := hl
      by_cases h3 : as.length ≤ 3
      · have e1 : decide ((3 : Int) < (avs.length : Int)) = false := by rw [hl']; exact decide_eq_false (by omega)
        rw [e1]
        refine iteF ?_
        refine ⟨_, rfl, _, _, _, _, rfl, rfl, SqT.of hp, rfl, _, rfl, ⟨_, SqT.of hp2⟩, fun D hD => ?_⟩
        refine lc_mapT (F := ActAt H) (fun c => .bl (actOk ev many c)) hD (SqT.of hp2) pr (Nat.lt_of_le_of_lt h3 (by decide +kernel)) (fun x c H' f hc s Q' kQ => ?_) (fun H' s hD' => ?_)
        · exact ⟨_, rfl, _, rfl, _, rfl, _, _, _, _, rfl, f.mono (Kt.of s), kQ⟩
        · refine ⟨_, as.map (actOk ev many), rfl, .inl (.inl ?_), ?_⟩
          · rw [hD', List.map_map]
            rfl
          · refine kk _ ?_ _ s
            rw [all_map]
            show _ = (decide (e < ev) && (decide (as.length ≤ 3) && _))
            rw [decide_eq_true he, decide_eq_true h3] <;> rfl
      · have e1 : decide ((3 : Int) < (avs.length : Int)) = true := by rw [hl']; exact decide_eq_true (by omega)
        rw [e1]
        refine iteT (kk _ ?_ _ (Same.refl _))
        show false = (decide (e < ev) && (decide (as.length ≤ 3) && _))
        rw [decide_eq_false h3, Bool.false_and, Bool.and_false]
    · rw [decide_eq_false he]
      refine iteT (kk _ ?_ _ (Same.refl _))
      show false = (decide (e < ev) && (decide (as.length ≤ 3) && _))
      rw [decide_eq_false he, Bool.false_and]
/-! ### are_kinds -/
theorem scAreKinds : FnScope ["events", "thing", "kind"] ["events", "thing"] (defScope sAreKinds) := ⟨rfl, rfl, rfl, by decide +kernel, rfl, by decide +kernel, by decide +kernel⟩
def spAreKinds : Sp := fun vs H Q _ => ∃ (ev : Nat) (v : V) (a : List Kind), vs = [.int ev, v] ∧ KindsAt H v a ∧ ∀ H', Same H H' → Q (.bl (kindsOk ev a)) H'
theorem cl_areKinds (T : Txt w K mg) (C_is_kind : Cl P w K mg base CX0 3 "is_kind" spIsKind) : Cl P w K mg base CX0 4 "are_kinds" spAreKinds := by
  refine cl_def T (i := 16) (j := 4) rfl (by decide +kernel) scAreKinds (fun _ _ _ _ _ _ us hl => match us, hl with | [_, _], _ => rfl) (fun vs H Q E h => ?_) (fun cdv A outer s H vs Q E hr h => ?_)
  · obtain ⟨ev, v, a, rfl, _⟩ := h
    rfl
  · obtain ⟨ev, v, as, rfl, ⟨p, avs, rfl, hp, pr⟩, k⟩ := h
    refine ⟨_, (pss_cons (ps_if (PW.pt (pw_or (pt_not (pt_val (isi T (pa_cons (pv 1) (pa_cons (tyTup T) pa_nil))))) (pw_or1 (pt_not (pt_chain op_le op_le pe_int (pe_callB (r := rLenS K) call_len_seq (by rfl) (fr T "len") boot_len (pa_cons (pv 1) pa_nil)) (pInt T.mK rfl)))))) (pss_one (ps_ret pe_bl)) pss_nil)
      (pss_one (ps_ret (pe_callB (cr_all rfl) (by rfl) (fr T "all") PyProof.Rows.boot_all (pa_cons (pe_lc (own := [("kind", 2)]) (g := gName 2) (tt := tYes) rfl scAreKinds.nd (pi_tup (pv 1)) (blkOk_by (own := [("kind", 2)]) (N := ["events", "thing", "kind"]) (sc := defScope sAreKinds) (by decide +kernel)) (fun _ _ _ _ _ => (pg_name (i := 2) scAreKinds.nd rfl (by first | exact Or.inl rfl | exact Or.inr rfl))) (fun _ _ _ _ _ => pts_nil) (fun _ _ _ _ _ => (pe_cl C_is_kind hr (by decide) pass0 rfl (pa_cons (pv 0) (pa_cons (pe_callB (r := rLenS K) call_len_seq (by rfl) (fr T "len") boot_len (pa_cons (pv 1) pa_nil)) (pa_cons (pv 2) pa_nil)))))) pa_nil))))), ?_⟩
    have kk : ∀ b : Bool, b = kindsOk ev as → ∀ H', Same H H' → Q (.bl b) H' := fun b z H' s => qb (Q := Q) z (k H' s)
    have hl := paired_len pr
    refine ⟨_, rfl, _, _, _, _, _, rfl, .ty _, .base (.tup hp), ktt, _, rfl, ?_⟩
    refine iteF ?_
    refine ⟨_, rfl, _, _, rfl, .inr (SqT.of hp), _, _, rfl, rfl, _, rfl, ?_⟩
    refine ite2 (fun h1 => ?_) (fun h1 => ?_)
    · refine ⟨_, _, rfl, rfl, _, rfl, ?_⟩
      have h1' : 1 ≤ as.length := by have := of_decide_eq_true h1; omega
      by_cases h4 : as.length ≤ 4
      · have e1 : decide ((avs.length : Int) ≤ (4 : Int)) = true := by rw [hl]; exact decide_eq_true (by omega)
        rw [e1]
        refine iteF ?_
        refine ⟨_, rfl, _, rfl, ⟨_, SqT.of hp⟩, fun D hD => ?_⟩
        refine lc_mapT (F := KindAt H) (fun c => .bl (kindOk ev avs.length c)) hD (SqT.of hp) pr (Nat.lt_of_le_of_lt h4 (by decide +kernel)) (fun x c H' f hc s Q' kQ => ?_) (fun H' s hD' => ?_)
        · exact ⟨_, rfl, _, rfl, _, _, rfl, .inr (Same.tup s (SqT.of hp)), _, rfl, _, _, _, _, rfl, f.mono (Kt.of s), kQ⟩
        · refine ⟨_, as.map (kindOk ev avs.length), rfl, .inl (.inl ?_), ?_⟩
          · rw [hD', List.map_map]
            rfl
          · refine kk _ ?_ _ s
            rw [all_map, hl]
            show _ = ((decide (1 ≤ as.length) && decide (as.length ≤ 4)) && _)
            rw [decide_eq_true h1', decide_eq_true h4] <;> rfl
      · have e1 : decide ((avs.length : Int) ≤ (4 : Int)) = false := by rw [hl]; exact decide_eq_false (by omega)
        rw [e1]
        refine iteT (kk _ ?_ _ (Same.refl _))
        show false = ((decide (1 ≤ as.length) && decide (as.length ≤ 4)) && _)
        rw [decide_eq_false h4, Bool.and_false, Bool.false_and]
    · refine ⟨_, rfl, ?_⟩
      refine iteT (kk _ ?_ _ (Same.refl _))
      show false = ((decide (1 ≤ as.length) && decide (as.length ≤ 4)) && _)
      rw [decide_eq_false (show ¬ 1 ≤ as.length from fun z => h1 (decide_eq_true (by omega))), Bool.false_and, Bool.false_and]
end K5
set_option Elab.async false
set_option linter.all false
set_option maxRecDepth 100000
set_option maxHeartbeats 4000000
namespace K5
open PySem PySem.Spec PyProof.Rows L2
variable {P : Program} {w : World} {K : PySem.W.Frag} {mg : Str → Option Value} {base : Heap}
/-! ### number_in -/
def optI : Option Nat → V
  | some n => .int n
  | none => .non
theorem one_sign {z : Str} (h : z.length = 1) : ∃ c, z = ⟨#[c]⟩ := by
  obtain ⟨l⟩ := z
  obtain ⟨l⟩ := l
  match l, h with
  | [c], _ => exact ⟨c, rfl⟩
theorem numIn_len {z : Str} (h : z.length ≠ 1) : numIn z = none := by
  obtain ⟨l⟩ := z
  obtain ⟨l⟩ := l
  match l, h with
  | [], _ => rfl
  | [c], h => exact absurd rfl h
  | _ :: _ :: _, _ => rfl
theorem dig_mem (c : Nat) : decide (c ∈ ("0123456789" : Str).cps.toList) = (numIn ⟨#[c]⟩).isSome := by
  have e : ("0123456789" : Str).cps.toList = [48, 49, 50, 51, 52, 53, 54, 55, 56, 57] := by decide +kernel
  rw [e]
  show _ = (if 48 ≤ c ∧ c ≤ 57 then some (c - 48) else none).isSome
  by_cases h : 48 ≤ c ∧ c ≤ 57
  · rw [if_pos h]
    exact decide_eq_true (by simp; omega)
  · rw [if_neg h]
    exact decide_eq_false (by simp; omega)
theorem int_sign {c n : Nat} (h : numIn ⟨#[c]⟩ = some n) : PySem.intText? ⟨#[c]⟩ = some (n : Int) := by
  have h1 : (if 48 ≤ c ∧ c ≤ 57 then some (c - 48) else none) = some n := h
  by_cases q : 48 ≤ c ∧ c ≤ 57
  · rw [if_pos q] at h1
    have e : n = c - 48 := (Option.some.inj h1).symm
    subst e
    have : c = 48 ∨ c = 49 ∨ c = 50 ∨ c = 51 ∨ c = 52 ∨ c = 53 ∨ c = 54 ∨ c = 55 ∨ c = 56 ∨ c = 57 := by omega
    rcases this with rfl | rfl | rfl | rfl | rfl | rfl | rfl | rfl | rfl | rfl <;> decide +kernel
  · rw [if_neg q] at h1
    cases h1
theorem scNumberIn : FnScope ["word"] ["word"] (defScope sNumberIn) := ⟨rfl, rfl, rfl, by decide +kernel, rfl, by decide +kernel, by decide +kernel⟩
def spNumberIn : Sp := fun vs H Q _ => ∃ z : Str, vs = [.str z] ∧ z.length ≤ sizeLine ∧ Q (optI (numIn z)) H
theorem cl_numberIn (T : Txt w K mg) : Cl P w K mg base CX0 1 "number_in" spNumberIn := by
  refine cl_def T (i := 31) (j := 17) rfl (by decide +kernel) scNumberIn (fun _ _ _ _ _ _ us hl => match us, hl with | [_], _ => rfl) (fun vs H Q E h => ?_) (fun cdv A outer s H vs Q E hr h => ?_)
  · obtain ⟨z, rfl, _⟩ := h
    rfl
  · obtain ⟨z, rfl, hz, k⟩ := h
    refine ⟨_, (pss_one (ps_ret (pe_ifExp (PW.pt (pw_and (pt_cmpR op_eq (pe_callB call_len (by rfl) (fr T "len") boot_len (pa_cons (pv 0) pa_nil)) pe_int (nomark _)) (pw_and1 (pt_cmpR op_in_sign (pv 0) (pDig T rfl) (by rfl))))) (pe_callTy call_int_str (by rfl) (fr T "int") PyProof.Rows.boot_int (pa_cons (pv 0) pa_nil)) pe_non))), ?_⟩
    refine ⟨_, rfl, _, _, rfl, ⟨hz, rfl⟩, rfl, _, rfl, ?_⟩
    by_cases h1 : z.length = 1
    · obtain ⟨c, rfl⟩ := one_sign h1
      refine iteT ?_
      refine ⟨_, rfl, c, _, rfl, rfl, _, rfl, ?_⟩
      rw [dig_mem]
      cases e : numIn ⟨#[c]⟩ with
      | none =>
        rw [e] at k
        exact iteF k
      | some n =>
        rw [e] at k
        refine iteT ?_
        exact ⟨_, rfl, _, _, rfl, int_sign e, by show 1 ≤ 640; decide, k⟩
    · rw [numIn_len h1] at k
      have e : decide (V.int (z.length : Int) = V.int 1) = false := decide_eq_false fun q => h1 (by injection q with q; omega)
      show if decide (V.int (z.length : Int) = V.int 1) = true then _ else _
      rw [e]
      exact iteF (iteF k)
theorem inV_w3 (z : Str) : inV (.str z) [.str "add", .str "cut", .str "emit"] = (w3 z).isSome := by
  unfold w3
  by_cases h1 : z = "add"
  · subst h1; decide +kernel
  · by_cases h2 : z = "cut"
    · subst h2; decide +kernel
    · by_cases h3 : z = "emit"
      · subst h3; decide +kernel
      · rw [if_neg h1, if_neg h2, if_neg h3]
        simp [inV, eqV, h1, h2, h3, Ne.symm h1, Ne.symm h2, Ne.symm h3]
/-! ### acts_in -/
theorem scActsIn : FnScope ["words", "found", "at"] ["words"] (defScope sActsIn) := ⟨rfl, rfl, rfl, by decide +kernel, rfl, by decide +kernel, by decide +kernel⟩
def ActsR (H : Hp) (v : V) : Option (List Act) → Prop
  | some as => ActsAt H v as
  | none => v = .non
def spActsIn (K : PySem.W.Frag) : Sp := fun vs H Q _ => ∃ (p : Addr) (ws : List Str), vs = [.ref p] ∧ SqL K H p (ws.map V.str) ∧ ws.length < 2 ^ 20 ∧ (∀ z ∈ ws, z.length ≤ sizeLine) ∧ ∀ H' v, Same H H' → ActsR H' v (actsIn ws) → Q v H'
theorem cl_actsIn (T : Txt w K mg) (C_number_in : Cl P w K mg base CX0 1 "number_in" spNumberIn) : Cl P w K mg base CX0 2 "acts_in" (spActsIn K) := by
  refine cl_def T (i := 32) (j := 18) rfl (by decide +kernel) scActsIn (fun _ _ _ _ _ _ us hl => match us, hl with | [_], _ => rfl) (fun vs H Q E h => ?_) (fun cdv A outer s H vs Q E hr h => ?_)
  · obtain ⟨p, ws, rfl, _⟩ := h
    rfl
  · obtain ⟨p, ws, rfl, hp, hn, hz, k⟩ := h
    refine ⟨_, (pss_cons (ps_par (i := 1) (j := 2) rfl scActsIn.nd rfl rfl (by decide) rfl rfl (pa_cons (pe_lst pa_nil) (pa_cons pe_int pa_nil)) (by rfl))
      (pss_cons (ps_while PassesOwn.never (pt_cmpR op_lt (pv 2) (pe_callB call_len_seq (by rfl) (fr T "len") boot_len (pa_cons (pv 0) pa_nil)) (nomark _)) (pss_one (ps_if (pt_cmpR op_eq (pe_ix ix_list (pv 0) (pv 2) (fun _ _ => rfl)) pe_str (nomark _)) (pss_cons (ps_expr (pe_bm PySem.F.plainAttrs_list PySem.F.slot_list_append PySem.F.type_list_append mt_append (pv 1) (pa_cons (pe_tup (pa_cons pe_str pa_nil)) pa_nil)))
      (pss_one (ps_aug (i := 2) scActsIn.nd rfl (by first | exact Or.inl rfl | exact Or.inr rfl) pe_int ip_add))) (pss_one (ps_if (PW.pt (pw_and (pt_cmpR op_in_seq (pe_ix ix_list (pv 0) (pv 2) (fun _ _ => rfl)) (pe_tup (pa_cons pe_str (pa_cons pe_str (pa_cons pe_str pa_nil)))) (by rfl)) (pw_and (pt_cmpR op_lt (pe_op op_add (pv 2) pe_int) (pe_callB call_len_seq (by rfl) (fr T "len") boot_len (pa_cons (pv 0) pa_nil)) (nomark _)) (pw_and1 (pt_cmpR op_notN (pe_cl C_number_in hr (by decide) pass0 rfl (pa_cons (pe_ix ix_list (pv 0) (pe_op op_add (pv 2) pe_int) (fun _ _ => rfl)) pa_nil)) pe_non (nomark _)))))) (pss_cons (ps_expr (pe_bm PySem.F.plainAttrs_list PySem.F.slot_list_append PySem.F.type_list_append mt_append (pv 1) (pa_cons (pe_tup (pa_cons (pe_ix ix_list (pv 0) (pv 2) (fun _ _ => rfl)) (pa_cons (pe_cl C_number_in hr (by decide) pass0 rfl (pa_cons (pe_ix ix_list (pv 0) (pe_op op_add (pv 2) pe_int) (fun _ _ => rfl)) pa_nil)) pa_nil))) pa_nil)))
      (pss_one (ps_aug (i := 2) scActsIn.nd rfl (by first | exact Or.inl rfl | exact Or.inr rfl) pe_int ip_add))) (pss_one (ps_ret pe_non)))))))
      (pss_one (ps_ret (pe_callTy call_tuple_of (by rfl) (fr T "tuple") PyProof.Rows.boot_tuple (pa_cons (pv 1) pa_nil)))))), ?_⟩
    refine ⟨Nat.zero_le _, fun D hD => ⟨_, _, rfl, ?_⟩⟩
    refine ⟨fun m σ H1 => ∃ (j : Nat) (as : List Act) (vs : List V), m = ws.length - j ∧ σ = [some (.ref p), some (.ref D), some (.int j)] ∧ j ≤ ws.length ∧ Same H H1 ∧ H1 D = some (.lst vs) ∧ Paired (ActAt H1) vs as ∧ vs.length ≤ j ∧ actsIn ws = (actsIn (ws.drop j)).map (as ++ ·), ⟨_, 0, [], [], rfl, rfl, Nat.zero_le _, Same.new hD, upd_same, .nil, Nat.le_refl _, ?_⟩, ?_⟩
    · rw [List.drop_zero]
      cases actsIn ws <;> rfl
    rintro m σ H1 ⟨j, as, vs, rfl, rfl, hj, s1, hd, pr, hv, ea⟩
    refine ⟨_, rfl, _, rfl, _, _, rfl, .inl (s1.seq hp), _, _, rfl, rfl, _, rfl, ?_⟩
    rw [List.length_map]
    by_cases hlt : j < ws.length
    · rw [decide_eq_true (show (j : Int) < (ws.length : Int) by omega)]
      refine iteT ?_
      refine ⟨fun σ' H' => ∃ (j' : Nat) (as : List Act) (vs : List V), j < j' ∧ σ' = [some (.ref p), some (.ref D), some (.int j')] ∧ j' ≤ ws.length ∧ Same H H' ∧ H' D = some (.lst vs) ∧ Paired (ActAt H') vs as ∧ vs.length ≤ j' ∧ actsIn ws = (actsIn (ws.drop j')).map (as ++ ·), ?_, ?_⟩
      · rintro σ' H' ⟨j', as', vs', h1, h2, h3, h4⟩
        exact ⟨ws.length - j', by omega, j', as', vs', rfl, h2, h3, h4⟩
      · have e0 : ws[j]? = some ws[j] := List.getElem?_eq_getElem hlt
        have ed : ws.drop j = ws[j] :: ws.drop (j + 1) := List.drop_eq_getElem_cons hlt
        have sl : 2 ^ 20 < sizeLine := by decide +kernel
        have add : ∀ (H2 : Hp) (q : Addr) (a : Act), Same H1 H2 → H2 q = none → (upd H2 q (.tup (actV a))) D = some (.lst vs) ∧ Same H (upd (upd H2 q (.tup (actV a))) D (.lst (vs ++ [.ref q]))) ∧ Paired (ActAt (upd (upd H2 q (.tup (actV a))) D (.lst (vs ++ [.ref q])))) (vs ++ [.ref q]) (as ++ [a]) := by
          intro H2 q a s12 hq
          have hd' := s12 D _ hd
          have hne : q ≠ D := fun z => by rw [z, hd'] at hq; cases hq
          refine ⟨by rw [upd_ne (Ne.symm hne)]; exact hd', ?_, ?_⟩
          · intro b o hb
            have h1 := s12 b o (s1 b o hb)
            rw [upd_ne (ne_of_none hb hD), upd_ne (ne_of_none h1 hq)]
            exact h1
          · have kt : Kt H1 (upd (upd H2 q (.tup (actV a))) D (.lst (vs ++ [.ref q]))) := by
              intro b xs hb
              have hb' := s12 b _ hb
              rw [upd_ne (ne_of hb' hd' (by intro z; cases z)), upd_ne (ne_of_none hb' hq)]
              exact hb'
            exact Paired.snoc (paired_mono (fun _ _ f => f.mono kt) pr) ⟨q, rfl, by rw [upd_ne hne]; exact upd_same⟩
        have at0 : atI (ws.map V.str) (j : Int) = some (.str ws[j]) := atI_nat (by rw [List.getElem?_map, e0] <;> rfl)
        refine ⟨_, rfl, _, rfl, _, _, _, _, rfl, rfl, s1.seq hp, at0, rfl, _, rfl, ?_⟩
        by_cases hr1 : ws[j] = sRaise
        · have e : decide (V.str ws[j] = V.str "raise") = true := decide_eq_true (by rw [hr1])
          show if decide (V.str ws[j] = V.str "raise") = true then _ else _
          rw [e]
          refine iteT ?_
          refine ⟨_, rfl, .inl ⟨rfl, _, SqL.of hd⟩, by decide, fun q hq => ?_⟩
          obtain ⟨a1, a2, a3⟩ := add H1 q .raise (Same.refl _) hq
          refine ⟨_, _, _, rfl, rfl, a1, by omega, ?_⟩
          refine ⟨_, rfl, _, _, rfl, rfl, ?_⟩
          refine ⟨j + 1, as ++ [Act.raise], vs ++ [V.ref q], by omega, by rfl, by omega, a2, upd_same, a3, by simp; omega, ?_⟩
          rw [ea, ed, hr1, actsIn_raise, Option.map_map]
          congr 1
          funext x
          simp
        · have e : decide (V.str ws[j] = V.str "raise") = false := decide_eq_false (fun z => hr1 (by injection z))
          show if decide (V.str ws[j] = V.str "raise") = true then _ else _
          rw [e]
          refine iteF ?_
          refine ⟨_, rfl, _, rfl, _, _, _, _, rfl, rfl, s1.seq hp, at0, ?_⟩
          have none_of : ∀ H', Same H H' → actsIn (ws.drop j) = none → Q .non H' := by
            intro H' s' e1
            refine k H' .non s' ?_
            rw [ea, e1]
            rfl
          refine ⟨by decide, fun q hq => ?_⟩
          refine ⟨_, _, rfl, .inr (SqT.of upd_same), rfl, by decide +kernel, _, rfl, ?_⟩
          show if inV (.str ws[j]) [.str "add", .str "cut", .str "emit"] = true then _ else _
          rw [inV_w3]
          have s2 : Same H (upd H1 q (.tup [.str "add", .str "cut", .str "emit"])) := s1.trans (Same.new hq)
          have hd2 : (upd H1 q (.tup [.str "add", .str "cut", .str "emit"])) D = some (.lst vs) := Same.new hq D _ hd
          cases ew : w3 ws[j] with
          | none =>
            refine iteF ?_
            refine none_of _ s2 ?_
            rw [ed]
            exact actsIn_bad hr1 (.inl ew)
          | some wd =>
            refine iteT ?_
            refine ⟨_, rfl, _, _, rfl, rfl, _, rfl, _, _, rfl, .inl (s2.seq hp), _, _, rfl, rfl, _, rfl, ?_⟩
            rw [List.length_map]
            by_cases hlt2 : j + 1 < ws.length
            · rw [decide_eq_true (show (j : Int) + 1 < (ws.length : Int) by omega)]
              refine iteT ?_
              have e2 : ws[j + 1]? = some ws[j + 1] := List.getElem?_eq_getElem hlt2
              have ed2 : ws.drop (j + 1) = ws[j + 1] :: ws.drop (j + 2) := List.drop_eq_getElem_cons hlt2
              have at1 : atI (ws.map V.str) ((j : Int) + 1) = some (.str ws[j + 1]) := atI_nat (j := j + 1) (by rw [List.getElem?_map, e2] <;> rfl)
              refine ⟨_, rfl, _, rfl, _, _, rfl, rfl, _, _, _, _, rfl, rfl, s2.seq hp, at1, _, rfl, hz _ (List.getElem_mem hlt2), rfl, _, rfl, ?_⟩
              cases en : numIn ws[j + 1] with
              | none =>
                refine iteF ?_
                refine none_of _ s2 ?_
                rw [ed, ed2]
                exact actsIn_bad hr1 (.inr (.inr ⟨_, _, rfl, en⟩))
              | some n =>
                refine iteT ?_
                refine ⟨_, rfl, .inl ⟨rfl, _, SqL.of hd2⟩, ?_⟩
                refine ⟨_, rfl, _, rfl, _, _, _, _, rfl, rfl, s2.seq hp, at0, _, rfl, _, rfl, _, _, rfl, rfl, _, _, _, _, rfl, rfl, s2.seq hp, at1, _, rfl, hz _ (List.getElem_mem hlt2), ?_⟩
                rw [en]
                refine ⟨(by show 2 ≤ sizeLine; decide), fun q2 hq2 => ?_⟩
                obtain ⟨a1, a2, a3⟩ := add _ q2 (.num wd n) (Same.new hq) hq2
                rw [w3_some ew]
                refine ⟨_, _, _, rfl, rfl, a1, by omega, ?_⟩
                refine ⟨_, rfl, _, _, rfl, rfl, ?_⟩
                refine ⟨j + 2, as ++ [Act.num wd n], vs ++ [V.ref q2], by omega, by rfl, by omega, a2, upd_same, a3, by simp; omega, ?_⟩
                rw [ea, ed, ed2, actsIn_num ew en, Option.map_map]
                congr 1
                funext x
                simp
            · rw [decide_eq_false (show ¬ (j : Int) + 1 < (ws.length : Int) by omega)]
              refine iteF ?_
              refine none_of _ s2 ?_
              rw [ed]
              exact actsIn_bad hr1 (.inr (.inl (List.drop_eq_nil_of_le (by omega))))
    · rw [decide_eq_false (show ¬ (j : Int) < (ws.length : Int) by omega)]
      refine iteF ?_
      have ej : j = ws.length := by omega
      subst ej
      rw [List.drop_length] at ea
      refine ⟨_, rfl, _, _, rfl, .inl ⟨.inl (.inl hd), fun l hl => ?_⟩⟩
      refine k _ _ (s1.trans (Same.new hl)) ?_
      rw [ea]
      show ActsAt _ _ (as ++ [])
      rw [List.append_nil]
      exact ⟨l, vs, rfl, upd_same, paired_mono (fun _ _ f => f.mono (Kt.of (Same.new hl))) pr⟩
end K5
set_option Elab.async false
set_option linter.all false
set_option maxRecDepth 100000
set_option maxHeartbeats 4000000
namespace K5
open PySem PySem.Spec PyProof.Rows L2
variable {P : Program} {w : World} {K : PySem.W.Frag} {mg : Str → Option Value} {base : Heap}
/-! ### kind_in -/
theorem scKindIn : FnScope ["words", "events", "event", "acts"] ["words", "events"] (defScope sKindIn) := ⟨rfl, rfl, rfl, by decide +kernel, rfl, by decide +kernel, by decide +kernel⟩
def KindR (H : Hp) (v : V) : Option Kind → Prop
  | some k => KindAt H v k
  | none => v = .non
def spKindIn (K : PySem.W.Frag) : Sp := fun vs H Q _ => ∃ (p : Addr) (ws : List Str) (ev : Nat), vs = [.ref p, .int ev] ∧ SqL K H p (ws.map V.str) ∧ ws.length < 2 ^ 20 ∧ (∀ z ∈ ws, z.length ≤ sizeLine) ∧ ∀ H' v, Same H H' → KindR H' v (kindIn ev ws) → Q v H'
theorem cl_kindIn (T : Txt w K mg) (C_number_in : Cl P w K mg base CX0 1 "number_in" spNumberIn) (C_acts_in : Cl P w K mg base CX0 2 "acts_in" (spActsIn K)) : Cl P w K mg base CX0 3 "kind_in" (spKindIn K) := by
  refine cl_def T (i := 33) (j := 19) rfl (by decide +kernel) scKindIn (fun _ _ _ _ _ _ us hl => match us, hl with | [_, _], _ => rfl) (fun vs H Q E h => ?_) (fun cdv A outer s H vs Q E hr h => ?_)
  · obtain ⟨p, ws, ev, rfl, _⟩ := h
    rfl
  · obtain ⟨p, ws, ev, rfl, hp, hn, hz, k⟩ := h
    refine ⟨_, (pss_cons (ps_if (PW.pt (pw_or (pt_cmpR op_lt (pe_callB call_len_seq (by rfl) (fr T "len") boot_len (pa_cons (pv 0) pa_nil)) pe_int (nomark _)) (pw_or (pt_cmpR op_ne (pe_ix ix_list (pv 0) pe_int (fun _ _ => rfl)) pe_str (nomark _)) (pw_or1 (pt_cmpR op_notIn_seq (pe_ix ix_list (pv 0) pe_int (fun _ _ => rfl)) (pe_tup (pa_cons pe_str (pa_cons pe_str pa_nil))) (by rfl)))))) (pss_one (ps_ret pe_non)) pss_nil)
      (pss_cons (ps_par (i := 2) (j := 3) rfl scKindIn.nd rfl rfl (by decide) rfl rfl (pa_cons (pe_cl C_number_in hr (by decide) pass0 rfl (pa_cons (pe_ix ix_list (pv 0) pe_int (fun _ _ => rfl)) pa_nil)) (pa_cons (pe_cl C_acts_in hr (by decide) pass0 rfl (pa_cons (pe_slice sl_list (pv 0) (po_some pe_int) po_none) pa_nil)) pa_nil)) (by rfl))
      (pss_cons (ps_if (PW.pt (pw_or (pt_cmpR op_isN (pv 2) pe_non (nomark _)) (pw_or (pt_cmpR op_ge (pv 2) (pv 1) (nomark _)) (pw_or1 (pt_cmpR op_isN (pv 3) pe_non (nomark _)))))) (pss_one (ps_ret pe_non)) pss_nil)
      (pss_one (ps_ret (pe_tup (pa_cons (pv 2) (pa_cons (pe_cmpR op_eq (pe_ix ix_list (pv 0) pe_int (fun _ _ => rfl)) pe_str (nomark _)) (pa_cons (pv 3) pa_nil))))))))), ?_⟩
    refine ⟨_, rfl, _, _, rfl, .inl hp, _, _, rfl, rfl, _, rfl, ?_⟩
    rw [List.length_map]
    have bad : ∀ H', Same H H' → kindIn ev ws = none → Q .non H' := fun H' s e => k H' .non s (by rw [e]; rfl)
    match ws, hp, hn, hz, k, bad with
    | [], hp, hn, hz, k, bad => exact iteT (bad _ (Same.refl _) rfl)
    | [a], hp, hn, hz, k, bad => exact iteT (bad _ (Same.refl _) rfl)
    | [a, b], hp, hn, hz, k, bad => exact iteT (bad _ (Same.refl _) rfl)
    | kk :: e :: o :: r, hp, hn, hz, k, bad =>
      rw [decide_eq_false (show ¬ (((kk :: e :: o :: r).length : Nat) : Int) < 3 by simp; omega)]
      refine iteF ?_
      have a0 : atI ((kk :: e :: o :: r).map V.str) (0 : Int) = some (.str kk) := atI_nat (j := 0) rfl
      have a1 : atI ((kk :: e :: o :: r).map V.str) (1 : Int) = some (.str e) := atI_nat (j := 1) rfl
      have a2 : atI ((kk :: e :: o :: r).map V.str) (2 : Int) = some (.str o) := atI_nat (j := 2) rfl
      refine ⟨_, rfl, _, _, _, _, rfl, rfl, hp, a0, rfl, _, rfl, ?_⟩
      by_cases h1 : kk = sKind
      · subst h1
        refine iteF ?_
        refine ⟨_, rfl, _, _, _, _, rfl, rfl, hp, a2, by decide, fun q hq => ?_⟩
        refine ⟨_, _, rfl, .inr (SqT.of upd_same), rfl, by decide +kernel, _, rfl, ?_⟩
        have s1 : Same H (upd H q (.tup [.str "once", .str "always"])) := Same.new hq
        by_cases h2 : o = sOnce ∨ o = sAlways
        · have e2 : inV (.str o) [.str "once", .str "always"] = true := by rcases h2 with rfl | rfl <;> decide +kernel
          show if (!inV (.str o) [.str "once", .str "always"]) = true then _ else _
          rw [e2]
          refine iteF ?_
          refine ⟨_, rfl, _, _, _, _, rfl, rfl, s1.seq hp, a1, _, rfl, hz e (by simp), ?_⟩
          refine ⟨_, rfl, _, rfl, _, _, rfl, s1.seq hp, fun q2 hq2 => ?_⟩
          have ec : cutV ((sKind :: e :: o :: r).map V.str) (some 3) none = r.map V.str := by
            rw [show (some 3 : Option Int) = some ((3 : Nat) : Int) from rfl, cut_from]
            rfl
          rw [ec]
          refine ⟨_, r, rfl, SqL.of upd_same, by simp at hn; omega, fun z h => hz z (by simp [h]), fun H3 v s3 hv => ?_⟩
          have s4 : Same H H3 := (Same.new' s1 hq2).trans s3
          refine ⟨_, _, rfl, ?_⟩
          have ki : kindIn ev (sKind :: e :: o :: r) = (match numIn e, actsIn r with
            | some n, some as => if n < ev then some ⟨n, decide (o = sOnce), as⟩ else none
            | _, _ => none) := by
            show (if sKind = sKind ∧ (o = sOnce ∨ o = sAlways) then _ else _) = _
            rw [if_pos ⟨rfl, h2⟩] <;> rfl
          cases en : numIn e with
          | none =>
            refine ⟨_, rfl, rfl, _, rfl, ?_⟩
            refine iteT (bad _ s4 ?_)
            rw [ki, en]
          | some n =>
            refine ⟨_, rfl, rfl, _, rfl, ?_⟩
            refine iteF ?_
            refine ⟨_, rfl, _, rfl, _, _, rfl, rfl, _, rfl, ?_⟩
            by_cases hlt : n < ev
            · rw [decide_eq_false (show ¬ (ev : Int) ≤ (n : Int) by omega)]
              refine iteF ?_
              refine ⟨_, rfl, rfl, _, rfl, ?_⟩
              cases ea : actsIn r with
              | none =>
                rw [ea] at hv
                have hv' : v = .non := hv
                subst hv'
                refine iteT (bad _ s4 ?_)
                rw [ki, en, ea]
              | some as =>
                rw [ea] at hv
                obtain ⟨pa, va, hv1, hv2, hv3⟩ := hv
                subst hv1
                refine iteF ?_
                refine ⟨_, rfl, _, rfl, _, _, _, _, rfl, rfl, s4.seq hp, a2, rfl, _, rfl, (by show 3 ≤ sizeLine; decide), fun q4 hq4 => ?_⟩
                have s5 := Same.new (o := .tup [.int n, .bl (decide (V.str o = V.str "once")), .ref pa]) hq4
                refine k _ _ (s4.trans s5) ?_
                rw [ki, en, ea]
                show KindR _ _ (if n < ev then some ⟨n, decide (o = sOnce), as⟩ else none)
                rw [if_pos hlt]
                have eo : decide (V.str o = V.str "once") = decide (o = sOnce) := by
                  by_cases z : o = sOnce
                  · rw [decide_eq_true z, z] <;> rfl
                  · rw [decide_eq_false z, decide_eq_false (fun y => z (by injection y))]
                refine ⟨q4, .ref pa, rfl, ?_, ⟨pa, va, rfl, s5 _ _ hv2, paired_mono (fun _ _ f => f.mono (Kt.of s5)) hv3⟩⟩
                rw [upd_same, eo] <;> rfl
            · rw [decide_eq_true (show (ev : Int) ≤ (n : Int) by omega)]
              refine iteT (bad _ s4 ?_)
              rw [ki, en]
              cases actsIn r with
              | none => rfl
              | some as => exact if_neg hlt
        · have e2 : inV (.str o) [.str "once", .str "always"] = false := by
            simp only [not_or] at h2
            simp [inV, eqV, h2.1, h2.2, Ne.symm h2.1, Ne.symm h2.2]
          show if (!inV (.str o) [.str "once", .str "always"]) = true then _ else _
          rw [e2]
          refine iteT (bad _ s1 ?_)
          show (if sKind = sKind ∧ (o = sOnce ∨ o = sAlways) then _ else _) = _
          rw [if_neg (fun z => h2 z.2)]
      · have e1 : (!decide (V.str kk = V.str "kind")) = true := by rw [decide_eq_false (fun z => h1 (by injection z))] <;> rfl
        show if (!decide (V.str kk = V.str "kind")) = true then _ else _
        rw [e1]
        refine iteT (bad _ (Same.refl _) ?_)
        show (if kk = sKind ∧ (o = sOnce ∨ o = sAlways) then _ else _) = _
        rw [if_neg (fun z => h1 z.1)]
end K5
set_option Elab.async false
set_option linter.all false
set_option maxRecDepth 100000
set_option maxHeartbeats 4000000
namespace K5
open PySem PySem.Spec PyProof.Rows L2
variable {P : Program} {w : World} {K : PySem.W.Frag} {mg : Str → Option Value} {base : Heap}
/-! ### is_head, is_value -/
theorem inV_strs (b : Str) : ∀ l : List Str, inV (.str b) (l.map V.str) = decide (b ∈ l)
  | [] => by simp [inV]
  | a :: r => by
    have ih := inV_strs b r
    unfold inV at ih ⊢
    rw [List.map_cons, List.any_cons, ih]
    by_cases h : b = a
    · subst h
      simp [eqV]
    · simp [eqV, h, Ne.symm h, fun z : a = b => h z.symm]
theorem flat_strs : ∀ l : List Str, (l.map V.str).all flatV = true
  | [] => rfl
  | a :: r => by
    rw [List.map_cons, List.all_cons, flat_strs r]
    rfl
theorem ruleAt (T : Txt w K mg) {j : Nat} (h : j < 7) (h1 : j ≠ 1) : ∃ t, PySem.W.nsIn K (He.ga K "RULES") (names.getD j NO) = some (some (.ref t)) ∧ ∀ H, SqT K H t ((vals.getD j []).map V.str) := by
  match j, h, h1 with
  | 0, _, _ => exact T.rv ("walk", _) (.head _)
  | 2, _, _ => exact T.rv ("errors", _) (.tail _ (.tail _ (.head _)))
  | 3, _, _ => exact T.rv ("once", _) (.tail _ (.tail _ (.tail _ (.head _))))
  | 4, _, _ => exact T.rv ("same", _) (.tail _ (.tail _ (.tail _ (.tail _ (.head _)))))
  | 5, _, _ => exact T.rv ("put", _) (.tail _ (.tail _ (.tail _ (.tail _ (.tail _ (.head _))))))
  | 6, _, _ => exact T.rv ("nest", _) (.tail _ (.tail _ (.tail _ (.tail _ (.tail _ (.tail _ (.head _)))))))
theorem nodup_rules : ruleNames.Nodup := by decide +kernel
theorem nodup_truths : (["no", "yes"] : List Str).Nodup := by decide +kernel
theorem names_eq : ruleNames = names := rfl
theorem scIsHead : FnScope ["row", "words", "number", "name", "is_fine"] ["row", "words"] (defScope sIsHead) := ⟨rfl, rfl, rfl, by decide +kernel, rfl, by decide +kernel, by decide +kernel⟩
def spIsHead (K : PySem.W.Frag) : Sp := fun vs H Q _ => ∃ (p : Addr) (ws : List Str) (i : Nat), vs = [.int i, .ref p] ∧ SqL K H p (ws.map V.str) ∧ i < 8 ∧ (∀ z ∈ ws, z.length ≤ sizeLine) ∧ ∀ H', Same H H' → Q (.bl (headOk i ws)) H'
theorem cl_isHead (T : Txt w K mg) (C_number_in : Cl P w K mg base CX0 1 "number_in" spNumberIn) : Cl P w K mg base CX0 2 "is_head" (spIsHead K) := by
  refine cl_def T (i := 34) (j := 20) rfl (by decide +kernel) scIsHead (fun _ _ _ _ _ _ us hl => match us, hl with | [_, _], _ => rfl) (fun vs H Q E h => ?_) (fun cdv A outer s H vs Q E hr h => ?_)
  · obtain ⟨p, ws, i, rfl, _⟩ := h
    rfl
  · obtain ⟨p, ws, i, rfl, hp, hi, hz, k⟩ := h
    have hsz : ruleNames.length ≤ sizeLine := by decide +kernel
    refine ⟨_, (pss_cons (ps_if (pt_cmpR op_ne (pe_callB call_len_seq (by rfl) (fr T "len") boot_len (pa_cons (pv 1) pa_nil)) pe_int (nomark _)) (pss_one (ps_ret pe_bl)) pss_nil)
      (pss_cons (ps_if (pt_cmpR op_eq (pv 0) pe_int (nomark _)) (pss_cons (ps_set (i := 2) scIsHead.nd rfl (by first | exact Or.inl rfl | exact Or.inr rfl) (pe_cl C_number_in hr (by decide) pass0 rfl (pa_cons (pe_ix ix_list (pv 1) pe_int (fun _ _ => rfl)) pa_nil)))
      (pss_one (ps_ret (pe_and (pe_cmpR op_eq (pe_ix ix_list (pv 1) pe_int (fun _ _ => rfl)) pe_str (nomark _)) (pe_and (pe_cmpR op_notN (pv 2) pe_non (nomark _)) (pe_one (pe_chain op_le op_le pe_int (pv 2) (pInt T.mE rfl)))))))) pss_nil)
      (pss_cons (ps_set (i := 3) scIsHead.nd rfl (by first | exact Or.inl rfl | exact Or.inr rfl) (pe_ix ix_list (pe_callTy (call_list_tab rfl T.rk nodup_rules hsz) (by rfl) (fr T "list") PyProof.Rows.boot_list (pa_cons (pGlo T (by decide +kernel) rfl) pa_nil)) (pe_op op_sub (pv 0) pe_int) (fun _ _ => rfl)))
      (pss_cons (ps_set (i := 4) scIsHead.nd rfl (by first | exact Or.inl rfl | exact Or.inr rfl) (pe_ifExp (pt_cmpR op_eq (pv 3) pe_str (nomark _)) (pe_cmpR (op_in_tab T.tk nodup_truths) (pe_ix ix_list (pv 1) pe_int (fun _ _ => rfl)) (pGlo T (by decide +kernel) rfl) (by rfl)) (pe_cmpR op_in_seq (pe_ix ix_list (pv 1) pe_int (fun _ _ => rfl)) (pe_ix (ix_tab T.rk) (pGlo T (by decide +kernel) rfl) (pv 3) (fun _ _ => rfl)) (by rfl))))
      (pss_one (ps_ret (pe_and (pe_cmpR op_eq (pe_ix ix_list (pv 1) pe_int (fun _ _ => rfl)) (pv 3) (nomark _)) (pe_one (pv 4))))))))), ?_⟩
    refine ⟨_, rfl, _, _, rfl, .inl hp, rfl, _, rfl, ?_⟩
    rw [List.length_map]
    have kk : ∀ b H', Same H H' → b = headOk i ws → Q (.bl b) H' := fun b H' s e => qb (Q := Q) e (k H' s)
    match ws, hp, hz, k, kk with
    | [], hp, hz, k, kk => exact iteT (kk _ _ (Same.refl _) rfl)
    | [a], hp, hz, k, kk => exact iteT (kk _ _ (Same.refl _) rfl)
    | a :: b :: c :: r, hp, hz, k, kk =>
      have e : (!decide (V.int (((a :: b :: c :: r).length : Nat) : Int) = V.int 2)) = true := by
        rw [decide_eq_false (fun z => by injection z with z; simp at z; omega)] <;> rfl
      show if (!decide (V.int (((a :: b :: c :: r).length : Nat) : Int) = V.int 2)) = true then _ else _
      rw [e]
      exact iteT (kk _ _ (Same.refl _) rfl)
    | [a, b], hp, hz, k, kk =>
      refine iteF ?_
      have a0 : atI ([a, b].map V.str) (0 : Int) = some (.str a) := atI_nat (j := 0) rfl
      have a1 : atI ([a, b].map V.str) (1 : Int) = some (.str b) := atI_nat (j := 1) rfl
      refine ⟨_, rfl, rfl, _, rfl, ?_⟩
      cases i with
      | zero =>
        refine iteT ?_
        refine ⟨_, rfl, _, _, _, _, rfl, rfl, hp, a1, _, rfl, hz b (by simp), ?_⟩
        refine ⟨_, rfl, _, _, _, _, rfl, rfl, hp, a0, rfl, _, rfl, ?_⟩
        by_cases h0 : a = sEvents
        · refine iteT' (decide_eq_true (by rw [h0])) ?_
          cases en : numIn b with
          | none => exact ⟨_, rfl, rfl, _, rfl, iteF (kk _ _ (Same.refl _) (by
              show false = (decide (a = sEvents) && (match numIn b with | some n => decide (1 ≤ n) && decide (n ≤ 3) | none => false))
              rw [en, Bool.and_false]))⟩
          | some n =>
            refine ⟨_, rfl, rfl, _, rfl, ?_⟩
            refine iteT ?_
            refine ⟨_, rfl, _, _, rfl, rfl, _, rfl, ?_⟩
            have e0 : headOk 0 [a, b] = (decide (1 ≤ n) && decide (n ≤ 3)) := by
              show (decide (a = sEvents) && (match numIn b with | some n => decide (1 ≤ n) && decide (n ≤ 3) | none => false)) = _
              rw [en, decide_eq_true h0, Bool.true_and]
            by_cases h1 : 1 ≤ n
            · refine iteT' (decide_eq_true (by omega)) ?_
              refine ⟨_, _, rfl, rfl, kk _ _ (Same.refl _) ?_⟩
              rw [e0, decide_eq_true h1, Bool.true_and]
              by_cases h3 : n ≤ 3
              · rw [decide_eq_true h3]; exact decide_eq_true (by omega)
              · rw [decide_eq_false h3]; exact decide_eq_false (by omega)
            · refine iteF' (decide_eq_false (by omega)) (kk _ _ (Same.refl _) ?_)
              rw [e0, decide_eq_false h1, Bool.false_and]
        · refine iteF' (decide_eq_false (fun z => h0 (by injection z))) (kk _ _ (Same.refl _) ?_)
          show false = (decide (a = sEvents) && _)
          rw [decide_eq_false h0, Bool.false_and]
      | succ j =>
        have e : decide (V.int ((j + 1 : Nat) : Int) = V.int 0) = false := decide_eq_false (fun z => by injection z with z; omega)
        show if decide (V.int ((j + 1 : Nat) : Int) = V.int 0) = true then _ else _
        rw [e]
        refine iteF ?_
        have hj : j < 7 := by omega
        have an : atI (ruleNames.map V.str) ((j + 1 : Nat) - 1 : Int) = some (.str (names.getD j NO)) := by
          rw [show (((j + 1 : Nat) : Int) - 1) = (j : Int) by omega]
          exact atI_nat (by rw [names_eq, List.getElem?_map, List.getElem?_eq_getElem (show j < names.length from hj)]; simp [List.getD, List.getElem?_eq_getElem (show j < names.length from hj)])
        refine ⟨rfl, fun q hq => ?_⟩
        refine ⟨_, rfl, _, _, rfl, rfl, _, _, _, _, rfl, rfl, SqL.of upd_same, an, ?_⟩
        have s1 : Same H (upd H q (.lst (ruleNames.map V.str))) := Same.new hq
        have ho : headOk (j + 1) [a, b] = (decide (a = names.getD j NO) && decide (b ∈ vals.getD j [])) := rfl
        have finT : a = names.getD j NO → ∀ H', Same H H' → ∀ fine : Bool, fine = decide (b ∈ vals.getD j []) → Q (.bl fine) H' := fun h0 H' s' fine e => kk _ _ s' (by rw [ho, decide_eq_true h0, Bool.true_and, e])
        have finF : ¬ a = names.getD j NO → ∀ H', Same H H' → Q (.bl false) H' := fun h0 H' s' => kk _ _ s' (by rw [ho, decide_eq_false h0, Bool.false_and])
        refine ⟨_, rfl, rfl, _, rfl, ?_⟩
        by_cases j1 : j = 1
        · subst j1
          refine iteT' (by decide +kernel) ?_
          refine ⟨_, rfl, _, _, _, _, rfl, rfl, s1.seq hp, a1, _, rfl, rfl, ?_⟩
          refine ⟨_, rfl, _, _, _, _, rfl, rfl, s1.seq hp, a0, _, rfl, rfl, _, rfl, ?_⟩
          by_cases h0 : a = names.getD 1 NO
          · exact iteT' (decide_eq_true (by rw [h0])) ⟨_, rfl, finT h0 _ s1 _ rfl⟩
          · exact iteF' (decide_eq_false (fun z => h0 (by injection z))) (finF h0 _ s1)
        · refine iteF' (decide_eq_false (fun z => ?_)) ?_
          · have z' : names.getD j NO = "check" := by injection z
            match j, hj, j1, z' with
            | 0, _, _, z' => exact absurd z' (by decide +kernel)
            | 2, _, _, z' => exact absurd z' (by decide +kernel)
            | 3, _, _, z' => exact absurd z' (by decide +kernel)
            | 4, _, _, z' => exact absurd z' (by decide +kernel)
            | 5, _, _, z' => exact absurd z' (by decide +kernel)
            | 6, _, _, z' => exact absurd z' (by decide +kernel)
          obtain ⟨t, ht1, ht2⟩ := ruleAt T hj j1
          refine ⟨_, rfl, _, _, _, _, rfl, rfl, s1.seq hp, a1, _, rfl, _, _, .ref t, rfl, rfl, ht1, rfl, ?_⟩
          refine ⟨_, _, rfl, .inr (ht2 _), rfl, flat_strs _, ?_⟩
          rw [inV_strs]
          refine ⟨_, rfl, _, _, _, _, rfl, rfl, s1.seq hp, a0, _, rfl, rfl, _, rfl, ?_⟩
          by_cases h0 : a = names.getD j NO
          · exact iteT' (decide_eq_true (by rw [h0])) ⟨_, rfl, finT h0 _ s1 _ rfl⟩
          · exact iteF' (decide_eq_false (fun z => h0 (by injection z))) (finF h0 _ s1)
/-! ### is_value: a written name; a text or a truth -/
theorem scIsValue : FnScope ["name", "thing"] ["name", "thing"] (defScope sIsValue) := ⟨rfl, rfl, rfl, by decide +kernel, rfl, by decide +kernel, by decide +kernel⟩
/-- the value of rule j, as Python has it -/
def rv (j : Nat) (v : Str) : V := if j = 1 then .bl (decide (v = "yes")) else .str v
def spIsValue : Sp := fun vs H Q _ => ∃ (j : Nat) (v : Str), vs = [.str (names.getD j NO), rv j v] ∧ j < 7 ∧ v ∈ vals.getD j [] ∧ Q (.bl true) H
theorem cl_isValue (T : Txt w K mg) : Cl P w K mg base CX0 1 "is_value" spIsValue := by
  refine cl_def T (i := 13) (j := 1) rfl (by decide +kernel) scIsValue (fun _ _ _ _ _ _ us hl => match us, hl with | [_, _], _ => rfl) (fun vs H Q E h => ?_) (fun cdv A outer s H vs Q E hr h => ?_)
  · obtain ⟨j, v, rfl, _⟩ := h
    rfl
  · obtain ⟨j, v, rfl, hj, hv, k⟩ := h
    refine ⟨_, (pss_cons (ps_if (pt_cmpR op_eq (pv 0) pe_str (nomark _)) (pss_one (ps_ret (isi T (pa_cons (pv 1) (pa_cons (tyBool T) pa_nil))))) pss_nil)
      (pss_one (ps_ret (pe_and (isi T (pa_cons (pv 1) (pa_cons (tyStr T) pa_nil))) (pe_one (pe_cmpR op_in_seq (pv 1) (pe_ix (ix_tab T.rk) (pGlo T (by decide +kernel) rfl) (pv 0) (fun _ _ => rfl)) (by rfl))))))), ?_⟩
    refine ⟨_, rfl, rfl, _, rfl, ?_⟩
    by_cases j1 : j = 1
    · subst j1
      refine iteT' (by decide +kernel) ?_
      exact ⟨_, rfl, _, _, _, _, _, rfl, .ty _, .base (.bl _), kbb, k⟩
    · have e : rv j v = .str v := if_neg j1
      refine iteF' (decide_eq_false (fun z => ?_)) ?_
      · have z' : names.getD j NO = "check" := by injection z
        match j, hj, j1, z' with
        | 0, _, _, z' => exact absurd z' (by decide +kernel)
        | 2, _, _, z' => exact absurd z' (by decide +kernel)
        | 3, _, _, z' => exact absurd z' (by decide +kernel)
        | 4, _, _, z' => exact absurd z' (by decide +kernel)
        | 5, _, _, z' => exact absurd z' (by decide +kernel)
        | 6, _, _, z' => exact absurd z' (by decide +kernel)
      · obtain ⟨t, ht1, ht2⟩ := ruleAt T hj j1
        rw [e]
        refine ⟨_, rfl, _, _, _, _, _, rfl, .ty _, .base (.str _), kst, _, rfl, ?_⟩
        refine iteT ?_
        refine ⟨_, rfl, _, rfl, _, _, .ref t, rfl, rfl, ht1, rfl, ?_⟩
        refine ⟨_, _, rfl, .inr (ht2 _), rfl, flat_strs _, ?_⟩
        rw [inV_strs, decide_eq_true hv]
        exact k
end K5
set_option Elab.async false
set_option linter.all false
set_option maxRecDepth 100000
set_option maxHeartbeats 4000000
/-! The row's own errors: super().__init__(x); self.f = x. -/
namespace K5
open PySem PySem.W PySem.Calls PyProof.Rows PySem.HandSPX PySem.Spec L2
/-- the program's main file and names, as super() asks -/
structure PrgOk (P : Program) : Prop where
  file : P.main.file = mfile
  sup : (P.main.scope.names.lookup ("super" : Str)).isSome = false
/-- what __init__ leaves of a fresh exception at x -/
structure InitEnd (f : Str) (h h' : Heap) (x C dx t1 : Addr) (v : Value) : Prop where
  keep : ∀ b o, b ≠ x → h.get? b = some o → h'.get? b = some o
  obj : h'.get? x = some { cls := .ref C, dict := some dx, data := .fields #[.ref t1, .none, .none, .none, .bool false, .none] }
  dbig : h.objs.size ≤ dx
  dne : dx ≠ x
  ns : h'.Ns1 dx (fun y => if y = f then some v else none)
/-- a made one -/
structure OwnMade (f : Str) (h h' : Heap) (e C d : Addr) (v : Value) : Prop where
  keep : ∀ b o, h.get? b = some o → h'.get? b = some o
  new : h.objs.size ≤ e
  obj : ∃ t1 : Addr, h'.get? e = some { cls := .ref C, dict := some d, data := .fields #[.ref t1, .none, .none, .none, .bool false, .none] }
  dbig : h.objs.size ≤ d
  dne : d ≠ e
  ns : h'.Ns1 d (fun y => if y = f then some v else none)
section
variable {prog : Program} {w : World} {A : Around} {E : Value → Shared → Prop} {h : Heap} {g : Array GenState} {d : Drawn} {t : Nat} {os : OsState}
variable {nm q : Str} {C N : Addr} {bs bm : List Value} {hdct : Bool} {sn : List Str} {sub : List Value} {ab : Bool} {col : Option Bool} {dd : Option Addr} {k0 k1 k2 k3 k5 : Option Value}
theorem call_ve {u e t0 : Addr} {rest : List Value} {Q : Value → Shared → Prop}
    (hC : h.get? C = some (excClassObj nm q C N bs bm hdct sn sub ab col dd k0 k1 k2 k3 k5 "ValueError.__new__")) (he : h.get? e = some (excO C t0)) (hu : h.get? u = some (kxs_mw "ValueError.__init__" e)) (hrest : rest.length ≤ sizeLine)
    (hq : ∀ h' t1, (∀ b o, b ≠ e → h.get? b = some o → h'.get? b = some o) → h'.get? e = some (excO C t1) → Q .none ⟨h', g, d, t, os⟩) :
    wpAny (model prog w) A (call (.ref u) rest) Q E ⟨h, g, d, t, os⟩ := by
  refine wpAny_call (codeAny_of_tree ?_)
  show wpAny _ A.in1 (callAny (.ref u) ⟨rest, []⟩) _ _ _
  simp only [callAny]
  refine wpAny_bind (wpAny_load hu ?_)
  simp only [kxs_mw, show (Value.type "method-wrapper" == Value.type "method" || Value.type "method-wrapper" == Value.type "builtin_function_or_method" || Value.type "method-wrapper" == Value.type "method-wrapper") = true by decide, if_true]
  refine KFB.if_so (by decide) ?_
  refine wpAny_bind (check_bound_init F.excBase_ValueError.toExcCallFacts hC he rfl ?_)
  refine wpAny_bind (wpAny_pure (wpAny_pure ?_))
  refine ⟨plainId_quiet F.excBase_ValueError.init.plain _, codeAny_builtin F.excBase_ValueError.initEntry ?_⟩
  exact exc_init_tree (cls := .ref C) (t0 := t0) (dv := none) (c2 := .none) (c3 := .none) (b4 := .bool false) he hrest fun h' k e' _ => hq h' _ k e'
end
theorem size1 (v : Value) : [v].length ≤ sizeLine := by
  rw [sizeLine_eq]
  exact (by decide : 1 ≤ 16777216)
theorem relO1 {n : Str} {v : V} {v' : Value} (r : L2.RelV v v') (f : Str) : RelO (List.lookup f [(n, v)]) (if f = n then some v' else none) := by
  by_cases hw : f = n
  · subst hw
    rw [if_pos rfl]
    have q : List.lookup f [(f, v)] = some v := by simp [List.lookup]
    rw [q]
    exact r
  · rw [if_neg hw]
    have qw : (f == n) = false := by simpa using hw
    have q2 : List.lookup f [(n, v)] = none := by simp [List.lookup, qw]
    rw [q2]
    trivial
theorem dp_of {A : Around} {k : Nat} (hr : Room k A) : A.depth + 1 < recursionLimit := by
  have := hr.dp
  omega
/-! ### BadHall -/
def iaBadHall (p1 p2 : Pos) : Arguments := { posonlyargs := [], args := [{ arg := "self", annotation := none, pos := p1 }, { arg := "part", annotation := none, pos := p2 }], vararg := none, kwonlyargs := [], kw_defaults := [], kwarg := none, defaults := [] }
def ibBadHall (p1 p2 p4 p6 q1 q2 q3 q4 : Pos) : List Stmt := [.Expr (.Call (.Attribute (.Call (.Name "super" p1) [] [] p2) "__init__" ⟨10, 8, 10, 24⟩) [.Name "part" p4] [] ⟨10, 8, 10, 30⟩) p6, .Assign [.Attribute (.Name "self" q1) "part" q2] (.Name "part" q3) q4]
def isBadHall : Scope := { kind := .function, names := [(PySem.Str.ofString "self", .local), (PySem.Str.ofString "part", .local), (PySem.Str.ofString "__class__", .free), (PySem.Str.ofString "super", .globalImplicit)], isGenerator := false, isCoroutine := false, more := [] }
theorem noCellBadHall : ∀ x ∈ isBadHall.names, x.2 ≠ .cell := by decide +kernel
theorem textBadHall : (∃ p1 p2, defArgs sBadHall = iaBadHall p1 p2) ∧ (∃ p1 p2 p4 p6 q1 q2 q3 q4, defBody sBadHall = ibBadHall p1 p2 p4 p6 q1 q2 q3 q4) ∧ defScope sBadHall = isBadHall := ⟨⟨_, _, rfl⟩, ⟨_, _, _, _, _, _, _, _, rfl⟩, rfl⟩
section
variable {prog : Program} {w : World} {A : Around} {E : Value → Shared → Prop} {R : Result → Shared → Prop} {s : Shared} {K : Frag} {mg : Str → Option Value} {base : Heap}
theorem initBadHall (T : ExcT K mg "BadHall" "part" sBadHall) (G : PrgOk prog) (M : Mod K mg base) (bk : ∀ b o, base.get? b = some o → s.heap.get? b = some o) (hms : mg "super" = none) {x t0 : Addr} {v : Value} (hlim : s.heap.NoLimit) (hx : s.heap.get? x = some (excO (He.ga K "BadHall") t0)) (hnx : K.lookup x = none) (hroom : A.depth < recursionLimit)
    (hq : ∀ h' tk dx t1, InitEnd "part" s.heap h' x (He.ga K "BadHall") dx t1 v → R (.ok (.ret .none)) { s with heap := h', toks := tk }) :
    codeAny (model prog w) A (.call (.ref (He.ma K (He.ga K "BadHall") "__init__")) ⟨[.ref x, v], []⟩) R s := by
  have X : K.In s.heap := fun a o e => bk _ _ (M.kin a o e)
  obtain ⟨oc, od, osl, fd, cc, co, cd, csl, ho, n1, n2, n3, n4, n5, n6, n7, n8, n9, n10, ⟨hcd, cda, ccl, cdd, vs, ccs, tf, ec, hcode, hvs⟩, hcell⟩ := T.fn
  obtain ⟨fname, fqual, fpar, fbody, fscope, fglob, fclo, fdef, fkwd, fdoc, fmod, fann, fcode, fct, fblt⟩ := fd
  dsimp only at n1 n2 n3 n4 n5 n6 n7 n8 n9 n10 hcd ec
  subst n1 n2 n3 n4 n5 n6 n7 n8 n9 n10 ec
  obtain ⟨⟨a1, a2, ea⟩, ⟨p1, p2, p4, p6, q1, q2, q3, q4, eb⟩, es⟩ := textBadHall
  rw [ea, eb, es] at ho
  obtain ⟨nm, q, N, bs, bm, sn, sub, ab, col, dd, k0, k1, k2, k3, k5, hC, hbm⟩ := T.oex.cls
  have hcl : clsIn K (He.ga K "BadHall") = some { name := nm, bases := bs, mro := .ref (He.ga K "BadHall") :: bm, ns := N, qualname := q, hasDict := true, slotNames := sn, subclasses := sub, abstract := ab, collection := col, hasDel := false } := by unfold clsIn; rw [hC] <;> rfl
  have hsub : mroIn K (He.ga K "BadHall") (.ref (He.ga K "BadHall")) = some true := by
    unfold mroIn
    rw [hcl]
    simp
  have hsup := T.sup
  unfold ks_superIn at hsup
  rw [hcl] at hsup
  refine ks_codeAny_call_defAt (body := ibBadHall p1 p2 p4 p6 q1 q2 q3 q4) (binds := [("self", .ref x), ("part", v)]) hroom (X _ _ ho) rfl hlim (codeRec_of X hcd) rfl (BindsTo.of_eq (by first | rfl | with_unfolding_all rfl)) noCellBadHall ?hloc (fun h₁ hns k => ?_)
  case hloc => exact locs rfl
  obtain ⟨mb, hb1, hb2⟩ := M.blt
  have X₁ : K.In h₁ := X.keeps k
  have hx₁ := k _ _ hx
  obtain ⟨hp, g, d, tk, os⟩ := s
  have vx : ((([("self", Value.ref x), ("part", v)] : List (Str × Value)).reverse).lookup ("self" : Str)) = some (.ref x) := by rfl
  have vf : ((([("self", Value.ref x), ("part", v)] : List (Str × Value)).reverse).lookup ("part" : Str)) = some v := by rfl
  refine ks_wpAt_execs_cons (ks_wpAt_Expr_any (ks_wpAt_MethodCall ?_))
  refine ks_wpAt_super_base (by rfl) (by rfl) rfl rfl (X₁ _ _ ho) rfl rfl rfl (X₁ _ _ hcode) rfl hvs (by rw [G.file]; exact beq_self_eq_true _) G.sup ?_
  refine ks_loadName_global (by rfl) (by rfl) (loadGlobal_builtin (M.glob.keeps fun b o e => k b o (bk b o e)) hms (hb1.keeps fun b o e => k b o (bk b o e)) ((hb2 _ (by decide +kernel)).trans (by first | boot_by_name | rfl | kernel_rfl)) ⟨rfl, ?_⟩)
  refine wpAny_loadName_free (by rfl) (by rfl) rfl ⟨_, X₁ _ _ hcell, rfl⟩ ?_
  refine wpAny_loadName_local (by rfl) (by rfl) hns vx ?_
  refine ks_wpAny_isType_cls (X₁ _ _ hC) rfl ⟨rfl, ?_⟩
  refine ks_wpAny_call_super (X₁ _ _ hC) rfl hx₁ rfl (fun c e => by cases e) (looks_mroIn X₁ hsub) (fun h₂ e₂ k₂ => ?_)
  have X₂ : K.In h₂ := X₁.keeps k₂
  have hx₂ := k₂ _ _ hx₁
  have hns₂ := hns.keeps k₂
  have hxC : x ≠ He.ga K "BadHall" := fun z => by
    have e := X₂ _ _ hC
    rw [← z, hx₂] at e
    cases e
  have I₂ : InstAt h₂ x (excO (He.ga K "BadHall") t0) (He.ga K "BadHall") none := ⟨hx₂, rfl, rfl, trivial⟩
  refine kxs_getMethod kxs_ValueError e₂ (looks_opaque X₂ T.sta) (l₀ := .ref (He.ga K "BadHall") :: bm) (fun A Q E s k q => wpAny_bind ((looks_clsIn X₂ hcl) A _ E s k (wpAny_pure q))) rfl X₂ hsup (I₂.type.andThen (looks_subIn X₂ T.sub)) hxC rfl ?_
  have hget : (h₂.push (kxs_mw "ValueError.__init__" x)).get? h₂.objs.size = some (kxs_mw "ValueError.__init__" x) := Heap.get?_push_size _ rfl
  have k₃ : ∀ b o, h₂.get? b = some o → (h₂.push (kxs_mw "ValueError.__init__" x)).get? b = some o := fun b o e => Heap.get?_push_of_some _ e
  refine kxs_callWith (i := "ValueError.__init__") (x := x) (by rfl) (evalArgs_plain ?_)
  have hns₃ := hns₂.keeps k₃
  refine spliced_cons (wpAny_Name (wpAny_loadName_local (by rfl) (by rfl) hns₃ vf ?_) (by decide))
  refine spliced_nil ⟨hget, ?_⟩
  refine call_ve (k₃ _ _ (X₂ _ _ hC)) (k₃ _ _ hx₂) hget (size1 v) (fun h₄ t1 k₄ hx₄ => ?_)
  show PySem.wpAt _ _ _ _ _ _ _
  refine wpAt_of_wpAny ?_
  have old : ∀ b o, b ≠ x → h₁.get? b = some o → h₄.get? b = some o := fun b o hb e => k₄ b o hb (k₃ b o (k₂ b o e))
  have X₄ : K.In h₄ := fun a o e => old a o (fun z => by rw [z, hnx] at e; cases e) (X₁ a o e)
  have hLx : hp.objs.size ≠ x := Nat.ne_of_gt (Heap.lt_size hx)
  have hns₄ : h₄.Ns hp.objs.size (fun y => ([("self", Value.ref x), ("part", v)] : List (Str × Value)).reverse.lookup y) := by
    obtain ⟨oL, es, ep, hL, r⟩ := hns₃
    exact ⟨oL, es, ep, k₄ _ _ hLx hL, r⟩
  show wpAny _ _ (execs _ _) _ _ _
  refine wpAny_execs_cons (plainObj_wpAny_Assign_Attribute ?_)
  refine wpAny_Name (wpAny_loadName_local (by rfl) (by rfl) hns₄ vf ?_) (by decide)
  refine wpAny_Name (wpAny_loadName_local (by rfl) (by rfl) hns₄ vx ?_) (by decide)
  refine set_plain X₄ (ox := excO (He.ga K "BadHall") t1) (od := none) ⟨hx₄, rfl, rfl, trivial⟩ T.oex.sa ?_
  refine exc_osa X₄ hx₄ hcl (show refsVE (.ref (He.ga K "BadHall") :: bm) = true from hbm) rfl T.noF (fun h₅ tk₅ dx k₅ dn dne hx₅ hn₅ => ?_)
  have big : hp.objs.size ≤ h₄.objs.size := by
    obtain ⟨oL, es, ep, hL, r⟩ := hns₄
    exact Nat.le_of_lt (Heap.lt_size hL)
  exact wpAny_execs_nil (hq h₅ tk₅ dx t1 ⟨fun b o hb e => k₅ b o hb (old b o hb (k b o e)), hx₅, Nat.le_trans big dn, dne, hn₅⟩)
theorem madeBadHall (T : ExcT K mg "BadHall" "part" sBadHall) (G : PrgOk prog) (M : Mod K mg base) (bk : ∀ b o, base.get? b = some o → s.heap.get? b = some o) (hms : mg "super" = none) {v : Value} (hlim : s.heap.NoLimit) (hroom : A.depth + 1 < recursionLimit)
    (hq : ∀ h' tk e d, OwnMade "part" s.heap h' e (He.ga K "BadHall") d v → R (.ok (.ret (.ref e))) { s with heap := h', toks := tk }) :
    codeAny (model prog w) A (.call (.ref (He.ga K "BadHall")) ⟨[v], []⟩) R s := by
  obtain ⟨nm, q, N, bs, bm, sn, sub, ab, col, dd, k0, k1, k2, k3, k5, hC, hbm⟩ := T.oex.cls
  have X : K.In s.heap := fun a o e => bk _ _ (M.kin a o e)
  obtain ⟨hp, g, dr, tk, os⟩ := s
  have k : ∀ b o, hp.get? b = some o → ((hp.push (kdv_tup [v])).push (excO (He.ga K "BadHall") hp.objs.size)).get? b = some o := fun b o e => Heap.get?_push_of_some _ (Heap.get?_push_of_some _ e)
  have hget : ((hp.push (kdv_tup [v])).push (excO (He.ga K "BadHall") hp.objs.size)).get? (hp.objs.size + 1) = some (excO (He.ga K "BadHall") hp.objs.size) := by heap_get
  have hnx : K.lookup (hp.objs.size + 1) = none := by
    cases e : K.lookup (hp.objs.size + 1) with
    | none => rfl
    | some o =>
      have z : hp.get? (hp.objs.size + 1) = some o := X _ _ e
      exact absurd (Nat.lt_of_succ_lt (Heap.lt_size z)) (Nat.lt_irrefl _)
  refine call_own F.excBase_ValueError (fun X => refsVE_contains X bm hbm) (X _ _ hC) (looks_findIn X T.iC) (fun self => bind_fn X self T.tI) (size1 v) ?_
  refine initBadHall (s := ⟨(hp.push (kdv_tup [v])).push (excO (He.ga K "BadHall") hp.objs.size), g, dr, tk, os⟩) T G M (fun b o e => k b o (bk b o e)) hms (hlim.keeps k) hget hnx ?_ fun h' tk' dx t1 ⟨k', hx, dn, dne, hns⟩ => ?_
  · show A.depth + 1 < recursionLimit
    exact hroom
  · have old : ∀ b o, hp.get? b = some o → h'.get? b = some o := fun b o e => k' b o (Nat.ne_of_lt (Nat.lt_succ_of_lt (Heap.lt_size e))) (k b o e)
    have z : hp.objs.size + 1 + 1 ≤ dx := by
      first
        | (simpa only [Heap.size_push] using dn)
        | exact dn
        | (have q := dn; rw [Heap.size_push, Heap.size_push] at q; exact q)
    exact ⟨rfl, hq h' tk' (hp.objs.size + 1) dx ⟨old, Nat.le_succ _, ⟨_, hx⟩, Nat.le_trans (Nat.le_trans (Nat.le_succ _) (Nat.le_succ _)) z, dne, hns⟩⟩
end
section
variable {X : Cx}
/-- BadHall(e), wherever -/
def tMkBadHall (C : Addr) (ta : TA) : L2.St → Hp → XK → Prop := fun σ H Q => ta σ H fun vs H1 => ∃ v, vs = [v] ∧ ∀ d, H1 d = none → Q (.ref C) (some d) (upd H1 d (.xd [(("part" : Str), v)]))
theorem pmkBadHall {a : Expr} {ta : TA} {p pos : Pos} (T : ExcT X.K X.mg "BadHall" "part" sBadHall) (G : PrgOk X.prog) (hms : X.mg "super" = none) (hdp : X.A.depth + 1 < recursionLimit) (ha : PA X [a] ta) (hg : Gl X "BadHall" := by rfl)
    (he : starEach (a :: []) X.env = (false, eval a X.env) :: starEach [] X.env := by rfl) (hpl : (backTo pos (starEach [] X.env)).any (·.1) = false := by rfl) :
    L2N.PMk X (.Call (.Name "BadHall" p) [a] [] pos) (tMkBadHall (He.ga X.K "BadHall") ta) := by
  intro pins s σ H Q I h
  refine wpAny_Call_Name_kw (ld_glob I hg T.mgC ?_)
  refine PySem.W.callWith_K (h₀ := X.base) I.ok.mod.kin T.oex.kC (thn (ha.run pos pins s σ H _ I h) fun us s1 hh => ?_) he hpl
  obtain ⟨vs, H1, I1, r1, v, ev, q1⟩ := hh
  subst ev
  refine ⟨I1.kIn, ?_⟩
  cases r1 with
  | cons rv rn =>
    rename_i v' us'
    cases rn
    show wpAny _ _ (call (.ref _) [v']) _ _ _
    have hlim := I1.nolimit
    have hbk := I1.bk
    obtain ⟨hp, g, dr, tk, os⟩ := s1
    refine wpAny_call (madeBadHall T G I1.ok.mod hbk hms hlim hdp fun h' tk' e d M => ?_)
    show L2N.MkP X pins σ Q (.ref e) ⟨h', g, dr, tk', os⟩
    obtain ⟨t1, hoe⟩ := M.obj
    have hns := M.ns
    obtain ⟨G', g1, g2⟩ := restrict h' fun b => decide (b ≠ e)
    have gk : ∀ b, b ≠ e → G'.get? b = h'.get? b := fun b hb => g1 b (decide_eq_true hb)
    have ge : G'.get? e = none := g2 e (by simp)
    have old : ∀ b o, hp.get? b = some o → G'.get? b = some o := fun b o q => (gk b (Nat.ne_of_lt (Nat.lt_of_lt_of_le (Heap.lt_size q) M.new))).trans (M.keep b o q)
    have ob : ObjOk X.prog X.w (upd H1 d (.xd [(("part" : Str), v)])) G' d (.xd [(("part" : Str), v)]) :=
      ⟨_, hns.at (fun o q => (gk d M.dne).trans q), fun f => relO1 rv f⟩
    have J : Inv X pins σ (upd H1 d (.xd [(("part" : Str), v)])) ⟨G', g, dr, tk', os⟩ := I1.laid (t' := tk') old M.dbig ob
    refine ⟨e, _, _, ⟨G', g, dr, tk', os⟩, _, .ref (He.ga X.K "BadHall"), some d, rfl, J, fun b o q => ?_, ge, hoe, ⟨rfl, rfl, fun vs hv => ?_⟩, rfl, rfl, ?_, rfl, I1.bare, raises_own T.oex.exC T.oex.tyC, q1 d (I1.hok.fresh M.dbig)⟩
    · by_cases hb : b = e
      · have q' : G'.get? b = some o := q
        rw [hb, ge] at q'; cases q'
      · exact (gk b hb).symm.trans q
    · cases hv
      rfl
    · rw [upd_ne (Ne.symm M.dne)]
      exact I1.hok.fresh M.new
end
/-! ### BadText -/
def iaBadText (p1 p2 : Pos) : Arguments := { posonlyargs := [], args := [{ arg := "self", annotation := none, pos := p1 }, { arg := "row", annotation := none, pos := p2 }], vararg := none, kwonlyargs := [], kw_defaults := [], kwarg := none, defaults := [] }
def ibBadText (p1 p2 p4 p6 q1 q2 q3 q4 : Pos) : List Stmt := [.Expr (.Call (.Attribute (.Call (.Name "super" p1) [] [] p2) "__init__" ⟨22, 8, 22, 24⟩) [.Name "row" p4] [] ⟨22, 8, 22, 29⟩) p6, .Assign [.Attribute (.Name "self" q1) "row" q2] (.Name "row" q3) q4]
def isBadText : Scope := { kind := .function, names := [(PySem.Str.ofString "self", .local), (PySem.Str.ofString "row", .local), (PySem.Str.ofString "__class__", .free), (PySem.Str.ofString "super", .globalImplicit)], isGenerator := false, isCoroutine := false, more := [] }
theorem noCellBadText : ∀ x ∈ isBadText.names, x.2 ≠ .cell := by decide +kernel
theorem textBadText : (∃ p1 p2, defArgs sBadText = iaBadText p1 p2) ∧ (∃ p1 p2 p4 p6 q1 q2 q3 q4, defBody sBadText = ibBadText p1 p2 p4 p6 q1 q2 q3 q4) ∧ defScope sBadText = isBadText := ⟨⟨_, _, rfl⟩, ⟨_, _, _, _, _, _, _, _, rfl⟩, rfl⟩
section
variable {prog : Program} {w : World} {A : Around} {E : Value → Shared → Prop} {R : Result → Shared → Prop} {s : Shared} {K : Frag} {mg : Str → Option Value} {base : Heap}
theorem initBadText (T : ExcT K mg "BadText" "row" sBadText) (G : PrgOk prog) (M : Mod K mg base) (bk : ∀ b o, base.get? b = some o → s.heap.get? b = some o) (hms : mg "super" = none) {x t0 : Addr} {v : Value} (hlim : s.heap.NoLimit) (hx : s.heap.get? x = some (excO (He.ga K "BadText") t0)) (hnx : K.lookup x = none) (hroom : A.depth < recursionLimit)
    (hq : ∀ h' tk dx t1, InitEnd "row" s.heap h' x (He.ga K "BadText") dx t1 v → R (.ok (.ret .none)) { s with heap := h', toks := tk }) :
    codeAny (model prog w) A (.call (.ref (He.ma K (He.ga K "BadText") "__init__")) ⟨[.ref x, v], []⟩) R s := by
  have X : K.In s.heap := fun a o e => bk _ _ (M.kin a o e)
  obtain ⟨oc, od, osl, fd, cc, co, cd, csl, ho, n1, n2, n3, n4, n5, n6, n7, n8, n9, n10, ⟨hcd, cda, ccl, cdd, vs, ccs, tf, ec, hcode, hvs⟩, hcell⟩ := T.fn
  obtain ⟨fname, fqual, fpar, fbody, fscope, fglob, fclo, fdef, fkwd, fdoc, fmod, fann, fcode, fct, fblt⟩ := fd
  dsimp only at n1 n2 n3 n4 n5 n6 n7 n8 n9 n10 hcd ec
  subst n1 n2 n3 n4 n5 n6 n7 n8 n9 n10 ec
  obtain ⟨⟨a1, a2, ea⟩, ⟨p1, p2, p4, p6, q1, q2, q3, q4, eb⟩, es⟩ := textBadText
  rw [ea, eb, es] at ho
  obtain ⟨nm, q, N, bs, bm, sn, sub, ab, col, dd, k0, k1, k2, k3, k5, hC, hbm⟩ := T.oex.cls
  have hcl : clsIn K (He.ga K "BadText") = some { name := nm, bases := bs, mro := .ref (He.ga K "BadText") :: bm, ns := N, qualname := q, hasDict := true, slotNames := sn, subclasses := sub, abstract := ab, collection := col, hasDel := false } := by unfold clsIn; rw [hC] <;> rfl
  have hsub : mroIn K (He.ga K "BadText") (.ref (He.ga K "BadText")) = some true := by
    unfold mroIn
    rw [hcl]
    simp
  have hsup := T.sup
  unfold ks_superIn at hsup
  rw [hcl] at hsup
  refine ks_codeAny_call_defAt (body := ibBadText p1 p2 p4 p6 q1 q2 q3 q4) (binds := [("self", .ref x), ("row", v)]) hroom (X _ _ ho) rfl hlim (codeRec_of X hcd) rfl (BindsTo.of_eq (by first | rfl | with_unfolding_all rfl)) noCellBadText ?hloc (fun h₁ hns k => ?_)
  case hloc => exact locs rfl
  obtain ⟨mb, hb1, hb2⟩ := M.blt
  have X₁ : K.In h₁ := X.keeps k
  have hx₁ := k _ _ hx
  obtain ⟨hp, g, d, tk, os⟩ := s
  have vx : ((([("self", Value.ref x), ("row", v)] : List (Str × Value)).reverse).lookup ("self" : Str)) = some (.ref x) := by rfl
  have vf : ((([("self", Value.ref x), ("row", v)] : List (Str × Value)).reverse).lookup ("row" : Str)) = some v := by rfl
  refine ks_wpAt_execs_cons (ks_wpAt_Expr_any (ks_wpAt_MethodCall ?_))
  refine ks_wpAt_super_base (by rfl) (by rfl) rfl rfl (X₁ _ _ ho) rfl rfl rfl (X₁ _ _ hcode) rfl hvs (by rw [G.file]; exact beq_self_eq_true _) G.sup ?_
  refine ks_loadName_global (by rfl) (by rfl) (loadGlobal_builtin (M.glob.keeps fun b o e => k b o (bk b o e)) hms (hb1.keeps fun b o e => k b o (bk b o e)) ((hb2 _ (by decide +kernel)).trans (by first | boot_by_name | rfl | kernel_rfl)) ⟨rfl, ?_⟩)
  refine wpAny_loadName_free (by rfl) (by rfl) rfl ⟨_, X₁ _ _ hcell, rfl⟩ ?_
  refine wpAny_loadName_local (by rfl) (by rfl) hns vx ?_
  refine ks_wpAny_isType_cls (X₁ _ _ hC) rfl ⟨rfl, ?_⟩
  refine ks_wpAny_call_super (X₁ _ _ hC) rfl hx₁ rfl (fun c e => by cases e) (looks_mroIn X₁ hsub) (fun h₂ e₂ k₂ => ?_)
  have X₂ : K.In h₂ := X₁.keeps k₂
  have hx₂ := k₂ _ _ hx₁
  have hns₂ := hns.keeps k₂
  have hxC : x ≠ He.ga K "BadText" := fun z => by
    have e := X₂ _ _ hC
    rw [← z, hx₂] at e
    cases e
  have I₂ : InstAt h₂ x (excO (He.ga K "BadText") t0) (He.ga K "BadText") none := ⟨hx₂, rfl, rfl, trivial⟩
  refine kxs_getMethod kxs_ValueError e₂ (looks_opaque X₂ T.sta) (l₀ := .ref (He.ga K "BadText") :: bm) (fun A Q E s k q => wpAny_bind ((looks_clsIn X₂ hcl) A _ E s k (wpAny_pure q))) rfl X₂ hsup (I₂.type.andThen (looks_subIn X₂ T.sub)) hxC rfl ?_
  have hget : (h₂.push (kxs_mw "ValueError.__init__" x)).get? h₂.objs.size = some (kxs_mw "ValueError.__init__" x) := Heap.get?_push_size _ rfl
  have k₃ : ∀ b o, h₂.get? b = some o → (h₂.push (kxs_mw "ValueError.__init__" x)).get? b = some o := fun b o e => Heap.get?_push_of_some _ e
  refine kxs_callWith (i := "ValueError.__init__") (x := x) (by rfl) (evalArgs_plain ?_)
  have hns₃ := hns₂.keeps k₃
  refine spliced_cons (wpAny_Name (wpAny_loadName_local (by rfl) (by rfl) hns₃ vf ?_) (by decide))
  refine spliced_nil ⟨hget, ?_⟩
  refine call_ve (k₃ _ _ (X₂ _ _ hC)) (k₃ _ _ hx₂) hget (size1 v) (fun h₄ t1 k₄ hx₄ => ?_)
  show PySem.wpAt _ _ _ _ _ _ _
  refine wpAt_of_wpAny ?_
  have old : ∀ b o, b ≠ x → h₁.get? b = some o → h₄.get? b = some o := fun b o hb e => k₄ b o hb (k₃ b o (k₂ b o e))
  have X₄ : K.In h₄ := fun a o e => old a o (fun z => by rw [z, hnx] at e; cases e) (X₁ a o e)
  have hLx : hp.objs.size ≠ x := Nat.ne_of_gt (Heap.lt_size hx)
  have hns₄ : h₄.Ns hp.objs.size (fun y => ([("self", Value.ref x), ("row", v)] : List (Str × Value)).reverse.lookup y) := by
    obtain ⟨oL, es, ep, hL, r⟩ := hns₃
    exact ⟨oL, es, ep, k₄ _ _ hLx hL, r⟩
  show wpAny _ _ (execs _ _) _ _ _
  refine wpAny_execs_cons (plainObj_wpAny_Assign_Attribute ?_)
  refine wpAny_Name (wpAny_loadName_local (by rfl) (by rfl) hns₄ vf ?_) (by decide)
  refine wpAny_Name (wpAny_loadName_local (by rfl) (by rfl) hns₄ vx ?_) (by decide)
  refine set_plain X₄ (ox := excO (He.ga K "BadText") t1) (od := none) ⟨hx₄, rfl, rfl, trivial⟩ T.oex.sa ?_
  refine exc_osa X₄ hx₄ hcl (show refsVE (.ref (He.ga K "BadText") :: bm) = true from hbm) rfl T.noF (fun h₅ tk₅ dx k₅ dn dne hx₅ hn₅ => ?_)
  have big : hp.objs.size ≤ h₄.objs.size := by
    obtain ⟨oL, es, ep, hL, r⟩ := hns₄
    exact Nat.le_of_lt (Heap.lt_size hL)
  exact wpAny_execs_nil (hq h₅ tk₅ dx t1 ⟨fun b o hb e => k₅ b o hb (old b o hb (k b o e)), hx₅, Nat.le_trans big dn, dne, hn₅⟩)
theorem madeBadText (T : ExcT K mg "BadText" "row" sBadText) (G : PrgOk prog) (M : Mod K mg base) (bk : ∀ b o, base.get? b = some o → s.heap.get? b = some o) (hms : mg "super" = none) {v : Value} (hlim : s.heap.NoLimit) (hroom : A.depth + 1 < recursionLimit)
    (hq : ∀ h' tk e d, OwnMade "row" s.heap h' e (He.ga K "BadText") d v → R (.ok (.ret (.ref e))) { s with heap := h', toks := tk }) :
    codeAny (model prog w) A (.call (.ref (He.ga K "BadText")) ⟨[v], []⟩) R s := by
  obtain ⟨nm, q, N, bs, bm, sn, sub, ab, col, dd, k0, k1, k2, k3, k5, hC, hbm⟩ := T.oex.cls
  have X : K.In s.heap := fun a o e => bk _ _ (M.kin a o e)
  obtain ⟨hp, g, dr, tk, os⟩ := s
  have k : ∀ b o, hp.get? b = some o → ((hp.push (kdv_tup [v])).push (excO (He.ga K "BadText") hp.objs.size)).get? b = some o := fun b o e => Heap.get?_push_of_some _ (Heap.get?_push_of_some _ e)
  have hget : ((hp.push (kdv_tup [v])).push (excO (He.ga K "BadText") hp.objs.size)).get? (hp.objs.size + 1) = some (excO (He.ga K "BadText") hp.objs.size) := by heap_get
  have hnx : K.lookup (hp.objs.size + 1) = none := by
    cases e : K.lookup (hp.objs.size + 1) with
    | none => rfl
    | some o =>
      have z : hp.get? (hp.objs.size + 1) = some o := X _ _ e
      exact absurd (Nat.lt_of_succ_lt (Heap.lt_size z)) (Nat.lt_irrefl _)
  refine call_own F.excBase_ValueError (fun X => refsVE_contains X bm hbm) (X _ _ hC) (looks_findIn X T.iC) (fun self => bind_fn X self T.tI) (size1 v) ?_
  refine initBadText (s := ⟨(hp.push (kdv_tup [v])).push (excO (He.ga K "BadText") hp.objs.size), g, dr, tk, os⟩) T G M (fun b o e => k b o (bk b o e)) hms (hlim.keeps k) hget hnx ?_ fun h' tk' dx t1 ⟨k', hx, dn, dne, hns⟩ => ?_
  · show A.depth + 1 < recursionLimit
    exact hroom
  · have old : ∀ b o, hp.get? b = some o → h'.get? b = some o := fun b o e => k' b o (Nat.ne_of_lt (Nat.lt_succ_of_lt (Heap.lt_size e))) (k b o e)
    have z : hp.objs.size + 1 + 1 ≤ dx := by
      first
        | (simpa only [Heap.size_push] using dn)
        | exact dn
        | (have q := dn; rw [Heap.size_push, Heap.size_push] at q; exact q)
    exact ⟨rfl, hq h' tk' (hp.objs.size + 1) dx ⟨old, Nat.le_succ _, ⟨_, hx⟩, Nat.le_trans (Nat.le_trans (Nat.le_succ _) (Nat.le_succ _)) z, dne, hns⟩⟩
end
section
variable {X : Cx}
/-- BadText(e), wherever -/
def tMkBadText (C : Addr) (ta : TA) : L2.St → Hp → XK → Prop := fun σ H Q => ta σ H fun vs H1 => ∃ v, vs = [v] ∧ ∀ d, H1 d = none → Q (.ref C) (some d) (upd H1 d (.xd [(("row" : Str), v)]))
theorem pmkBadText {a : Expr} {ta : TA} {p pos : Pos} (T : ExcT X.K X.mg "BadText" "row" sBadText) (G : PrgOk X.prog) (hms : X.mg "super" = none) (hdp : X.A.depth + 1 < recursionLimit) (ha : PA X [a] ta) (hg : Gl X "BadText" := by rfl)
    (he : starEach (a :: []) X.env = (false, eval a X.env) :: starEach [] X.env := by rfl) (hpl : (backTo pos (starEach [] X.env)).any (·.1) = false := by rfl) :
    L2N.PMk X (.Call (.Name "BadText" p) [a] [] pos) (tMkBadText (He.ga X.K "BadText") ta) := by
  intro pins s σ H Q I h
  refine wpAny_Call_Name_kw (ld_glob I hg T.mgC ?_)
  refine PySem.W.callWith_K (h₀ := X.base) I.ok.mod.kin T.oex.kC (thn (ha.run pos pins s σ H _ I h) fun us s1 hh => ?_) he hpl
  obtain ⟨vs, H1, I1, r1, v, ev, q1⟩ := hh
  subst ev
  refine ⟨I1.kIn, ?_⟩
  cases r1 with
  | cons rv rn =>
    rename_i v' us'
    cases rn
    show wpAny _ _ (call (.ref _) [v']) _ _ _
    have hlim := I1.nolimit
    have hbk := I1.bk
    obtain ⟨hp, g, dr, tk, os⟩ := s1
    refine wpAny_call (madeBadText T G I1.ok.mod hbk hms hlim hdp fun h' tk' e d M => ?_)
    show L2N.MkP X pins σ Q (.ref e) ⟨h', g, dr, tk', os⟩
    obtain ⟨t1, hoe⟩ := M.obj
    have hns := M.ns
    obtain ⟨G', g1, g2⟩ := restrict h' fun b => decide (b ≠ e)
    have gk : ∀ b, b ≠ e → G'.get? b = h'.get? b := fun b hb => g1 b (decide_eq_true hb)
    have ge : G'.get? e = none := g2 e (by simp)
    have old : ∀ b o, hp.get? b = some o → G'.get? b = some o := fun b o q => (gk b (Nat.ne_of_lt (Nat.lt_of_lt_of_le (Heap.lt_size q) M.new))).trans (M.keep b o q)
    have ob : ObjOk X.prog X.w (upd H1 d (.xd [(("row" : Str), v)])) G' d (.xd [(("row" : Str), v)]) :=
      ⟨_, hns.at (fun o q => (gk d M.dne).trans q), fun f => relO1 rv f⟩
    have J : Inv X pins σ (upd H1 d (.xd [(("row" : Str), v)])) ⟨G', g, dr, tk', os⟩ := I1.laid (t' := tk') old M.dbig ob
    refine ⟨e, _, _, ⟨G', g, dr, tk', os⟩, _, .ref (He.ga X.K "BadText"), some d, rfl, J, fun b o q => ?_, ge, hoe, ⟨rfl, rfl, fun vs hv => ?_⟩, rfl, rfl, ?_, rfl, I1.bare, raises_own T.oex.exC T.oex.tyC, q1 d (I1.hok.fresh M.dbig)⟩
    · by_cases hb : b = e
      · have q' : G'.get? b = some o := q
        rw [hb, ge] at q'; cases q'
      · exact (gk b hb).symm.trans q
    · cases hv
      rfl
    · rw [upd_ne (Ne.symm M.dne)]
      exact I1.hok.fresh M.new
end
end K5
set_option Elab.async false
set_option linter.all false
set_option maxRecDepth 100000
set_option maxHeartbeats 4000000
namespace K5
open PySem PySem.Spec PyProof.Rows L2
variable {P : Program} {w : World} {K : PySem.W.Frag} {mg : Str → Option Value} {base : Heap}
/-! ### the class Hall -/
def rvs : List Str → List V
  | [a, b, c, d, e, f, g] => [rv 0 a, rv 1 b, rv 2 c, rv 3 d, rv 4 e, rv 5 f, rv 6 g]
  | _ => []
/-- a hall's fields, in the order of their stores -/
def hallF (ev : Nat) (t : V) (hs : List Str) : List (Str × V) := [(("events" : Str), .int ev), (("kinds" : Str), t)] ++ names.zip (rvs hs)
/-- a def of the class -/
theorem fn_meth (T : Txt w K mg) {i j k : Nat} {m q : Str} {N ps : List Str} {sp : Sp} {CX : CXT} {kw : List (Str × He.Dv)} (hj : fn[j]? = some (dM i m q kw)) (S : FnScope N ps (defScope (inClass (top 17) i))) (len : ∀ vs H Q E, sp vs H Q E → vs.length = ps.length)
    (hbody : ∀ (cdv : Value) (A : Around) (outer : List Env) (s : Shared) (H : Hp) (vs : List V) (Q : VK) (E : XK), Room k (A.deeper (envOfC q (defScope (inClass (top 17) i)) s.heap.objs.size (He.ma K (cHall K) m) cdv)) → sp vs H Q E →
      ∃ t, PSs (cxOf CX P w K mg base N q (defScope (inClass (top 17) i)) (He.ma K (cHall K) m) cdv A outer s H E) (defBody (inClass (top 17) i)) t ∧ t { nx := fun _ H' => Q .non H', rt := Q } (start N vs) H) :
    ∃ fd, FunD K m q (defArgs (inClass (top 17) i)) (defBody (inClass (top 17) i)) (defScope (inClass (top 17) i)) [] (kw.map fun p => (p.1, p.2.v K)) (He.ma K (cHall K) m) fd ∧ FnOk P w K mg base CX (k + 1) (He.ma K (cHall K) m) fd ps sp := by
  obtain ⟨fd, F⟩ := T.fnD j _ hj
  have F' : FunD K m q (defArgs (inClass (top 17) i)) (defBody (inClass (top 17) i)) (defScope (inClass (top 17) i)) [] (kw.map fun p => (p.1, p.2.v K)) (He.ma K (cHall K) m) fd := F
  exact ⟨fd, F', F'.ok S len hbody⟩
/-- the rules as a dict -/
def kvsOf : List Str → List (Key × V)
  | [a, b, c, d, e, f, g] => [(.inr "walk", rv 0 a), (.inr "check", rv 1 b), (.inr "errors", rv 2 c), (.inr "once", rv 3 d), (.inr "same", rv 4 e), (.inr "put", rv 5 f), (.inr "nest", rv 6 g)]
  | _ => []
theorem merge_kvs (a b c d e f g : Str) : mergeK [] (kvsOf [a, b, c, d, e, f, g]) = kvsOf [a, b, c, d, e, f, g] := by rfl
theorem kvs_get {hs : List Str} (h : hs.length = 7) {i : Nat} {n v : Str} (hn : names[i]? = some n) (hv : hs[i]? = some v) : valV (kvsOf hs) (Sum.inr n) = some (rv i v) := by
  obtain ⟨a, b, c, d, e, f, g, rfl⟩ := seven h
  match i, hn, hv with
  | 0, hn, hv => cases hn; cases hv; rfl
  | 1, hn, hv => cases hn; cases hv; rfl
  | 2, hn, hv => cases hn; cases hv; rfl
  | 3, hn, hv => cases hn; cases hv; rfl
  | 4, hn, hv => cases hn; cases hv; rfl
  | 5, hn, hv => cases hn; cases hv; rfl
  | 6, hn, hv => cases hn; cases hv; rfl
/-! ### __init__ -/
theorem scHallInit : FnScope ["self", "events", "kinds", "walk", "check", "errors", "once", "same", "put", "nest", "rules", "name"] ["self", "events", "kinds", "walk", "check", "errors", "once", "same", "put", "nest"] (defScope sHallInit) := ⟨rfl, rfl, rfl, by decide +kernel, rfl, by decide +kernel, by decide +kernel⟩
def spHallInit (K : PySem.W.Frag) : Sp := fun vs H Q E => ∃ (p dx : Addr) (ev : Nat) (kv : V) (ks : List Kind) (hs : List Str), vs = .ref p :: .int ev :: kv :: rvs hs ∧ H p = some (.ins (cHall K) dx []) ∧ 1 ≤ ev ∧ ev ≤ 3 ∧ KindsAt H kv ks ∧ headsOk hs ∧
  (kindsOk ev ks = true → ∀ H', (∀ b o, b ≠ p → H b = some o → H' b = some o) → H' p = some (.ins (cHall K) dx (hallF ev kv hs)) → Q .non H') ∧
  (kindsOk ev ks = false → ∀ H' d, Same H H' → E (.ref (He.ga K "BadHall")) (some d) H')
theorem fn_hallInit (T : Txt w K mg) (G : PrgOk P) (C_is_number : Cl P w K mg base CX0 1 "is_number" spIsNumber) (C_are_kinds : Cl P w K mg base CX0 4 "are_kinds" spAreKinds) (C_is_value : Cl P w K mg base CX0 1 "is_value" spIsValue) :
    ∃ fd, FunD K "__init__" "Hall.__init__" (defArgs sHallInit) (defBody sHallInit) (defScope sHallInit) [] (hallKw.map fun p => (p.1, p.2.v K)) (He.ma K (cHall K) "__init__") fd ∧ FnOk P w K mg base (L2N.CX P w) 5 (He.ma K (cHall K) "__init__") fd ["self", "events", "kinds", "walk", "check", "errors", "once", "same", "put", "nest"] (spHallInit K) := by
  refine fn_meth T (i := 0) (j := 5) rfl scHallInit (fun vs H Q E h => ?_) (fun cdv A outer s H vs Q E hr h => ?_)
  · obtain ⟨p, dx, ev, kv, ks, hs, rfl, _, _, _, _, hh, _⟩ := h
    obtain ⟨a, b, c, d, e, f, g, rfl⟩ := seven hh.1
    rfl
  · obtain ⟨p, dx, ev, kv, ks, hs, rfl, hp, h1, h3, hk, hh, kT, kF⟩ := h
    obtain ⟨a, b, c, d, e, f, g, rfl⟩ := seven hh.1
    have hsz : ruleNames.length ≤ sizeLine := by decide +kernel
    have hu := hu_of hr
    refine ⟨_, (pss_cons (ps_if (pt_not (pt_val (pe_cl C_is_number hr (by decide) pass0 rfl (pa_cons (pv 1) (pa_cons pe_int (pa_cons (pInt T.mE rfl) pa_nil)))))) (pss_one ps_never) pss_nil)
      (pss_cons (ps_if (pt_not (pt_val (pe_cl C_are_kinds hr (by decide) pass0 rfl (pa_cons (pv 1) (pa_cons (pv 2) pa_nil))))) (pss_one (L2N.ps_raise rfl (L2N.takes_of rfl rfl rfl rfl) (pmkBadHall T.bh G (fr T "super") (dp_of hr) (pa_cons pe_str pa_nil)))) pss_nil)
      (pss_cons (ps_set (i := 10) scHallInit.nd rfl (by first | exact Or.inl rfl | exact Or.inr rfl) (pe_disp (pps_cons pe_str (pv 3) (pps_cons pe_str (pv 4) (pps_cons pe_str (pv 5) (pps_cons pe_str (pv 6) (pps_cons pe_str (pv 7) (pps_cons pe_str (pv 8) (pps_cons pe_str (pv 9) pps_nil))))))) (by rfl) (by rfl) (fun z => by cases z) (by decide)))
      (pss_cons (ps_for (passes_of rfl) rfl (pi_list (pe_callTy (call_list_tab rfl T.rk nodup_rules hsz) (by rfl) (fr T "list") PyProof.Rows.boot_list (pa_cons (pGlo T (by decide +kernel) rfl) pa_nil))) (pg_name (i := 11) scHallInit.nd rfl (by first | exact Or.inl rfl | exact Or.inr rfl)) (pss_one (ps_if (pt_not (pt_val (pe_cl C_is_value hr (by decide) pass0 rfl (pa_cons (pv 11) (pa_cons (pe_dget hu (pv 10) (pv 11) (fun _ _ => rfl)) pa_nil))))) (pss_one ps_never) pss_nil)))
      (pss_cons (ps_fld (pv 0) (pv 1) rfl)
      (pss_cons (ps_fld (pv 0) (pv 2) rfl)
      (pss_cons (ps_fld (pv 0) (pv 3) rfl)
      (pss_cons (ps_fld (pv 0) (pv 4) rfl)
      (pss_cons (ps_fld (pv 0) (pv 5) rfl)
      (pss_cons (ps_fld (pv 0) (pv 6) rfl)
      (pss_cons (ps_fld (pv 0) (pv 7) rfl)
      (pss_cons (ps_fld (pv 0) (pv 8) rfl)
      (pss_one (ps_fld (pv 0) (pv 9) rfl)))))))))))))), ?_⟩
    refine ⟨_, rfl, _, _, _, rfl, .inr ⟨_, rfl⟩, _, rfl, ?_⟩
    have e1 : numB (.int (ev : Int)) 1 3 = true := by
      show (decide ((1 : Int) ≤ ev) && decide ((ev : Int) ≤ 3)) = true
      rw [decide_eq_true (show (1 : Int) ≤ ev by omega), decide_eq_true (show (ev : Int) ≤ 3 by omega)] <;> rfl
    rw [e1]
    refine iteF ?_
    refine ⟨_, rfl, _, rfl, _, _, _, rfl, hk, fun H1 s1 => ⟨_, rfl, ?_⟩⟩
    cases ek : kindsOk ev ks with
    | false =>
      refine iteT ?_
      refine ⟨_, rfl, fun d hd => ?_⟩
      exact kF ek _ _ (Same.new' s1 hd)
    | true =>
      refine iteF ?_
      refine fun d1 hd1 => ⟨_, rfl, _, rfl, _, rfl, _, rfl, _, rfl, _, rfl, _, rfl, upd_same, kvsOf [a, b, c, d, e, f, g], rfl, (by show 7 ≤ 15; decide), ?_⟩
      rw [merge_kvs]
      refine ⟨rfl, fun l hl => ?_⟩
      refine ⟨_, rfl, ⟨_, SqL.of upd_same⟩, ?_⟩
      have hd4 : (upd (upd (upd H1 d1 (.dK [])) d1 (.dK (kvsOf [a, b, c, d, e, f, g]))) l (.lst (ruleNames.map V.str))) d1 = some (.dK (kvsOf [a, b, c, d, e, f, g])) := Same.new hl _ _ upd_same
      have s4 : Same H1 (upd (upd (upd H1 d1 (.dK [])) d1 (.dK (kvsOf [a, b, c, d, e, f, g]))) l (.lst (ruleNames.map V.str))) := by
        intro q o hq
        refine Same.new hl _ _ ?_
        rw [upd_ne (ne_of_none hq hd1), upd_ne (ne_of_none hq hd1)]
        exact hq
      have hp4 := s4 _ _ (s1 _ _ hp)
      have hl4 : (upd (upd (upd H1 d1 (.dK [])) d1 (.dK (kvsOf [a, b, c, d, e, f, g]))) l (.lst (ruleNames.map V.str))) l = some (.lst (ruleNames.map V.str)) := upd_same
      have n4 : ∀ q o, q ≠ p → H q = some o → (upd (upd (upd H1 d1 (.dK [])) d1 (.dK (kvsOf [a, b, c, d, e, f, g]))) l (.lst (ruleNames.map V.str))) q = some o := fun q o _ hq => s4 _ _ (s1 _ _ hq)
      generalize (upd (upd (upd H1 d1 (.dK [])) d1 (.dK (kvsOf [a, b, c, d, e, f, g]))) l (.lst (ruleNames.map V.str))) = H4 at hd4 hp4 hl4 n4 ⊢
      refine for_list (xs := ruleNames.map V.str) (fun _ σ H' => (∃ o, σ = [some (.ref p), some (.int ev), some kv, some (rv 0 a), some (rv 1 b), some (rv 2 c), some (rv 3 d), some (rv 4 e), some (rv 5 f), some (rv 6 g), some (.ref d1), o]) ∧ H' = H4) ⟨⟨none, rfl⟩, rfl⟩ (fun i σ H' _ q => ?_) (fun i x σ H' hx q => ?_) (fun σ H' q => ?_)
      · rw [q.2]
        exact SqL.of hl4
      · obtain ⟨⟨o, rfl⟩, rfl⟩ := q
        have hi : i < 7 := by
          have := (List.getElem?_eq_some_iff.mp hx).1
          simpa [ruleNames] using this
        obtain ⟨n, hn, rfl⟩ : ∃ n, names[i]? = some n ∧ x = .str n := by
          rw [List.getElem?_map, Option.map_eq_some_iff] at hx
          obtain ⟨n, h1, h2⟩ := hx
          exact ⟨n, h1, h2.symm⟩
        obtain ⟨v, hv⟩ : ∃ v, [a, b, c, d, e, f, g][i]? = some v := ⟨_, List.getElem?_eq_getElem (show i < [a, b, c, d, e, f, g].length from hi)⟩
        have hn' : n = names.getD i NO := by
          unfold List.getD
          rw [hn] <;> rfl
        have hg : DGet H' d1 (.str n) (some (rv i v)) := by
          rw [← kvs_get hh.1 hn hv]
          exact DGet.k (k := Sum.inr n) hd4
        refine ⟨_, rfl, _, rfl, _, rfl, _, _, rfl, hg, ?_⟩
        rw [hn']
        refine ⟨i, v, rfl, hi, hh.2 i v hv, _, rfl, ?_⟩
        exact iteF ⟨⟨_, rfl⟩, rfl⟩
      obtain ⟨⟨o, rfl⟩, rfl⟩ := q
      refine ⟨_, rfl, _, rfl, p, _, dx, _, rfl, hp4, T.cl, T.na "events" (by decide +kernel), (by show 0 < 1000; decide), ?_⟩
      refine ⟨_, rfl, _, rfl, p, _, dx, _, rfl, upd_same, T.cl, T.na "kinds" (by decide +kernel), (by show 1 < 1000; decide), ?_⟩
      refine ⟨_, rfl, _, rfl, p, _, dx, _, rfl, upd_same, T.cl, T.na "walk" (by decide +kernel), (by show 2 < 1000; decide), ?_⟩
      refine ⟨_, rfl, _, rfl, p, _, dx, _, rfl, upd_same, T.cl, T.na "check" (by decide +kernel), (by show 3 < 1000; decide), ?_⟩
      refine ⟨_, rfl, _, rfl, p, _, dx, _, rfl, upd_same, T.cl, T.na "errors" (by decide +kernel), (by show 4 < 1000; decide), ?_⟩
      refine ⟨_, rfl, _, rfl, p, _, dx, _, rfl, upd_same, T.cl, T.na "once" (by decide +kernel), (by show 5 < 1000; decide), ?_⟩
      refine ⟨_, rfl, _, rfl, p, _, dx, _, rfl, upd_same, T.cl, T.na "same" (by decide +kernel), (by show 6 < 1000; decide), ?_⟩
      refine ⟨_, rfl, _, rfl, p, _, dx, _, rfl, upd_same, T.cl, T.na "put" (by decide +kernel), (by show 7 < 1000; decide), ?_⟩
      refine ⟨_, rfl, _, rfl, p, _, dx, _, rfl, upd_same, T.cl, T.na "nest" (by decide +kernel), (by show 8 < 1000; decide), ?_⟩
      refine kT ek _ (fun q o hq ho => ?_) ?_
      · simp only [upd_ne hq]
        exact n4 q o hq ho
      · rw [upd_same]
        rfl
end K5
set_option Elab.async false
set_option linter.all false
set_option maxRecDepth 100000
set_option maxHeartbeats 4000000
/-! dict(zip(xs, t)): a list and a tuple. -/
namespace K5
open PySem PySem.Spec PyProof.Rows L2
section
variable {prog : Program} {w : World} {A : Around} {E : Value → Shared → Prop} {s : Shared} {z TI TO i1 i2 T : Addr} {fp1 fp2 : List Addr} {n1 n2 i : Nat} {P1 P2 : Nat → Value → Prop} {St1 St2 : Nat → Heap → Prop} {f : Bool} {oT : Obj}
/-- the tuple that was given out is still there: one more -/
theorem held_item {Q : Value → Shared → Prop} (S : ZipSep2 z TI TO i1 i2 fp1 fp2) (D1 : Draws prog w A i1 fp1 n1 P1 St1) (D2 : Draws prog w A i2 fp2 n2 P2 St2) (hz : IsZipHeld s.heap z TI TO T f) (hT : s.heap.get? T = some oT)
    (hTI : IsTupOf2 s.heap TI (.ref i1) (.ref i2)) (st1 : St1 i s.heap) (st2 : St2 i s.heap) (l1 : i < n1) (l2 : i < n2)
    (hQ : ∀ x y h' tk, P1 i x → P2 i y → IsZipHeld h' z TI TO T true → St1 (i + 1) h' → St2 (i + 1) h' → IsTupOf2 h' s.heap.objs.size x y → (∀ c o, c ≠ z → c ≠ i1 → c ≠ i2 → s.heap.get? c = some o → h'.get? c = some o) → Q (.ref s.heap.objs.size) { s with heap := h', toks := tk }) :
    wpAny (model prog w) A (Builtin.«zip.__next__» ⟨[.ref z], []⟩) (fun fin s' => ∃ v, fin = .done (.ret v) ∧ Q v s') E s := by
  obtain ⟨hp, g, d, tk0, os⟩ := s
  show wpAny _ _ (field (.ref z) 2 >>= _) _ _ _
  refine wpAny_bind (wpAny_field hz rfl (x := .bool false) rfl ?_)
  show wpAny _ _ (field (.ref z) 3 >>= _) _ _ _
  refine wpAny_bind (wpAny_field hz rfl (x := .ref TI) rfl ?_)
  refine wpAny_bind (wpAny_seqItems hTI rfl ?_)
  show wpAny _ _ (Builtin.SmallTypes.ownedTupleIsFree (.ref z) >>= _) _ _ _
  refine wpAny_bind (wpAny_tupleHeld_zip hz hT fun ha hza sa => ?_)
  simp only [Bool.false_eq_true, if_false]
  refine wpAny_bind ?_
  rw [← Array.forIn_toList]
  simp only [List.forIn_cons, List.forIn_nil]
  have sta1 : St1 i ha := D1.over st1 sa S.zf1
  refine wpAny_bind (wpAny_bind (wpAny_holding ?_))
  show wpAny _ _ (Builtin.SmallTypes.nextOf (.ref i1) >>= _) _ _ _
  refine wpAny_bind (D1.item i ⟨ha, g, d, tk0, os⟩ _ _ l1 sta1 fun x hb tk1 px stb sb => wpAny_pure ?_)
  replace sb : Heap.SameBut i1 ha hb := sb
  refine wpAny_pure ?_
  have stb2 : St2 i hb := D2.over (D2.over st2 sa S.zf2) sb S.sep1_2
  refine wpAny_bind (wpAny_bind (wpAny_holding ?_))
  show wpAny _ _ (Builtin.SmallTypes.nextOf (.ref i2) >>= _) _ _ _
  refine wpAny_bind (D2.item i ⟨hb, g, d, tk1, os⟩ _ _ l2 stb2 fun y hc tk2 py stc sc => wpAny_pure ?_)
  replace sc : Heap.SameBut i2 hb hc := sc
  refine wpAny_pure (wpAny_pure ?_)
  show wpAny _ _ (newTuple [x, y] >>= _) _ _ _
  refine wpAny_bind (wpAny_newTuple ?_)
  have hsz : hc.objs.size = hp.objs.size := by rw [sc.1, sb.1]; exact sa.1
  have hzc : IsZipHeld hc z TI TO T true := sc.extBut _ _ S.zi2 (sb.extBut _ _ S.zi1 hza)
  have kc : ∀ c o, c ≠ z → c ≠ i1 → c ≠ i2 → hp.get? c = some o → hc.get? c = some o := fun c o c1 c2 c3 e => sc.extBut _ _ c3 (sb.extBut _ _ c2 (sa.extBut _ _ c1 e))
  have up : ∀ c o, hc.get? c = some o → (hc.push { cls := .type "tuple", data := .seq #[x, y] }).get? c = some o := fun c o e => Heap.get?_push_of_some _ e
  have hpr : IsTupOf2 (hc.push { cls := .type "tuple", data := .seq #[x, y] }) hc.objs.size x y := Heap.get?_push_size _ rfl
  have stc1 : St1 (i + 1) hc := D1.over stb sc S.sep2_1
  refine wpAny_pure ⟨_, rfl, ?_⟩
  show Q (.ref hc.objs.size) _
  rw [hsz] at hpr ⊢
  exact hQ x y _ _ px py (up _ _ hzc) (D1.frame _ _ _ stc1 fun b _ o e => up b o e) (D2.frame _ _ _ stc fun b _ o e => up b o e) hpr fun c o c1 c2 c3 e => up c o (kc c o c1 c2 c3 e)
theorem held_end {Q : Fin → Shared → Prop} (S : ZipSep2 z TI TO i1 i2 fp1 fp2) (D1 : Draws prog w A i1 fp1 n1 P1 St1) (hz : IsZipHeld s.heap z TI TO T f) (hT : s.heap.get? T = some oT)
    (hTI : IsTupOf2 s.heap TI (.ref i1) (.ref i2)) (st1 : St1 n1 s.heap)
    (hE : ∀ h' e, (∀ c o, c ≠ z → c ≠ i1 → c ≠ i2 → s.heap.get? c = some o → h'.get? c = some o) → (∃ o, h'.get? e = some o ∧ o.cls = .type "StopIteration") → E (.ref e) { s with heap := h' }) :
    wpAny (model prog w) A (Builtin.«zip.__next__» ⟨[.ref z], []⟩) Q E s := by
  show wpAny _ _ (field (.ref z) 2 >>= _) _ _ _
  refine wpAny_bind (wpAny_field hz rfl (x := .bool false) rfl ?_)
  show wpAny _ _ (field (.ref z) 3 >>= _) _ _ _
  refine wpAny_bind (wpAny_field hz rfl (x := .ref TI) rfl ?_)
  refine wpAny_bind (wpAny_seqItems hTI rfl ?_)
  show wpAny _ _ (Builtin.SmallTypes.ownedTupleIsFree (.ref z) >>= _) _ _ _
  refine wpAny_bind (wpAny_tupleHeld_zip hz hT fun ha hza sa => ?_)
  simp only [Bool.false_eq_true, if_false]
  refine wpAny_bind ?_
  rw [← Array.forIn_toList]
  simp only [List.forIn_cons, List.forIn_nil]
  refine wpAny_bind (wpAny_bind (wpAny_holding ?_))
  show wpAny _ _ (Builtin.SmallTypes.nextOf (.ref i1) >>= _) _ _ _
  exact wpAny_bind (D1.done { s with heap := ha } _ _ (D1.over st1 sa S.zf1) fun hb e xb he => hE hb e (fun c o c1 c2 _ q => xb _ _ c2 (sa.extBut _ _ c1 q)) he)
end
section
variable {prog : Program} {w : World}
/-- zip of two things of one length, as what dict() takes -/
theorem zipArg {fp1 fp2 : List Addr} {n : Nat} {P1 P2 : Nat → Value → Prop} {St1 St2 : Nat → Heap → Prop} (z TI TO i1 i2 : Addr) (S : ZipSep2 z TI TO i1 i2 fp1 fp2) (D1 : ∀ A : Around, A.handled = none → Draws prog w A i1 fp1 n P1 St1) (D2 : ∀ A : Around, A.handled = none → Draws prog w A i2 fp2 n P2 St2)
    (k1 : ∀ h, St1 0 h → ∀ b ∈ fp1, ∃ o, h.get? b = some o) (k2 : ∀ h, St2 0 h → ∀ b ∈ fp2, ∃ o, h.get? b = some o) :
    PairArg prog w "zip" z (z :: TI :: TO :: (fp1 ++ fp2)) [z, TO, i1, i2] n (fun i k v => P1 i k ∧ P2 i v)
      (fun h => IsZip h z TI TO .none ∧ IsTupOf2 h TI (.ref i1) (.ref i2) ∧ (∃ a b, IsTupOf2 h TO a b) ∧ St1 0 h ∧ St2 0 h) where
  type := fun s ok => ⟨_, ok.1, rfl⟩
  notDict := by decide
  keep := fun h h' ok hk => by
    obtain ⟨hz, hTI, ⟨a, b, hTO⟩, st1, st2⟩ := ok
    exact ⟨hk _ _ hz, hk _ _ hTI, ⟨a, b, hk _ _ hTO⟩, (D1 {} rfl).frame _ _ _ st1 fun b _ o e => hk b o e, (D2 {} rfl).frame _ _ _ st2 fun b _ o e => hk b o e⟩
  there := fun h ok b hb => by
    obtain ⟨hz, hTI, ⟨a, c, hTO⟩, st1, st2⟩ := ok
    rcases List.mem_cons.mp hb with rfl | hb
    · exact ⟨_, hz⟩
    rcases List.mem_cons.mp hb with rfl | hb
    · exact ⟨_, hTI⟩
    rcases List.mem_cons.mp hb with rfl | hb
    · exact ⟨_, hTO⟩
    rcases List.mem_append.mp hb with hb | hb
    · exact k1 h st1 b hb
    · exact k2 h st2 b hb
  sub := fun b hb => by
    have m1 := S.mem1
    have m2 := S.mem2
    simp only [List.mem_cons, List.not_mem_nil, or_false, List.mem_append] at hb ⊢
    rcases hb with rfl | rfl | rfl | rfl
    · exact .inl rfl
    · exact .inr (.inr (.inl rfl))
    · exact .inr (.inr (.inr (.inl m1)))
    · exact .inr (.inr (.inr (.inr m2)))
  noKeys := fun A s Q E hA ok h => getAttrOr_miss_zip ok.1 rfl rfl rfl zip_no_keys (by decide +kernel) hA h
  iter := fun A s d Q E hA ok hd hdf h => by
    obtain ⟨hz, hTI, ⟨a, b, hTO⟩, st1, st2⟩ := ok
    simp only [List.mem_cons, List.mem_append, not_or] at hdf
    obtain ⟨dz, dTI, dTO, df1, df2⟩ := hdf
    have di1 : d ≠ i1 := fun e => df1 (by rw [e]; exact S.mem1)
    have di2 : d ≠ i2 := fun e => df2 (by rw [e]; exact S.mem2)
    have fr1 : ∀ {j h₁ h₂}, St1 j h₁ → (∀ b o, b ≠ d → h₁.get? b = some o → h₂.get? b = some o) → St1 j h₂ := fun {j h₁ h₂} st k => (D1 A hA).frame _ _ _ st fun b hb o e => k b o (fun q => df1 (by rw [← q]; exact hb)) e
    have fr2 : ∀ {j h₁ h₂}, St2 j h₁ → (∀ b o, b ≠ d → h₁.get? b = some o → h₂.get? b = some o) → St2 j h₂ := fun {j h₁ h₂} st k => (D2 A hA).frame _ _ _ st fun b hb o e => k b o (fun q => df2 (by rw [← q]; exact hb)) e
    refine wpAny_pyIter_zip hz (h z [z, TO, i1, i2] (fun i h => IsTupOf2 h TI (.ref i1) (.ref i2) ∧ St1 i h ∧ St2 i h ∧
      ((IsZip h z TI TO .none ∧ ∃ a b, IsTupOf2 h TO a b) ∨ ∃ T f oT, IsZipHeld h z TI TO T f ∧ h.get? T = some oT ∧ T ≠ z ∧ T ≠ i1 ∧ T ≠ i2 ∧ T ≠ d)) s.heap s.toks ?_
      ⟨hTI, st1, st2, .inl ⟨hz, a, b, hTO⟩⟩ (fun _ _ e => e) fun b hb => .inl hb)
    have hA1 : A.in1.handled = none := hA
    have d1 := D1 A.in1 hA1
    have d2 := D2 A.in1 hA1
    exact {
      off := fun hm => by
        simp only [List.mem_cons, List.not_mem_nil, or_false] at hm
        rcases hm with e | e | e | e
        · exact dz e
        · exact dTO e
        · exact di1 e
        · exact di2 e
      frame := fun i h₁ h₂ st hk => by
        obtain ⟨hTI, st1, st2, hz⟩ := st
        refine ⟨hk _ _ (Ne.symm dTI) hTI, fr1 st1 hk, fr2 st2 hk, ?_⟩
        rcases hz with ⟨hz, a, b, hTO⟩ | ⟨T, f, oT, hz, hT, r1, r2, r3, r4⟩
        · exact .inl ⟨hk _ _ (Ne.symm dz) hz, a, b, hk _ _ (Ne.symm dTO) hTO⟩
        · exact .inr ⟨T, f, oT, hk _ _ (Ne.symm dz) hz, hk _ _ r4 hT, r1, r2, r3, r4⟩
      item := fun i s₁ Q₁ E₁ hi st hds hQ => by
        obtain ⟨hTI, st1, st2, hz⟩ := st
        have lt : ∀ {c o}, s₁.heap.get? c = some o → s₁.heap.objs.size ≠ c := fun e => Nat.ne_of_gt (Heap.lt_size e)
        have n1 : s₁.heap.objs.size ≠ i1 := let ⟨_, e⟩ := d1.live _ _ st1; lt e
        have n2 : s₁.heap.objs.size ≠ i2 := let ⟨_, e⟩ := d2.live _ _ st2; lt e
        rcases hz with ⟨hz, a, b, hTO⟩ | ⟨T, f, oT, hz, hT, r1, r2, r3, r4⟩
        · refine wpAny_pyNext_zipD2_item S d1 d2 hz hTI hTO st1 st2 hi hi fun x y h' tk px py a1 a2 a3 a4 a5 a6 hk => ?_
          exact hQ s₁.heap.objs.size _ _ h' tk ⟨px, py⟩ (.inl ⟨_, a5, rfl, _, rfl⟩) ⟨hk _ _ S.TIz S.TITO S.TIi1 S.TIi2 hTI, a3, a4, .inr ⟨s₁.heap.objs.size, false, _, a1, a5, lt hz, n1, n2, Nat.ne_of_gt hds⟩⟩
            fun c o hc e => by
              simp only [List.mem_cons, List.not_mem_nil, or_false, not_or] at hc
              exact hk c o hc.1 hc.2.1 hc.2.2.1 hc.2.2.2 e
        · have hTy : s₁.TypeIs (.ref z) "zip" := ⟨_, hz, rfl⟩
          unfold pyNext
          refine wpAny_bind (wpAny_attempt (wpAny_callSpecial?_slot (name := Str.ofString "__next__") hTy F.slot_zip_next (wpAny_call_entry F.slot_zip_next hTy F.entry_zip_next
            (held_item S d1 d2 hz hT hTI st1 st2 hi hi fun x y h' tk px py a1 a3 a4 a5 hk => wpAny_pure ?_) (F.args_zip_next_1 _))))
          exact hQ s₁.heap.objs.size _ _ h' tk ⟨px, py⟩ (.inl ⟨_, a5, rfl, _, rfl⟩) ⟨hk _ _ S.TIz S.TIi1 S.TIi2 hTI, a3, a4, .inr ⟨T, true, oT, a1, hk _ _ r1 r2 r3 hT, r1, r2, r3, r4⟩⟩
            fun c o hc e => by
              simp only [List.mem_cons, List.not_mem_nil, or_false, not_or] at hc
              exact hk c o hc.1 hc.2.2.1 hc.2.2.2 e
      done := fun s₁ Q₁ E₁ st hQ => by
        obtain ⟨hTI, st1, st2, hz⟩ := st
        rcases hz with ⟨hz, a, b, hTO⟩ | ⟨T, f, oT, hz, hT, r1, r2, r3, r4⟩
        · exact wpAny_pyNext_zipD2_end S d1 d2 hz hTI hTO st1 st2 (Nat.le_refl _) (Nat.le_refl _) (.inl rfl) fun h' tk hk => hQ h' tk fun c o hc e => by
            simp only [List.mem_cons, List.not_mem_nil, or_false, not_or] at hc
            exact hk c o hc.1 hc.2.1 hc.2.2.1 hc.2.2.2 e
        · have hTy : s₁.TypeIs (.ref z) "zip" := ⟨_, hz, rfl⟩
          unfold pyNext
          refine wpAny_bind (wpAny_attempt (wpAny_callSpecial?_slot (name := Str.ofString "__next__") hTy F.slot_zip_next (wpAny_call_entry F.slot_zip_next hTy F.entry_zip_next
            (held_end S d1 hz hT hTI st1 fun h' e hk he => ?_) (F.args_zip_next_1 _))))
          obtain ⟨o, ho, hc⟩ := he
          refine wpAny_bind (wpAny_isInstance (T := "StopIteration") (b := true) ⟨o, ho, hc⟩ isSubtype_stop ?_)
          refine wpAny_pure (hQ h' _ fun c o hc e => ?_)
          simp only [List.mem_cons, List.not_mem_nil, or_false, not_or] at hc
          exact hk c o hc.1 hc.2.2.1 hc.2.2.2 e }
/-- dict(zip(xs, t)) at the library's level: the zip is let go -/
theorem call_zip_dict {A : Around} {E : Value → Shared → Prop} {s : Shared} {l t : Addr} {xs ys : Array Value} {kvs : List (Key × Value)} {Q : Value → Shared → Prop} (hh : A.handled = none) (hx : s.heap.IsList l xs) (hy : s.heap.IsTuple t ys) (hn : xs.size = ys.size) (hz : xs.size ≤ sizeLine)
    (hk : PairsHave (mixKind prog w) xs.size (fun i k v => xs[i]? = some k ∧ ys[i]? = some v) kvs)
    (h : ∀ d h' tk, h'.DictOf (mixKind prog w) d (merged [] kvs) → s.heap.objs.size ≤ d → (∀ b o, s.heap.get? b = some o → h'.get? b = some o) → Q (.ref d) { s with heap := h', toks := tk }) :
    wpAny (model prog w) A (call (.type "zip") [.ref l, .ref t]) (fun v s₁ => wpAny (model prog w) A (call (.type "dict") [v]) Q E s₁) E s := by
  refine zip_begins2 (begins_list l xs) (begins_tuple t ys) hx hy fun h1 a1 a2 a3 a4 a5 a6 a7 => ?_
  have hl : l < s.heap.objs.size := let ⟨_, e, _⟩ := hx; Heap.lt_size e
  have ht : t < s.heap.objs.size := let ⟨_, e, _⟩ := hy; Heap.lt_size e
  have S := zip_sep2 (N := s.heap.objs.size) (fp1 := [l]) (fp2 := [t]) (fun b hb => by rw [List.mem_singleton.mp hb]; exact hl) (fun b hb => by rw [List.mem_singleton.mp hb]; exact ht)
  have nl : l ≠ s.heap.objs.size := Nat.ne_of_lt hl
  have nt : t ≠ s.heap.objs.size + 1 := Nat.ne_of_lt (Nat.lt_succ_of_lt ht)
  have P := zipArg (prog := prog) (w := w) (n := xs.size) (s.heap.objs.size + 4) (s.heap.objs.size + 2) (s.heap.objs.size + 3) s.heap.objs.size (s.heap.objs.size + 1) S (fun A hA => Draws.list hA s.heap.objs.size l nl xs) (fun A hA => by rw [hn]; exact Draws.tuple hA (s.heap.objs.size + 1) t nt ys)
    (fun h st b hb => by
      obtain ⟨⟨o1, e1, _⟩, ⟨o2, e2, _⟩⟩ := st
      rcases List.mem_cons.mp hb with rfl | hb
      · exact ⟨_, e1⟩
      · rw [List.mem_singleton.mp hb]
        exact ⟨_, e2⟩)
    (fun h st b hb => by
      obtain ⟨⟨o1, e1, _⟩, ⟨o2, e2, _⟩⟩ := st
      rcases List.mem_cons.mp hb with rfl | hb
      · exact ⟨_, e1⟩
      · rw [List.mem_singleton.mp hb]
        exact ⟨_, e2⟩)
  refine PySem.call_dict_pairs (knd := mixKind prog w) (kvs := kvs) P hh ⟨a1, a2, ⟨_, _, a3⟩, ⟨⟨_, a4, rfl, rfl⟩, hx.at fun o e => a7 _ _ e⟩, ⟨⟨_, a5, rfl, rfl⟩, hy.at fun o e => a7 _ _ e⟩⟩ hk hz fun h' tk hd k => ?_
  refine h _ h' tk hd (by show s.heap.objs.size ≤ h1.objs.size; omega) fun b o e => k b o (fun hm => ?_) (a7 _ _ e)
  have hb := Heap.lt_size e
  simp only [List.mem_cons, List.not_mem_nil, or_false] at hm
  rcases hm with e | e | e | e <;> (rw [e] at hb; exact absurd hb (Nat.not_lt.mpr (by first | exact Nat.le_refl _ | exact Nat.le_add_right _ _)))
end
/-- dict(zip(a, b)): a a list of keys, b a tuple -/
def tZipD (K : PySem.W.Frag) (t : TA) : TE := fun σ H Q => t σ H fun vs H1 => ∃ (l q : Addr) (ks : List Key) (ws : List V), vs = [.ref l, .ref q] ∧ SqL K H1 l (ks.map kV) ∧ SqT K H1 q ws ∧ ks.length = ws.length ∧ ∀ d, H1 d = none → Q (.ref d) (upd H1 d (.dK (mergeK [] (ks.zip ws))))
section
variable {X : Cx} {a b : Expr} {t : TA} {p p' pos pos' : Pos}
theorem key_is {k : Key} {u : Value} (r : L2.RelV (kV k) u) : keyIs k u = true := by
  cases k with
  | inl i =>
    obtain ⟨t, rfl⟩ := (show ∃ t, u = Value.int i t from r)
    first | rfl | simp [keyIs, Value.isInt]
  | inr x =>
    obtain ⟨t, rfl⟩ := (show ∃ t, u = Value.str x t from r)
    simp [keyIs, Value.isStrOf]
theorem pairs_zip {P : Program} {w : World} : ∀ {ks : List Key} {ws : List V} {us vs : List Value}, ks.length = ws.length → Vals (ks.map kV) us → Vals ws vs → ∃ kvs : List (Key × Value), KV (ks.zip ws) kvs ∧ kvs.length = ks.length ∧ ∀ (i : Nat) (k v : Value), us[i]? = some k → vs[i]? = some v → ∃ q, kvs[i]? = some (q, v) ∧ (mixKind P w).is q k = true
  | [], [], _, _, _, .nil, .nil => ⟨[], .nil, rfl, fun i k v h => by simp at h⟩
  | k :: ks, x :: ws, _, _, h, .cons ru ru', .cons rv rv' => by
    obtain ⟨kvs, h1, h2, h3⟩ := pairs_zip (P := P) (w := w) (ks := ks) (ws := ws) (by simpa using h) ru' rv'
    rename_i u us v vs
    refine ⟨(k, v) :: kvs, .cons ⟨rfl, rv⟩ h1, by simp [h2], fun i k' v' e1 e2 => ?_⟩
    cases i with
    | zero =>
      simp only [List.getElem?_cons_zero, Option.some.injEq] at e1 e2
      subst e1 e2
      exact ⟨k, rfl, key_is ru⟩
    | succ i =>
      simp only [List.getElem?_cons_succ] at e1 e2
      exact h3 i k' v' e1 e2
theorem pe_zipD (hc : X.calm = true) (gd : Gl X "dict") (gz : Gl X "zip") (md : X.mg "dict" = none) (mz : X.mg "zip" = none) (ha : PA X [a, b] t) (he : starEach [a, b] X.env = (false, eval a X.env) :: starEach [b] X.env := by rfl)
    (hpl : (backTo pos' (starEach [b] X.env)).any (·.1) = false := by rfl)
    (he1 : starEach [.Call (.Name "zip" p') [a, b] [] pos'] X.env = (false, eval (.Call (.Name "zip" p') [a, b] [] pos') X.env) :: starEach [] X.env := by rfl) :
    PE X (.Call (.Name "dict" p) [.Call (.Name "zip" p') [a, b] [] pos'] [] pos) (tZipD X.K t) := by
  refine ⟨fun pins s σ H Q I h => ?_⟩
  refine wpAny_Call_Name_kw (ld_blt I gd md PyProof.Rows.boot_dict ?_)
  refine PyProof.Rows.callWith_type1 ?_ he1
  refine args_cons ?_ he1
  refine wpAny_Call_Name_kw (ld_blt I gz mz PyProof.Rows.boot_zip ?_)
  refine PyProof.Rows.callWith_type1 (thn (ha.run pos' pins s σ H _ I h) fun us s1 ⟨vs, H1, I1, r1, q1⟩ => ?_) he hpl
  obtain ⟨l, q, ks, ws, ev, hl, hq, hn, k⟩ := q1
  subst ev
  obtain ⟨u1, us1, rfl⟩ : ∃ u us', us = u :: us' := by cases r1; exact ⟨_, _, rfl⟩
  have hu1 : u1 = Value.ref l := by cases r1 with | cons x _ => exact x
  have hu2 : us1 = [Value.ref q] := by
    cases r1 with
    | cons _ y =>
      obtain ⟨u, e, r⟩ := vals1 y
      rw [e, show u = Value.ref q from r]
  subst hu1 hu2
  obtain ⟨its, rl, pl, hz⟩ := I1.list hl
  obtain ⟨its2, rq, pq, hz2⟩ := I1.tuple hq
  obtain ⟨kvs, kv, kl, kp⟩ := pairs_zip (P := X.prog) (w := X.w) hn rl rq
  have e1 := rl.length
  have e2 := rq.length
  rw [List.length_map] at e1
  refine wpAny_mono (call_zip_dict (Q := EP X pins σ Q) (E := X.xe) (I1.ok.hd hc) pl.isList pq (by simp; omega) (by simp; rw [List.length_map] at hz; omega) (kvs := kvs) ⟨by simp; omega, fun i k v ⟨x, y⟩ => kp i k v (by simpa using x) (by simpa using y)⟩ fun d h' tk hd hdd hk => ?_) (fun v s2 h2 => args_nil h2) (fun _ _ z => z)
  have hlen : (mergeK [] (ks.zip ws)).length ≤ sizeLine := by
    refine Nat.le_trans (length_mergeK _ []) ?_
    rw [List.length_nil, Nat.zero_add, List.length_zip]
    rw [List.length_map] at hz
    omega
  have hm : (d == sysModules) = false := beq_eq_false_iff_ne.mpr (Nat.ne_of_gt (Nat.lt_of_lt_of_le I1.big hdd))
  exact ⟨.ref d, upd H1 d (.dK (mergeK [] (ks.zip ws))), I1.laid (t' := tk) hk hdd (show ObjOk X.prog X.w _ _ _ (.dK (mergeK [] (ks.zip ws))) from ⟨hlen, hm, merged [] kvs, KV.merge kv .nil, hd⟩), rfl, k d (I1.hok.fresh hdd)⟩
end
end K5
set_option Elab.async false
set_option linter.all false
set_option maxRecDepth 100000
set_option maxHeartbeats 4000000
/-! (a, b, c) == (d, e, f): equal item by item, dicts among them. -/
namespace K5
open PySem PySem.Spec PyProof.Rows L2
section
variable {prog : Program} {w : World}
theorem tupEq_all (l b : Addr) (items items2 : Array Value) (n n2 : Nat) (dd dd2 : Option Addr) (sl sl2 : Array (Option Value)) (hsz : items.size = items2.size) :
    MeetsIn prog w (Builtin.«tuple.__eq__» ⟨[.ref l, .ref b], []⟩)
      (fun A R s => s.heap.get? l = some { cls := .type "tuple", dict := dd, data := .seq items n, slots := sl } ∧ s.heap.get? b = some { cls := .type "tuple", dict := dd2, data := .seq items2 n2, slots := sl2 } ∧
        (∀ j (h1 : j < items.size) (h2 : j < items2.size), SeqAt.EqP prog w A.in1 s items[j] items2[j] true) ∧ R (.ok (.ret (.bool true))) s) :=
  .of_wp fun A R s h => by
    obtain ⟨hp, g, d, tk, os⟩ := s
    obtain ⟨hl, hb, he, h⟩ := h
    have f2 := AutoSeq1.sub_tuple_tuple
    have hZ : (items.toList.zip items2.toList).length = items.size := by simp [hsz]
    wp_walk using wpAny_loadPart' hl, wpAny_loadPart' hb, wpAny_forIn_list _ (fun rest q s' => q.1 = none ∧ s' = ⟨hp, g, d, tk, os⟩ ∧ ∃ i, rest = (items.toList.zip items2.toList).drop i) _
    case turn =>
      rintro ⟨y, x⟩ rest q s' ⟨hq, rfl, i, hz⟩
      have hlt : i < (items.toList.zip items2.toList).length := Nat.lt_of_not_le fun hge => by
        rw [List.drop_of_length_le hge] at hz
        cases hz
      rw [List.drop_eq_getElem_cons hlt] at hz
      injection hz with hyx hrest
      have h1 : i < items.size := hZ ▸ hlt
      have h2 : i < items2.size := hsz ▸ h1
      have hy : y = items[i] := by simpa using congrArg Prod.fst hyx
      have hx : x = items2[i] := by simpa using congrArg Prod.snd hyx
      subst hy hx
      refine wpAny_bind (he i h1 h2 _ _ ?_)
      wp_walk
      exact ⟨rfl, rfl, i + 1, hrest⟩
    case fin =>
      rintro ⟨q1, q2⟩ s' ⟨hq, rfl, i, hz⟩
      simp only at hq
      subst hq
      wp_walk
      exact ⟨_, rfl, by simpa [Builtin.Tuple.tupleCompareSizes, hsz] using h⟩
    case h =>
      exact ⟨rfl, rfl, 0, rfl⟩
theorem rcP_tuples {A : Around} {s : Shared} {l b : Addr} {items items2 : Array Value} (hl : s.heap.IsTuple l items) (hb : s.heap.IsTuple b items2) (hsz : items.size = items2.size) (hu : A.units < cLine)
    (he : ∀ j (h1 : j < items.size) (h2 : j < items2.size), SeqAt.EqP prog w A.in1 s items[j] items2[j] true) (E Q : Value → Shared → Prop) (h : Q (.bool true) s) : wpAny (model prog w) A (richCompare .Eq (.ref l) (.ref b)) Q E s := by
  obtain ⟨⟨c1, d1, dt1, s1⟩, ho, hc, n, hd⟩ := id hl
  obtain ⟨⟨c2, d2, dt2, s2⟩, ho2, hc2, n2, hd2⟩ := id hb
  simp only at hc hd hc2 hd2
  subst hc hd hc2 hd2
  have ta : s.TypeIs (.ref l) "tuple" := ⟨_, ho, rfl⟩
  have tb : s.TypeIs (.ref b) "tuple" := ⟨_, ho2, rfl⟩
  exact wpAny_richCompare_same_room (op := .Eq) ta tb F.slot_tuple_eq (call_meetsIn F.slot_tuple_eq ta F.entry_tuple_eq (F.args_tuple_eq_2 _ _) (tupEq_all l b items items2 n n2 d1 d2 s1 s2 hsz)
    ⟨ho, ho2, he, show Value.bool true ≠ Value.notImplemented ∧ Q (.bool true) s from ⟨(fun x => nomatch x), h⟩⟩) hu
end
/-- two tuples of an int, data and a dict, the same -/
def rEqT (K : PySem.W.Frag) : R2 := fun x y H Q => ∃ (a b : Addr) (i : Int) (v1 v2 : V) (e1 e2 : PyData) (d1 d2 : Addr) (ks : List (Key × V)), x = .ref a ∧ y = .ref b ∧ SqT K H a [.int i, v1, .ref d1] ∧ SqT K H b [.int i, v2, .ref d2] ∧
  Dp K H v1 e1 ∧ Dp K H v2 e2 ∧ e1.plain = true ∧ e2.plain = true ∧ e1.depth ≤ 64 ∧ PyData.eqv e1 e2 = true ∧ H d1 = some (.dK ks) ∧ H d2 = some (.dK ks) ∧ (ks.map (·.1)).Nodup ∧ (∀ p ∈ ks, flatB p.2 = true) ∧ Q (.bl true) H
section
variable {X : Cx}
theorem valV_mem : ∀ {ks : List (Key × V)}, (ks.map (·.1)).Nodup → ∀ p ∈ ks, valV ks p.1 = some p.2
  | [], _, p, h => by cases h
  | q :: r, nd, p, h => by
    rw [List.map_cons, List.nodup_cons] at nd
    unfold valV
    rw [List.find?_cons]
    rcases List.mem_cons.mp h with rfl | h
    · simp
    · have hne : q.1 ≠ p.1 := fun e => nd.1 (by rw [e]; exact List.mem_map_of_mem h)
      rw [decide_eq_false hne]
      exact valV_mem nd.2 p h
theorem op_eqT (hu : X.A.units + 80 < cLine) : OpR X (compareOp .Eq) (rEqT X.K) := by
  intro pins s σ H x y v u Q I rx ry h
  obtain ⟨a, b, i, v1, v2, e1, e2, d1, d2, ks, rfl, rfl, ha, hb, p1, p2, q1, q2, dp, eq, hd1, hd2, nd, fl, k⟩ := h
  cases (show v = Value.ref a from rx)
  cases (show u = Value.ref b from ry)
  obtain ⟨us, r1, t1, _⟩ := I.tuple ha
  obtain ⟨ws, r2, t2, _⟩ := I.tuple hb
  cases r1 with
  | cons a1 r1 =>
    cases r1 with
    | cons a2 r1 =>
      cases r1 with
      | cons a3 r1 =>
        cases r1
        cases r2 with
        | cons b1 r2 =>
          cases r2 with
          | cons b2 r2 =>
            cases r2 with
            | cons b3 r2 =>
              cases r2
              rename_i x1 x2 x3 y1 y2 y3
              obtain ⟨as, z1⟩ := Dp.reads I e1 v1 _ p1 a2
              obtain ⟨bs, z2⟩ := Dp.reads I e2 v2 _ p2 b2
              have c1 : SeqAt.EqP X.prog X.w X.A.in1 s x1 y1 true := (eqAt_same a1 b1 rfl).eqP
              have c2 : SeqAt.EqP X.prog X.w X.A.in1 s x2 y2 true := by
                have := SeqAt.eqAt_plain e1 e2 X.A.in1 s _ _ as bs z1 z2 q1 q2 (by show X.A.units + 1 + min e1.depth e2.depth < cLine; omega)
                rw [eq] at this
                exact this.eqP
              have c3 : SeqAt.EqP X.prog X.w X.A.in1 s x3 y3 true := by
                cases (show x3 = Value.ref d1 from a3)
                cases (show y3 = Value.ref d2 from b3)
                by_cases e : d1 = d2
                · subst e
                  exact (SeqAt.EqAt.same _).eqP
                · refine SeqAt.eqP_refs e fun E' Q' q' => ?_
                  exact eqR_run I (A := X.A.in1) (F := fun x y => x = y ∧ flatB x = true) (by show X.A.units + 1 < cLine; omega) (fun x y v u h rx ry => by
                    obtain ⟨rfl, f⟩ := h
                    exact (eqAt_same rx ry f).eqP) (.inr ⟨d1, d2, ks, ks, rfl, rfl, hd1, hd2, rfl, fun p hp => ⟨p.2, valV_mem nd p hp, rfl, fl p hp⟩⟩) rfl rfl E' Q' q'
              refine rcP_tuples t1 t2 rfl (by omega) (fun j h1 h2 => ?_) _ _ ⟨.bl true, H, I, rfl, k⟩
              match j, h1, h2 with
              | 0, _, _ => exact c1
              | 1, _, _ => exact c2
              | 2, _, _ => exact c3
end
end K5
set_option Elab.async false
set_option linter.all false
set_option maxRecDepth 100000
set_option maxHeartbeats 4000000
namespace K5
open PySem PySem.Spec PyProof.Rows L2
variable {P : Program} {w : World} {K : PySem.W.Frag} {mg : Str → Option Value} {base : Heap}
/-! ### rules, len, ==, check_hall -/
def HallAt (K : PySem.W.Frag) (H : Hp) (v : V) (h : HallD) : Prop := ∃ (p dx : Addr) (t : V), v = .ref p ∧ H p = some (.ins (cHall K) dx (hallF h.events t h.heads)) ∧ KindsAt H t h.kinds ∧ HallOk h
theorem HallAt.mono {H H' : Hp} {v : V} {h : HallD} (s : Same H H') (x : HallAt K H v h) : HallAt K H' v h := by
  obtain ⟨p, dx, t, e, h1, h2, h3⟩ := x
  exact ⟨p, dx, t, e, s _ _ h1, h2.mono (Kt.of s), h3⟩
theorem HallAt.but {D : Addr} {H H' : Hp} {ys : List V} {v : V} {h : HallD} (s : But D H H') (hD : H D = some (.lst ys)) (x : HallAt K H v h) : HallAt K H' v h := by
  obtain ⟨p, dx, t, e, h1, h2, h3⟩ := x
  exact ⟨p, dx, t, e, s _ _ (ne_of h1 hD (by intro z; cases z)) h1, h2.mono (s.kt hD), h3⟩
theorem scRules : FnScope ["self", "values"] ["self"] (defScope sHallRules) := ⟨rfl, rfl, rfl, by decide +kernel, rfl, by decide +kernel, by decide +kernel⟩
theorem scLen : FnScope ["self"] ["self"] (defScope sHallLen) := ⟨rfl, rfl, rfl, by decide +kernel, rfl, by decide +kernel, by decide +kernel⟩
theorem scEq : FnScope ["self", "other"] ["self", "other"] (defScope sHallEq) := ⟨rfl, rfl, rfl, by decide +kernel, rfl, by decide +kernel, by decide +kernel⟩
theorem scCheckHall : FnScope ["hall"] ["hall"] (defScope sCheckHall) := ⟨rfl, rfl, rfl, by decide +kernel, rfl, by decide +kernel, by decide +kernel⟩
def spRules (K : PySem.W.Frag) : Sp := fun vs H Q _ => ∃ (v : V) (h : HallD), vs = [v] ∧ HallAt K H v h ∧ ∀ H' d, Same H H' → H d = none → H' d = some (.dK (kvsOf h.heads)) → Q (.ref d) H'
def spLen (K : PySem.W.Frag) : Sp := fun vs H Q _ => ∃ (v : V) (h : HallD), vs = [v] ∧ HallAt K H v h ∧ Q (.int (h.kinds.length : Nat)) H
def spCheckHall (K : PySem.W.Frag) : Sp := fun vs H Q _ => ∃ (v : V) (h : HallD), vs = [v] ∧ HallAt K H v h ∧ Q .non H
theorem cl_checkHall (T : Txt w K mg) : Cl P w K mg base CX0 1 "check_hall" (spCheckHall K) := by
  refine cl_def T (i := 18) (j := 9) rfl (by decide +kernel) scCheckHall (fun _ _ _ _ _ _ us hl => match us, hl with | [_], _ => rfl) (fun vs H Q E h => ?_) (fun cdv A outer s H vs Q E hr h => ?_)
  · obtain ⟨v, h, rfl, _⟩ := h
    rfl
  · obtain ⟨v, h, rfl, ⟨p, dx, t, rfl, hp, hk, ok⟩, k⟩ := h
    refine ⟨_, (pss_one (ps_if (pt_not (pt_val (pe_callB (C8.call_isC T.ins) (by rfl) (fr T "isinstance") PyProof.Rows.boot_isinstance (pa_cons (pv 0) (pa_cons (pGlo T (by decide +kernel) rfl) pa_nil))))) (pss_one ps_never) pss_nil)), ?_⟩
    refine ⟨_, rfl, _, _, _, rfl, hp, _, rfl, ?_⟩
    exact iteF k
theorem fn_rules (T : Txt w K mg) : ∃ fd, FunD K "rules" "Hall.rules" (defArgs sHallRules) (defBody sHallRules) (defScope sHallRules) [] (([] : List (Str × He.Dv)).map fun p => (p.1, p.2.v K)) (He.ma K (cHall K) "rules") fd ∧ FnOk P w K mg base CX0 1 (He.ma K (cHall K) "rules") fd ["self"] (spRules K) := by
  refine fn_meth T (i := 1) (j := 6) rfl scRules (fun vs H Q E h => ?_) (fun cdv A outer s H vs Q E hr h => ?_)
  · obtain ⟨v, h, rfl, _⟩ := h
    rfl
  · obtain ⟨v, ⟨ev, ks, hs⟩, rfl, ⟨p, dx, t, rfl, hp, hk, ok⟩, k⟩ := h
    obtain ⟨a, b, c, d, e, f, g, rfl⟩ := seven ok.hd.1
    have hsz : ruleNames.length ≤ sizeLine := by decide +kernel
    have body : ∃ t, PSs (cxOf CX0 P w K mg base ["self", "values"] "Hall.rules" (defScope sHallRules) (He.ma K (cHall K) "rules") cdv A outer s H E).nox (defBody sHallRules) t ∧ t { nx := fun _ H' => Q .non H', rt := Q } (start ["self", "values"] [.ref p]) H := by
      refine ⟨_, (pss_cons (ps_set (i := 1) scRules.nd rfl (by first | exact Or.inl rfl | exact Or.inr rfl) (pe_tup (pa_cons (pe_fld (pv 0) rfl) (pa_cons (pe_fld (pv 0) rfl) (pa_cons (pe_fld (pv 0) rfl) (pa_cons (pe_fld (pv 0) rfl) (pa_cons (pe_fld (pv 0) rfl) (pa_cons (pe_fld (pv 0) rfl) (pa_cons (pe_fld (pv 0) rfl) pa_nil)))))))))
      (pss_one (ps_ret (pe_zipD rfl rfl rfl (fr T "dict") (fr T "zip") (pa_cons (pe_callTy (call_list_tab rfl T.rk nodup_rules hsz) (by rfl) (fr T "list") PyProof.Rows.boot_list (pa_cons (pGlo T (by decide +kernel) rfl) pa_nil)) (pa_cons (pv 1) pa_nil)))))), ?_⟩
      refine ⟨_, rfl, _, _, _, _, _, rfl, hp, T.cl, T.na "walk" (by decide +kernel), rfl, _, rfl, _, _, _, _, _, rfl, hp, T.cl, T.na "check" (by decide +kernel), rfl, _, rfl, _, _, _, _, _, rfl, hp, T.cl, T.na "errors" (by decide +kernel), rfl, _, rfl, _, _, _, _, _, rfl, hp, T.cl, T.na "once" (by decide +kernel), rfl, _, rfl, _, _, _, _, _, rfl, hp, T.cl, T.na "same" (by decide +kernel), rfl, _, rfl, _, _, _, _, _, rfl, hp, T.cl, T.na "put" (by decide +kernel), rfl, _, rfl, _, _, _, _, _, rfl, hp, T.cl, T.na "nest" (by decide +kernel), rfl, (by show 7 ≤ sizeLine; decide), fun q hq => ?_⟩
      refine ⟨rfl, fun l hl => ?_⟩
      have s1 : Same H (upd H q (.tup (rvs [a, b, c, d, e, f, g]))) := Same.new hq
      refine ⟨_, rfl, l, q, names.map Sum.inr, rvs [a, b, c, d, e, f, g], rfl, SqL.of upd_same, SqT.of (Same.new hl _ _ upd_same), rfl, fun d' hd' => ?_⟩
      refine k _ _ ((s1.trans (Same.new hl)).trans (Same.new hd')) (Same.none (s1.trans (Same.new hl)) hd') ?_
      rw [upd_same]
      rfl
    obtain ⟨t1, b1, b2⟩ := body
    exact ⟨t1, b1.nox, b2⟩
theorem fn_len (T : Txt w K mg) : ∃ fd, FunD K "__len__" "Hall.__len__" (defArgs sHallLen) (defBody sHallLen) (defScope sHallLen) [] (([] : List (Str × He.Dv)).map fun p => (p.1, p.2.v K)) (He.ma K (cHall K) "__len__") fd ∧ FnOk P w K mg base CX0 1 (He.ma K (cHall K) "__len__") fd ["self"] (spLen K) := by
  refine fn_meth T (i := 2) (j := 7) rfl scLen (fun vs H Q E h => ?_) (fun cdv A outer s H vs Q E hr h => ?_)
  · obtain ⟨v, h, rfl, _⟩ := h
    rfl
  · obtain ⟨v, ⟨ev, ks, hs⟩, rfl, ⟨p, dx, t, rfl, hp, ⟨pt, vs, rfl, ht, pr⟩, ok⟩, k⟩ := h
    have body : ∃ t, PSs (cxOf CX0 P w K mg base ["self"] "Hall.__len__" (defScope sHallLen) (He.ma K (cHall K) "__len__") cdv A outer s H E).nox (defBody sHallLen) t ∧ t { nx := fun _ H' => Q .non H', rt := Q } (start ["self"] [.ref p]) H := by
      refine ⟨_, (pss_one (ps_ret (pe_callB call_len_seq (by rfl) (fr T "len") boot_len (pa_cons (pe_fld (pv 0) rfl) pa_nil)))), ?_⟩
      refine ⟨_, rfl, _, _, _, _, _, rfl, hp, T.cl, T.na "kinds" (by decide +kernel), rfl, _, _, rfl, .inr (SqT.of ht), ?_⟩
      refine qe (Q := Q) ?_ k
      rw [Paired.length pr]
    obtain ⟨t1, b1, b2⟩ := body
    exact ⟨t1, b1.nox, b2⟩
/-! ### == -/
theorem hu_eqT {A : Around} {k : Nat} (hr : Room k A) : A.units + 80 < cLine := by
  have := hr.un
  omega

def eqRel (K : PySem.W.Frag) : Addr → Addr → Hp → Prop := fun a b H => ∃ h : HallD, HallAt K H (.ref a) h ∧ HallAt K H (.ref b) h
theorem kvs_nodup (a b c d e f g : Str) : ((kvsOf [a, b, c, d, e, f, g]).map (·.1)).Nodup := by
  show (names.map (Sum.inr : Str → Key)).Nodup
  decide +kernel
theorem rv_flat (j : Nat) (v : Str) : flatB (rv j v) = true := by
  unfold rv
  by_cases h : j = 1
  · rw [if_pos h]; rfl
  · rw [if_neg h]; rfl
theorem kvs_flat (a b c d e f g : Str) : ∀ p ∈ kvsOf [a, b, c, d, e, f, g], flatB p.2 = true := by
  intro p hp
  simp only [kvsOf, List.mem_cons, List.not_mem_nil, or_false] at hp
  rcases hp with rfl | rfl | rfl | rfl | rfl | rfl | rfl
  · exact rv_flat 0 a
  · exact rv_flat 1 b
  · exact rv_flat 2 c
  · exact rv_flat 3 d
  · exact rv_flat 4 e
  · exact rv_flat 5 f
  · exact rv_flat 6 g
theorem fn_eq (T : Txt w K mg) : ∃ fd, FunD K "__eq__" "Hall.__eq__" (defArgs sHallEq) (defBody sHallEq) (defScope sHallEq) [] (([] : List (Str × He.Dv)).map fun p => (p.1, p.2.v K)) (He.ma K (cHall K) "__eq__") fd ∧ FnOk P w K mg base CX0 2 (He.ma K (cHall K) "__eq__") fd ["self", "other"] (spEq (eqRel K)) := by
  obtain ⟨fr', FR, R⟩ := fn_rules (P := P) (base := base) T
  have bR : Binds K fr' ["self"] [] := FR.bindsN (fun _ _ _ _ _ _ us hl => match us, hl with | [_], _ => rfl)
  refine fn_meth T (i := 5) (j := 8) rfl scEq (fun vs H Q E h => ?_) (fun cdv A outer s H vs Q E hr h => ?_)
  · obtain ⟨a, b, rfl, _⟩ := h
    rfl
  · obtain ⟨p1, p2, rfl, ⟨⟨ev, ks, hs⟩, ⟨q1, dx1, t1, e1, hp1, hk1, ok⟩, ⟨q2, dx2, t2, e2, hp2, hk2, _⟩⟩, k⟩ := h
    cases e1
    cases e2
    obtain ⟨a, b, c, d, e, f, g, rfl⟩ := seven ok.hd.1
    have body : ∃ t, PSs (cxOf CX0 P w K mg base ["self", "other"] "Hall.__eq__" (defScope sHallEq) (He.ma K (cHall K) "__eq__") cdv A outer s H E).nox (defBody sHallEq) t ∧ t { nx := fun _ H' => Q .non H', rt := Q } (start ["self", "other"] [.ref p1, .ref p2]) H := by
      refine ⟨_, (pss_cons (ps_if (pt_not (pt_val (pe_callB (C8.call_isC T.ins) (by rfl) (fr T "isinstance") PyProof.Rows.boot_isinstance (pa_cons (pv 1) (pa_cons (pGlo T (by decide +kernel) rfl) pa_nil))))) (pss_one (ps_ret pe_bl)) pss_nil)
      (pss_one (ps_ret (pe_cmpR (op_eqT (hu_eqT hr)) (pe_tup (pa_cons (pe_fld (pv 0) rfl) (pa_cons (pe_fld (pv 0) rfl) (pa_cons (pe_meth0 (pv 0) T.cl T.mRules R hr bR .nil pass0) pa_nil)))) (pe_tup (pa_cons (pe_fld (pv 1) rfl) (pa_cons (pe_fld (pv 1) rfl) (pa_cons (pe_meth0 (pv 1) T.cl T.mRules R hr bR .nil pass0) pa_nil)))) (nomark _))))), ?_⟩
      refine ⟨_, rfl, _, _, _, rfl, hp2, _, rfl, ?_⟩
      refine iteF ?_
      have A1 : HallAt K H (.ref p1) ⟨ev, ks, [a, b, c, d, e, f, g]⟩ := ⟨p1, dx1, t1, rfl, hp1, hk1, ok⟩
      have A2 : HallAt K H (.ref p2) ⟨ev, ks, [a, b, c, d, e, f, g]⟩ := ⟨p2, dx2, t2, rfl, hp2, hk2, ok⟩
      refine ⟨_, rfl, _, _, _, _, _, rfl, hp1, T.cl, T.na "events" (by decide +kernel), rfl, _, rfl, _, _, _, _, _, rfl, hp1, T.cl, T.na "kinds" (by decide +kernel), rfl, _, rfl, _, _, _, rfl, hp1, rfl, _, _, rfl, A1, fun H1 d1 s1 n1 hd1 => ?_⟩
      refine ⟨(by show 3 ≤ sizeLine; decide), fun u1 hu1 => ?_⟩
      have s2 : Same H (upd H1 u1 (.tup [.int ev, t1, .ref d1])) := Same.new' s1 hu1
      refine ⟨_, rfl, _, _, _, _, _, rfl, s2 _ _ hp2, T.cl, T.na "events" (by decide +kernel), rfl, _, rfl, _, _, _, _, _, rfl, s2 _ _ hp2, T.cl, T.na "kinds" (by decide +kernel), rfl, _, rfl, _, _, _, rfl, s2 _ _ hp2, rfl, _, _, rfl, A2.mono s2, fun H3 d2 s3 n3 hd2 => ?_⟩
      refine ⟨(by show 3 ≤ sizeLine; decide), fun u2 hu2 => ?_⟩
      have s4 : Same (upd H1 u1 (.tup [.int ev, t1, .ref d1])) (upd H3 u2 (.tup [.int ev, t2, .ref d2])) := Same.new' s3 hu2
      have sA := s2.trans s4
      refine ⟨u1, u2, ev, t1, t2, kindsD ks, kindsD ks, d1, d2, kvsOf [a, b, c, d, e, f, g], rfl, rfl, SqT.of (s4 _ _ upd_same), SqT.of upd_same, kindsDp (hk1.mono (Kt.of sA)), kindsDp (hk2.mono (Kt.of sA)), kindsD_plain ks, kindsD_plain ks, kindsD_depth ks, SeqAt.eqv_refl_plain _ (kindsD_plain ks), ?_, Same.new hu2 _ _ hd2, kvs_nodup a b c d e f g, kvs_flat a b c d e f g, ?_⟩
      · exact s4 _ _ (Same.new hu1 _ _ hd1)
      · exact k _ sA
    obtain ⟨t1, b1, b2⟩ := body
    exact ⟨t1, b1.nox, b2⟩
/-! ### hall != hall: the same -/
def rNeHall (K : PySem.W.Frag) : R2 := fun x y H Q => ∃ a b, x = .ref a ∧ y = .ref b ∧ eqRel K a b H ∧ ∀ H', Same H H' → Q (.bl false) H'
theorem op_neHall {X : Cx} {k : Nat} {CX : CXT} {fd : FuncData} {ps : List Str} {E : XK} (T : Txt X.w X.K X.mg) (FE : FnOk X.prog X.w X.K X.mg X.base CX k (He.ma X.K (cHall X.K) "__eq__") fd ps (spEq (eqRel X.K))) (hb : Binds X.K fd ps []) (hx : Passes CX X E) (hr : Room (k + 1) X.A) : OpR X (compareOp .NotEq) (rNeHall X.K) := by
  intro pins s σ H x y v u Q I rx ry h
  obtain ⟨a, b, rfl, rfl, er, q⟩ := h
  cases (show v = Value.ref a from rx)
  cases (show u = Value.ref b from ry)
  obtain ⟨hd, ⟨p1, dx1, t1, e1, hp1, hk1, ok⟩, ⟨p2, dx2, t2, e2, hp2, hk2, _⟩⟩ := id er
  cases e1
  cases e2
  obtain ⟨mA, J, _⟩ := ins_get I.hok hp1
  obtain ⟨mB, J', _⟩ := ins_get I.hok hp2
  obtain ⟨nm, q0, N, bs, hdct, sn, sub, ab, col, dd, k0, k1, k2, k3, k5, oc, od, es, n, osl, lC, lN, sk, fe, fn⟩ := T.ne
  obtain ⟨of, hof, hofc⟩ : ∃ of, s.heap.get? (He.ma X.K (cHall X.K) "__eq__") = some of ∧ of.cls = .type "function" := by
    have ht : (X.K.lookup (He.ma X.K (cHall X.K) "__eq__")).map (·.cls) = some (.type "function") := beq_iff_eq.mp T.mEq.fn
    cases z : X.K.lookup (He.ma X.K (cHall X.K) "__eq__") with
    | none => rw [z] at ht; cases ht
    | some of => rw [z] at ht; exact ⟨of, I.kIn _ _ z, Option.some.inj ht⟩
  have hNs : s.heap.Ns N (nsFind es) := ⟨_, es, n, I.kIn _ _ lN, rfl, sk, fun _ => rfl⟩
  obtain ⟨odA, JA, _⟩ := J.look
  obtain ⟨odB, JB, _⟩ := J'.look
  have XO : s.heap.OwnEqNoNe a (cHall X.K) (He.ma X.K (cHall X.K) "__eq__") "object" [.type "object"] :=
    ⟨_, of, nm, q0, N, bs, hdct, sn, sub, ab, col, dd, k0, k1, k2, k3, k5, "object.__new__", nsFind es, _, JA.at_, JA.cls, I.kIn _ _ lC, hNs, fe, hof, hofc, F.cmp_object.mro, F.cmp_object.eq.lookup, fn⟩
  have hsp : spEq (eqRel X.K) [.ref a, .ref b] H (fun v H' => v = .bl true ∧ Same H H') E := ⟨a, b, rfl, er, fun H' e => ⟨rfl, e⟩⟩
  have hl := FE.len _ _ _ _ hsp
  have r2 : Vals [V.ref a, V.ref b] [Value.ref a, Value.ref b] := .cons rfl (.cons rfl .nil)
  have hb2 : BindsTo s fd ⟨[.ref a, .ref b], []⟩ (ps.zip [.ref a, .ref b]) := by simpa using hb s [.ref a, .ref b] I.kIn (by simpa using hl)
  have run := FE.run X.A.in1 X.stack s H ⟨[.ref a, .ref b], []⟩ [.ref a, .ref b] [.ref a, .ref b] _ E hr.in1 I.env0.in1 hb2 r2 hsp
  have fin : wpAny (model X.prog X.w) X.A.in1 (call (.ref (He.ma X.K (cHall X.K) "__eq__")) [.ref a, .ref b]) (fun v s' => ∃ b, v = .bool b ∧ EP X pins σ Q (.bool (!b)) s') X.xe s := by
    refine wpAny_call (codeAny_mono run fun r s' hq => ?_)
    cases r with
    | error e => exact hx pins σ H s e s' I hq
    | ok fl =>
      cases fl with
      | ret w =>
        obtain ⟨z, H', I', rz, ez, ex⟩ := I.after hq
        subst ez
        cases rz
        exact ⟨true, rfl, .bl false, H', I', rfl, q H' ex⟩
      | next => exact False.elim hq
      | brk => exact False.elim hq
      | cont => exact False.elim hq
  obtain ⟨hp, g, dr, tk, os⟩ := s
  exact compareOp_ne_ownEq F.cmp_object XO JB.at_ JB.cls (by have := hr.un; omega) fin
end K5
set_option Elab.async false
set_option linter.all false
set_option maxRecDepth 100000
set_option maxHeartbeats 4000000
namespace K5
open PySem PySem.Spec PyProof.Rows L2
variable {P : Program} {w : World} {K : PySem.W.Frag} {mg : Str → Option Value} {base : Heap}
/-! ### len(hall) -/
def rLenHall (K : PySem.W.Frag) : List V → Hp → VK → Prop := fun xs H Q => ∃ (v : V) (h : HallD), xs = [v] ∧ HallAt K H v h ∧ Q (.int (h.kinds.length : Nat)) H
theorem call_lenHall {X : Cx} {k : Nat} {fd : FuncData} {ps : List Str} (T : Txt X.w X.K X.mg) (FL : FnOk X.prog X.w X.K X.mg X.base CX0 k (He.ma X.K (cHall X.K) "__len__") fd ps (spLen X.K)) (hb : Binds X.K fd ps []) (hr : Room (k + 1) X.A) : CallR X (.builtin "len") (rLenHall X.K) := by
  intro pins s σ H xs us Q I r h
  obtain ⟨v, hd, rfl, ha, q⟩ := h
  obtain ⟨p, dx, t, rfl, hp, hk, ok⟩ := id ha
  obtain ⟨u, rfl, ru⟩ := vals1 r
  cases (show u = Value.ref p from ru)
  obtain ⟨mA, J, _⟩ := ins_get I.hok hp
  obtain ⟨od, J, _⟩ := J.look
  obtain ⟨m, hF⟩ := I.fr
  have hsp : spLen X.K [.ref p] H (fun v H' => v = .int (hd.kinds.length : Nat) ∧ H' = H) E0 := ⟨_, hd, rfl, ha, rfl, rfl⟩
  have hl := FL.len _ _ _ _ hsp
  have r2 : Vals [V.ref p] [Value.ref p] := .cons rfl .nil
  have hb2 : BindsTo s fd ⟨[.ref p], []⟩ (ps.zip [.ref p]) := by simpa using hb s [.ref p] I.kIn (by simpa using hl)
  refine PySem.W.len_K hF I.ok.mod.kin J T.mLen.at_ T.mLen.fn ?_
  have k4 : hd.kinds.length ≤ 4 := (kindsOk_iff ok.ks).l4
  have hx : Passes CX0 X E0 := pass0
  refine wpAny_call (codeAny_mono (FL.run X.A.in1 X.stack s H ⟨[.ref p], []⟩ [.ref p] [.ref p] _ E0 hr.in1 I.env0.in1 hb2 r2 hsp) fun r s' hq => ?_)
  cases r with
  | error e => exact hx pins σ H s e s' I hq
  | ok fl =>
    cases fl with
    | ret w =>
      obtain ⟨z, H', I', rz, ez, ex⟩ := I.after hq
      subst ez ex
      obtain ⟨tk, rfl⟩ := rz
      exact ⟨⟨by omega, by omega⟩, .int _, H', I'.tok _, ⟨_, rfl⟩, q⟩
    | next => exact False.elim hq
    | brk => exact False.elim hq
    | cont => exact False.elim hq
/-- the methods of Hall -/
structure HallM (P : Program) (w : World) (K : PySem.W.Frag) (mg : Str → Option Value) (base : Heap) : Prop where
  rules : ∃ fd, FnOk P w K mg base CX0 1 (He.ma K (cHall K) "rules") fd ["self"] (spRules K) ∧ Binds K fd ["self"] []
  len : ∃ fd, FnOk P w K mg base CX0 1 (He.ma K (cHall K) "__len__") fd ["self"] (spLen K) ∧ Binds K fd ["self"] []
  eq : ∃ fd, FnOk P w K mg base CX0 2 (He.ma K (cHall K) "__eq__") fd ["self", "other"] (spEq (eqRel K)) ∧ Binds K fd ["self", "other"] []
theorem hallM (T : Txt w K mg) : HallM P w K mg base := by
  refine ⟨?_, ?_, ?_⟩
  · obtain ⟨fd, F, k⟩ := fn_rules (P := P) (base := base) T
    exact ⟨fd, k, F.bindsN (fun _ _ _ _ _ _ us hl => match us, hl with | [_], _ => rfl)⟩
  · obtain ⟨fd, F, k⟩ := fn_len (P := P) (base := base) T
    exact ⟨fd, k, F.bindsN (fun _ _ _ _ _ _ us hl => match us, hl with | [_], _ => rfl)⟩
  · obtain ⟨fd, F, k⟩ := fn_eq (P := P) (base := base) T
    exact ⟨fd, k, F.bindsN (fun _ _ _ _ _ _ us hl => match us, hl with | [_, _], _ => rfl)⟩
/-! ### is_deed -/
def optD (ev many : Nat) : Option (Str × Option Nat) → Bool
  | some (z, some n) => (match w3 z with | some w => deedOk ev many (w, n) | none => false)
  | _ => false
def DeedV (H : Hp) (v : V) : Option (Str × Option Nat) → Prop
  | none => v = .non
  | some (z, o) => ∃ p, v = .ref p ∧ H p = some (.tup [.str z, optI o])
theorem scIsDeed : FnScope ["hall", "thing"] ["hall", "thing"] (defScope sIsDeed) := ⟨rfl, rfl, rfl, by decide +kernel, rfl, by decide +kernel, by decide +kernel⟩
def spIsDeed (K : PySem.W.Frag) : Sp := fun vs H Q _ => ∃ (v u : V) (h : HallD) (o : Option (Str × Option Nat)), vs = [v, u] ∧ HallAt K H v h ∧ DeedV H u o ∧ ∀ H', Same H H' → Q (.bl (optD h.events h.kinds.length o)) H'
theorem knt : PySem.W.kitOne K (.type "NoneType") (.type "tuple") = some false := by rfl
theorem cl_isDeed (T : Txt w K mg) (M : HallM P w K mg base) (C_is_number : Cl P w K mg base CX0 1 "is_number" spIsNumber) : Cl P w K mg base CX0 3 "is_deed" (spIsDeed K) := by
  obtain ⟨fl, FL, bL⟩ := M.len
  refine cl_def T (i := 20) (j := 10) rfl (by decide +kernel) scIsDeed (fun _ _ _ _ _ _ us hl => match us, hl with | [_, _], _ => rfl) (fun vs H Q E h => ?_) (fun cdv A outer s H vs Q E hr h => ?_)
  · obtain ⟨v, u, h, o, rfl, _⟩ := h
    rfl
  · obtain ⟨v, u, h, o, rfl, hv, hu, k⟩ := h
    refine ⟨_, (pss_cons (ps_if (PW.pt (pw_or (pt_not (pt_val (isi T (pa_cons (pv 1) (pa_cons (tyTup T) pa_nil))))) (pw_or (pt_cmpR op_ne (pe_callB call_len_seq (by rfl) (fr T "len") boot_len (pa_cons (pv 1) pa_nil)) pe_int (nomark _)) (pw_or1 (pt_not (pt_val (isi T (pa_cons (pe_ix ix_tup (pv 1) pe_int (fun _ _ => rfl)) (pa_cons (tyStr T) pa_nil))))))))) (pss_one (ps_ret pe_bl)) pss_nil)
      (pss_cons (ps_if (pt_cmpR op_notIn_seq (pe_ix ix_tup (pv 1) pe_int (fun _ _ => rfl)) (pe_tup (pa_cons pe_str (pa_cons pe_str (pa_cons pe_str pa_nil)))) (by rfl)) (pss_one (ps_ret pe_bl)) pss_nil)
      (pss_one (ps_ret (pe_cl C_is_number hr (by decide) pass0 rfl (pa_cons (pe_ix ix_tup (pv 1) pe_int (fun _ _ => rfl)) (pa_cons pe_int (pa_cons (pe_op op_sub (pe_ifExp (pt_cmpR op_eq (pe_ix ix_tup (pv 1) pe_int (fun _ _ => rfl)) pe_str (nomark _)) (pe_fld (pv 0) rfl) (pe_callB (call_lenHall T FL bL hr) (by rfl) (fr T "len") boot_len (pa_cons (pv 0) pa_nil))) pe_int) pa_nil)))))))), ?_⟩
    have kk : ∀ b : Bool, b = optD h.events h.kinds.length o → ∀ H', Same H H' → Q (.bl b) H' := fun b z H' s => qb (Q := Q) z (k H' s)
    cases o with
    | none =>
      cases (show u = .non from hu)
      refine ⟨_, rfl, _, _, _, _, _, rfl, .ty _, .base .non, knt, _, rfl, ?_⟩
      exact iteT (kk _ rfl _ (Same.refl _))
    | some zo =>
      obtain ⟨z, o⟩ := zo
      obtain ⟨p, rfl, hp⟩ := hu
      refine ⟨_, rfl, _, _, _, _, _, rfl, .ty _, .base (.tup hp), ktt, _, rfl, ?_⟩
      refine iteF ?_
      refine ⟨_, rfl, _, _, rfl, .inr (SqT.of hp), rfl, _, rfl, ?_⟩
      refine iteF ?_
      refine ⟨_, rfl, _, _, _, _, rfl, rfl, SqT.of hp, rfl, _, _, _, _, _, rfl, .ty _, .base (.str _), kst, _, rfl, ?_⟩
      refine iteF ?_
      refine ⟨_, rfl, _, _, _, _, rfl, rfl, SqT.of hp, rfl, by decide, fun q hq => ?_⟩
      have s1 : Same H (upd H q (.tup [.str "add", .str "cut", .str "emit"])) := Same.new hq
      have hp1 := s1 _ _ hp
      refine ⟨_, _, rfl, .inr (SqT.of upd_same), rfl, by decide +kernel, _, rfl, ?_⟩
      show if (!inV (.str z) [.str "add", .str "cut", .str "emit"]) = true then _ else _
      rw [inV_w3]
      cases ew : w3 z with
      | none =>
        refine iteT (kk _ ?_ _ s1)
        cases o with
        | none => rfl
        | some n =>
          show false = (match w3 z with | some w => deedOk h.events h.kinds.length (w, n) | none => false)
          rw [ew]
      | some wd =>
        refine iteF ?_
        have ez := w3_some ew
        refine ⟨_, rfl, _, _, _, _, rfl, rfl, SqT.of hp1, rfl, _, rfl, _, _, _, _, rfl, rfl, SqT.of hp1, rfl, rfl, _, rfl, ?_⟩
        have fin : ∀ m : Nat, (∀ n, o = some n → decide (n < m) = deedOk h.events h.kinds.length (wd, n)) → Q (.bl (numB (optI o) 0 ((m : Int) - 1))) (upd H q (.tup [.str "add", .str "cut", .str "emit"])) := by
          intro m hm
          refine kk _ ?_ _ s1
          cases o with
          | none => rfl
          | some n =>
            show numB (.int (n : Int)) 0 ((m : Int) - 1) = (match w3 z with | some w => deedOk h.events h.kinds.length (w, n) | none => false)
            rw [numB_nat, ew]
            exact hm n rfl
        have ho : optI o = .non ∨ ∃ n, optI o = .int n := by
          cases o with
          | none => exact .inl rfl
          | some n => exact .inr ⟨_, rfl⟩
        obtain ⟨p0, dx, t0, rfl, hh, hk, ok⟩ := id hv
        cases wd with
        | emit =>
          refine iteT' (by rw [ez]; decide +kernel) ?_
          refine ⟨_, rfl, _, _, _, _, _, rfl, s1 _ _ hh, T.cl, T.na "events" (by decide +kernel), rfl, _, _, rfl, rfl, _, _, _, rfl, ho, ?_⟩
          exact fin h.events fun n _ => rfl
        | add =>
          refine iteF' (by rw [ez]; decide +kernel) ?_
          refine ⟨_, rfl, _, h, rfl, hv.mono s1, _, _, rfl, rfl, _, _, _, rfl, ho, ?_⟩
          exact fin h.kinds.length fun n _ => rfl
        | cut =>
          refine iteF' (by rw [ez]; decide +kernel) ?_
          refine ⟨_, rfl, _, h, rfl, hv.mono s1, _, _, rfl, rfl, _, _, _, rfl, ho, ?_⟩
          exact fin h.kinds.length fun n _ => rfl
end K5
set_option Elab.async false
set_option linter.all false
set_option maxRecDepth 100000
set_option maxHeartbeats 4000000
namespace K5
open PySem PySem.Spec PyProof.Rows L2
variable {P : Program} {w : World} {K : PySem.W.Frag} {mg : Str → Option Value} {base : Heap}
/-! ### text_of -/
def WordV (v : V) (z : Str) : Prop := v = .str z ∨ ∃ n : Nat, n < 10 ∧ v = .int n ∧ z = dig n
def RowAt (H : Hp) (v : V) (r : List Str) : Prop := ∃ p vs, v = .ref p ∧ H p = some (.tup vs) ∧ Paired WordV vs r
theorem RowAt.mono {H H' : Hp} {v : V} {r : List Str} (k : Kt H H') (h : RowAt H v r) : RowAt H' v r := by
  obtain ⟨p, vs, e, h, q⟩ := h
  exact ⟨p, vs, e, k _ _ h, q⟩
/-- short rows -/
def Short (rows : List (List Str)) : Prop := rows.length ≤ 40 ∧ ∀ r ∈ rows, r.length ≤ 40 ∧ ∀ z ∈ r, z.length ≤ 40
theorem sum_le {n : Nat} : ∀ {ws : List Str}, (∀ z ∈ ws, z.length ≤ n) → (ws.map (·.length)).sum ≤ ws.length * n
  | [], _ => by simp
  | a :: r, h => by
    have h1 := h a (by simp)
    have h2 := sum_le (ws := r) (fun z hz => h z (by simp [hz]))
    simp only [List.map_cons, List.sum_cons, List.length_cons]
    rw [Nat.succ_mul]
    omega
theorem row_len {r : List Str} (h : r.length ≤ 40 ∧ ∀ z ∈ r, z.length ≤ 40) : (Txt.join SP r).length ≤ 2000 := by
  have h1 := StrLaws.join_length_le SP r
  have h2 := sum_le h.2
  have h3 : SP.length = 1 := by decide +kernel
  rw [h3] at h1
  have h4 : r.length * 40 ≤ 40 * 40 := Nat.mul_le_mul_right 40 h.1
  have h5 : (r.map (·.length)).sum + r.length * 1 ≤ 2000 := by omega
  rw [TL.join_eq]
  exact Nat.le_trans h1 h5
theorem scTextOf : FnScope ["rows", "word", "row"] ["rows"] (defScope sTextOf) := ⟨rfl, rfl, rfl, by decide +kernel, rfl, by decide +kernel, by decide +kernel⟩
/-- the scope of the outer comprehension -/
abbrev scRow : Scope := { kind := .function, names := [(PySem.Str.ofString ".0", .local), (PySem.Str.ofString "row", .local)], isGenerator := false, isCoroutine := false }
def spTextOf (K : PySem.W.Frag) : Sp := fun vs H Q _ => ∃ (p : Addr) (us : List V) (rows : List (List Str)), vs = [.ref p] ∧ SqL K H p us ∧ Paired (RowAt H) us rows ∧ Short rows ∧ ∀ H', Same H H' → Q (.str (rowsText rows)) H'
theorem cl_textOf (T : Txt w K mg) : Cl P w K mg base CX0 1 "text_of" (spTextOf K) := by
  refine cl_def T (i := 26) (j := 12) rfl (by decide +kernel) scTextOf (fun _ _ _ _ _ _ us hl => match us, hl with | [_], _ => rfl) (fun vs H Q E h => ?_) (fun cdv A outer s H vs Q E hr h => ?_)
  · obtain ⟨p, us, rows, rfl, _⟩ := h
    rfl
  · obtain ⟨p, us, rows, rfl, hp, pr, sh, k⟩ := h
    refine ⟨_, (pss_one (ps_ret (pJoin (K := K) rfl pe_str (pe_lc (own := [("row", 2)]) rfl scTextOf.nd (pi_list (pv 0)) (blkOk_by (own := [("row", 2)]) (N := ["rows", "word", "row"]) (sc := defScope sTextOf) (by decide +kernel)) (fun _ _ _ _ _ => (pg_name (i := 2) scTextOf.nd rfl (by first | exact Or.inl rfl | exact Or.inr rfl))) (fun _ _ _ _ _ => pts_nil) (fun _ _ _ _ _ => (pe_op op_add_str (pJoin (K := K) rfl pe_str (pe_lc (own := [("word", 1)]) rfl scTextOf.nd (pTup (K := K) rfl (pv 2)) (blkOk_by (own := [("word", 1)]) (N := ["rows", "word", "row"]) (sc := scRow) (by decide +kernel)) (fun _ _ _ _ _ => (pg_name (i := 1) scTextOf.nd rfl (by first | exact Or.inl rfl | exact Or.inr rfl))) (fun _ _ _ _ _ => pts_nil) (fun _ _ _ _ _ => (pe_callTy (call_str_int.or SkE.call_str_str) (by rfl) (fr T "str") PyProof.Rows.boot_str (pa_cons (pv 1) pa_nil))))) pe_str)))))), ?_⟩
    have sep : SP.length = 1 := by decide +kernel
    have nl : NL.length = 1 := by decide +kernel
    have sl : sizeLine = 16777216 := sizeLine_eq
    refine ⟨⟨_, rfl⟩, ?_⟩
    refine ⟨_, rfl, _, rfl, ⟨_, hp⟩, fun D hD => ?_⟩
    refine lc_mapL (F := RowAt H) (fun r => .str (Txt.join SP r ++ NL)) hD hp pr (Nat.lt_of_le_of_lt sh.1 (by decide)) (fun x r H1 f hr s1 Q1 k1 => ?_) (fun H1 s1 hD1 => ?_)
    · obtain ⟨q, vs, rfl, hq, pw⟩ := f
      have hb := sh.2 r hr
      refine ⟨⟨_, rfl⟩, ?_⟩
      refine ⟨_, rfl, _, rfl, ⟨_, SqT.of (s1 _ _ hq)⟩, fun D2 hD2 => ?_⟩
      refine lc_mapT (F := WordV) (fun z => .str z) hD2 (SqT.of (s1 _ _ hq)) pw (Nat.lt_of_le_of_lt hb.1 (by decide)) (fun x z H2 f2 hz s2 Q2 k2 => ?_) (fun H2 s2 hD3 => ?_)
      · rcases f2 with rfl | ⟨n, hn, rfl, rfl⟩
        · exact ⟨_, rfl, .inr ⟨_, rfl, k2 _ (Same.refl _)⟩⟩
        · refine ⟨_, rfl, .inl ⟨_, rfl, ?_, k2 _ (Same.refl _)⟩⟩
          have : n = 0 ∨ n = 1 ∨ n = 2 ∨ n = 3 ∨ n = 4 ∨ n = 5 ∨ n = 6 ∨ n = 7 ∨ n = 8 ∨ n = 9 := by omega
          rcases this with rfl | rfl | rfl | rfl | rfl | rfl | rfl | rfl | rfl | rfl <;> decide +kernel
      · have e1 := sum_le hb.2
        have e2 : r.length * 40 ≤ 40 * 40 := Nat.mul_le_mul_right 40 hb.1
        refine ⟨_, D2, r, rfl, rfl, .inl (.inl (.inl hD3)), by rw [sep]; omega, ?_⟩
        have e3 := row_len hb
        refine ⟨_, _, rfl, rfl, (by show (Txt.join SP r).length + NL.length ≤ sizeLine; rw [nl]; omega), k1 _ s2⟩
    · have e1 : (rows.map fun r => Txt.join SP r ++ NL).length = rows.length := by simp
      have e2 : ((rows.map fun r => Txt.join SP r ++ NL).map (·.length)).sum ≤ rows.length * 2001 := by
        have := sum_le (n := 2001) (ws := rows.map fun r => Txt.join SP r ++ NL) (fun z hz => by
          obtain ⟨r, hr, rfl⟩ := List.mem_map.mp hz
          have := row_len (sh.2 r hr)
          rw [Str.length_append, nl]
          omega)
        rw [e1] at this
        exact this
      have e3 : rows.length * 2001 ≤ 40 * 2001 := Nat.mul_le_mul_right 2001 sh.1
      refine ⟨_, D, rows.map fun r => Txt.join SP r ++ NL, rfl, rfl, .inl (.inl (.inl ?_)), by rw [e1]; show _ + rows.length * 0 ≤ _; omega, ?_⟩
      · rw [hD1, List.map_map]
        rfl
      · refine qe (Q := Q) ?_ (k _ s1)
        unfold rowsText lined
        rw [List.map_map]
        rfl
/-! ### flat -/
theorem scFlat : FnScope ["acts", "act", "item"] ["acts"] (defScope sFlat) := ⟨rfl, rfl, rfl, by decide +kernel, rfl, by decide +kernel, by decide +kernel⟩
def actV2 (as : List Act) : List V := as.flatMap actV
def spFlat (K : PySem.W.Frag) : Sp := fun vs H Q _ => ∃ (v : V) (as : List Act), vs = [v] ∧ ActsAt H v as ∧ as.length ≤ 100 ∧ ∀ H' d, Same H H' → H' d = some (.lst (actV2 as)) → Q (.ref d) H'
theorem cl_flat (T : Txt w K mg) : Cl P w K mg base CX0 1 "flat" (spFlat K) := by
  refine cl_def T (i := 27) (j := 13) rfl (by decide +kernel) scFlat (fun _ _ _ _ _ _ us hl => match us, hl with | [_], _ => rfl) (fun vs H Q E h => ?_) (fun cdv A outer s H vs Q E hr h => ?_)
  · obtain ⟨v, as, rfl, _⟩ := h
    rfl
  · obtain ⟨v, as, rfl, ⟨p, us, rfl, hp, pr⟩, hn, k⟩ := h
    refine ⟨_, (pss_one (ps_ret (pe_lc2 (own := [("act", 1), ("item", 2)]) (vs1 := [2]) rfl scFlat.nd (pi_tup (pv 0)) (blkOk_by (own := [("act", 1), ("item", 2)]) (N := ["acts", "act", "item"]) (sc := defScope sFlat) (by decide +kernel)) (by decide) (fun _ _ _ _ _ => (pg_name (i := 1) scFlat.nd rfl (by first | exact Or.inl rfl | exact Or.inr rfl))) (fun _ _ _ _ _ => pts_nil) (fun _ _ _ _ _ => (pTup (K := K) rfl (pv 1))) (fun _ _ _ _ _ => (pg_name (i := 2) scFlat.nd rfl (by first | exact Or.inl rfl | exact Or.inr rfl))) (fun _ _ _ _ _ => pts_nil) (fun _ _ _ _ _ => (pv 2))))), ?_⟩
    refine ⟨_, rfl, _, rfl, ⟨_, SqT.of hp⟩, fun D hD => ?_⟩
    have sl : sizeLine = 16777216 := sizeLine_eq
    refine ⟨fun i m H1 => ∃ as1, m = us.length - i ∧ i ≤ us.length ∧ as1 = as.take i ∧ Same H H1 ∧ H1 D = some (.lst (actV2 as1)), ⟨us.length, [], by simp, Nat.zero_le _, by simp, Same.new hD, upd_same⟩, ?_⟩
    rintro i m H1 ⟨as1, rfl, hi, rfl, s1, hd1⟩
    have hl := Paired.length pr
    by_cases hlt : i < us.length
    · have e0 : us[i]? = some us[i] := List.getElem?_eq_getElem hlt
      obtain ⟨a, ha, ⟨q, eq, hq⟩⟩ := paired_get pr e0
      have et : as.take (i + 1) = as.take i ++ [a] := by rw [List.take_add_one, ha] <;> rfl
      have ev : actV2 (as.take (i + 1)) = actV2 (as.take i) ++ actV a := by
        unfold actV2
        rw [et, List.flatMap_append]
        simp
      have hlen : (actV2 (as.take i)).length ≤ 2 * i := by
        have : ∀ l : List Act, (actV2 l).length ≤ 2 * l.length := by
          intro l
          induction l with
          | nil => exact Nat.le_refl _
          | cons b r ih =>
            have h1 : (actV b).length ≤ 2 := by cases b <;> simp [actV]
            have h2 : (actV2 (b :: r)).length = (actV b).length + (actV2 r).length := by
              unfold actV2
              rw [List.flatMap_cons, List.length_append]
            rw [h2, List.length_cons]
            omega
        exact Nat.le_trans (this _) (by rw [List.length_take]; omega)
      refine .inr ⟨⟨us, us[i], SqT.of (s1 _ _ hp), e0⟩, fun H' => Same H H' ∧ H' D = some (.lst (actV2 (as.take (i + 1)))), fun H' hN => ⟨us.length - (i + 1), by omega, as.take (i + 1), rfl, hlt, rfl, hN.1, hN.2⟩, fun x H' hy => ?_⟩
      obtain ⟨e1, e2⟩ := hy
      subst e1
      have ex := e2 us (SqT.of (s1 _ _ hp))
      rw [e0] at ex
      cases ex
      refine ⟨by rfl, ?_⟩
      refine ⟨_, rfl, q, eq, ⟨_, SqT.of (s1 _ _ hq)⟩, ?_⟩
      refine ⟨fun j k H' => k = (actV a).length - j ∧ j ≤ (actV a).length ∧ Same H H' ∧ H' D = some (.lst (actV2 (as.take i) ++ (actV a).take j)), ⟨_, rfl, Nat.zero_le _, s1, by rw [List.take_zero, List.append_nil]; exact hd1⟩, ?_⟩
      rintro j k' H2 ⟨rfl, hj, s2, hd2⟩
      by_cases hjl : j < (actV a).length
      · have e3 : (actV a)[j]? = some (actV a)[j] := List.getElem?_eq_getElem hjl
        refine .inr ⟨⟨_, _, SqT.of (s2 _ _ hq), e3⟩, fun H' => Same H H' ∧ H' D = some (.lst (actV2 (as.take i) ++ (actV a).take (j + 1))), fun H' hN => ⟨(actV a).length - (j + 1), by omega, rfl, hjl, hN.1, hN.2⟩, fun y H' hy => ?_⟩
        obtain ⟨e4, e5⟩ := hy
        subst e4
        have ey := e5 (actV a) (SqT.of (s2 _ _ hq))
        rw [e3] at ey
        cases ey
        refine ⟨by rfl, ?_⟩
        have hb : (actV a).length ≤ 2 := by cases a <;> simp [actV]
        refine ⟨_, rfl, _, hd2, ?_, ?_, ?_⟩
        · rw [List.length_append, List.length_take]
          omega
        · intro b u hbu
          rw [upd_ne (ne_of_none hbu hD)]
          exact s2 _ _ hbu
        · rw [upd_same, List.take_add_one, e3, List.append_assoc] <;> rfl
      · refine .inl ⟨⟨_, SqT.of (s2 _ _ hq), by omega⟩, s2, ?_⟩
        have ej : j = (actV a).length := by omega
        rw [ev, hd2, ej, List.take_length]
    · refine .inl ⟨⟨us, SqT.of (s1 _ _ hp), by omega⟩, ?_⟩
      refine k _ _ s1 ?_
      have : i = as.length := by omega
      rw [this, List.take_length] at hd1
      exact hd1
end K5
set_option Elab.async false
set_option linter.all false
set_option maxRecDepth 100000
set_option maxHeartbeats 4000000
namespace K5
open PySem PySem.Spec PyProof.Rows L2
variable {P : Program} {w : World} {K : PySem.W.Frag} {mg : Str → Option Value} {base : Heap}
/-! ### a dict that is locked once it is made -/
def tLk (te : TE) : TE := fun σ H Q => te σ H fun x H1 => ∃ d kvs, x = .ref d ∧ H1 d = some (.dK kvs) ∧ ∀ od, Q x (upd H1 d (.frz od (.dK kvs)))
theorem pe_lk {X : Cx} {e : Expr} {te : TE} (h : PE X e te) : PE X e (tLk te) := by
  refine ⟨fun pins s σ H Q I q => thn (h.run pins s σ H _ I q) fun u s1 ⟨x, H1, I1, rx, d, kvs, ex, hd, q1⟩ => ?_⟩
  obtain ⟨od, I2⟩ := I1.lock hd trivial
  exact ⟨x, _, I2, rx, q1 od⟩
/-! ### short rows -/
theorem dig_len {n : Nat} (h : n < 10) : (dig n).length = 1 := by
  have : n = 0 ∨ n = 1 ∨ n = 2 ∨ n = 3 ∨ n = 4 ∨ n = 5 ∨ n = 6 ∨ n = 7 ∨ n = 8 ∨ n = 9 := by omega
  rcases this with rfl | rfl | rfl | rfl | rfl | rfl | rfl | rfl | rfl | rfl <;> decide +kernel
theorem act_short {a : Act} (h : actSmall a = true) : (actWords a).length ≤ 2 ∧ ∀ z ∈ actWords a, z.length ≤ 40 := by
  cases a with
  | raise => exact ⟨by decide, fun z hz => by rw [List.mem_singleton.mp hz]; decide +kernel⟩
  | num w n =>
    refine ⟨Nat.le_refl _, fun z hz => ?_⟩
    rcases List.mem_cons.mp hz with rfl | hz
    · cases w <;> decide +kernel
    · rw [List.mem_singleton.mp hz, dig_len (of_decide_eq_true h)]
      decide
theorem acts_short : ∀ {as : List Act}, as.all actSmall = true → (as.flatMap actWords).length ≤ 2 * as.length ∧ ∀ z ∈ as.flatMap actWords, z.length ≤ 40
  | [], _ => ⟨Nat.zero_le _, fun z hz => by simp at hz⟩
  | a :: r, h => by
    rw [List.all_cons, Bool.and_eq_true] at h
    have h1 := act_short h.1
    have h2 := acts_short h.2
    refine ⟨?_, fun z hz => ?_⟩
    · rw [List.flatMap_cons, List.length_append, List.length_cons]
      omega
    · rw [List.flatMap_cons, List.mem_append] at hz
      rcases hz with hz | hz
      · exact h1.2 z hz
      · exact h2.2 z hz
theorem kind_short {ev many : Nat} {k : Kind} (he : ev ≤ 3) (hm : many ≤ 4) (h : KindP ev many k) : (kindRow k).length ≤ 40 ∧ ∀ z ∈ kindRow k, z.length ≤ 40 := by
  have h1 := acts_short (acts_small he hm h.a)
  have h2 := h.l
  have h3 := h.e
  refine ⟨?_, fun z hz => ?_⟩
  · show (k.acts.flatMap actWords).length + 3 ≤ 40
    omega
  · unfold kindRow at hz
    rcases List.mem_cons.mp hz with rfl | hz
    · decide +kernel
    rcases List.mem_cons.mp hz with rfl | hz
    · rw [dig_len (by omega)]; decide
    rcases List.mem_cons.mp hz with rfl | hz
    · cases k.once <;> decide +kernel
    · exact h1.2 z hz
theorem vals_short : ∀ (i : Nat) (v : Str), v ∈ vals.getD i [] → v.length ≤ 40 := by
  intro i v hv
  have hi : i < 7 := by
    rcases Nat.lt_or_ge i 7 with h | h
    · exact h
    · have : vals.getD i [] = [] := by simp [List.getD, List.getElem?_eq_none (show vals.length ≤ i from h)]
      rw [this] at hv
      cases hv
  have all : ∀ i < 7, ∀ v ∈ vals.getD i [], v.length ≤ 40 := by decide +kernel
  exact all i hi v hv
theorem hall_short {h : HallD} (ok : HallOk h) : Short (hallRows h) := by
  obtain ⟨ev, ks, hs⟩ := h
  have kp := kindsOk_iff ok.ks
  have he : ev ≤ 3 := ok.e3
  have h4 : ks.length ≤ 4 := kp.l4
  have hd := ok.hd
  obtain ⟨a, b, c, d, e, f, g, rfl⟩ := seven hd.1
  have hv : ∀ (i : Nat) (v : Str), [a, b, c, d, e, f, g][i]? = some v → v.length ≤ 40 := fun i v z => vals_short i v (hd.2 i v z)
  refine ⟨?_, fun r hr => ?_⟩
  · show (ruleRows [a, b, c, d, e, f, g] ++ ks.map kindRow).length + 1 ≤ 40
    rw [List.length_append, List.length_map]
    show 7 + ks.length + 1 ≤ 40
    omega
  · unfold hallRows at hr
    rcases List.mem_cons.mp hr with rfl | hr
    · refine ⟨(by show 2 ≤ 40; decide), fun z hz => ?_⟩
      rcases List.mem_cons.mp hz with rfl | hz
      · decide +kernel
      · rw [List.mem_singleton.mp hz, dig_len (by show ev < 10; omega)]
        decide
    rcases List.mem_append.mp hr with hr | hr
    · have hr' : r = [("walk" : Str), a] ∨ r = [("check" : Str), b] ∨ r = [("errors" : Str), c] ∨ r = [("once" : Str), d] ∨ r = [("same" : Str), e] ∨ r = [("put" : Str), f] ∨ r = [("nest" : Str), g] := by
        simpa [ruleRows, names] using hr
      have two : ∀ n v : Str, n.length ≤ 40 → v.length ≤ 40 → ([n, v].length ≤ 40 ∧ ∀ z ∈ [n, v], z.length ≤ 40) := by
        intro n v h1 h2
        refine ⟨(by show 2 ≤ 40; decide), fun z hz => ?_⟩
        rcases List.mem_cons.mp hz with rfl | hz
        · exact h1
        · rw [List.mem_singleton.mp hz]
          exact h2
      rcases hr' with rfl | rfl | rfl | rfl | rfl | rfl | rfl
      · exact two _ _ (by decide +kernel) (hv 0 a rfl)
      · exact two _ _ (by decide +kernel) (hv 1 b rfl)
      · exact two _ _ (by decide +kernel) (hv 2 c rfl)
      · exact two _ _ (by decide +kernel) (hv 3 d rfl)
      · exact two _ _ (by decide +kernel) (hv 4 e rfl)
      · exact two _ _ (by decide +kernel) (hv 5 f rfl)
      · exact two _ _ (by decide +kernel) (hv 6 g rfl)
    · obtain ⟨k, hk, rfl⟩ := List.mem_map.mp hr
      exact kind_short he h4 (kp.all k hk)
/-! ### hall_text -/
theorem scHallText : FnScope ["hall", "rows", "name", "value", "event", "is_once", "acts"] ["hall"] (defScope sHallText) := ⟨rfl, rfl, rfl, by decide +kernel, rfl, by decide +kernel, by decide +kernel⟩
theorem wordsV : ∀ {as : List Act}, as.all actSmall = true → Paired WordV (actV2 as) (as.flatMap actWords)
  | [], _ => .nil
  | .raise :: r, h => by
    rw [List.all_cons, Bool.and_eq_true] at h
    exact .cons (.inl rfl) (wordsV h.2)
  | .num w n :: r, h => by
    rw [List.all_cons, Bool.and_eq_true] at h
    exact .cons (.inl rfl) (.cons (.inr ⟨n, of_decide_eq_true h.1, rfl, rfl⟩) (wordsV h.2))
theorem shown_rv {v : Str} (h : v ∈ vals.getD 1 []) : shownOf (decide (v = "yes")) = v := by
  have : v = "no" ∨ v = "yes" := by
    have h' : v ∈ (["no", "yes"] : List Str) := h
    simpa using h'
  rcases this with rfl | rfl <;> decide +kernel
def spHallText (K : PySem.W.Frag) : Sp := fun vs H Q _ => ∃ (v : V) (h : HallD), vs = [v] ∧ HallAt K H v h ∧ ∀ H', Same H H' → Q (.str (hallText h)) H'
theorem cl_hallText (T : Txt w K mg) (M : HallM P w K mg base) (C_check_hall : Cl P w K mg base CX0 1 "check_hall" (spCheckHall K)) (C_flat : Cl P w K mg base CX0 1 "flat" (spFlat K)) (C_text_of : Cl P w K mg base CX0 1 "text_of" (spTextOf K)) : Cl P w K mg base CX0 3 "hall_text" (spHallText K) := by
  obtain ⟨fr', FR, bR⟩ := M.rules
  refine cl_def T (i := 28) (j := 14) rfl (by decide +kernel) scHallText (fun _ _ _ _ _ _ us hl => match us, hl with | [_], _ => rfl) (fun vs H Q E h => ?_) (fun cdv A outer s H vs Q E hr h => ?_)
  · obtain ⟨v, h, rfl, _⟩ := h
    rfl
  · obtain ⟨v, ⟨ev, ks, hs⟩, rfl, ha, k⟩ := h
    obtain ⟨p, dx, t, rfl, hp, hk, ok⟩ := id ha
    refine ⟨_, (pss_cons (ps_expr (pe_cl C_check_hall hr (by decide) pass0 rfl (pa_cons (pv 0) pa_nil)))
      (pss_cons (ps_set (i := 1) scHallText.nd rfl (by first | exact Or.inl rfl | exact Or.inr rfl) (pe_lst (pa_cons (pe_tup (pa_cons pe_str (pa_cons (pe_fld (pv 0) rfl) pa_nil))) pa_nil)))
      (pss_cons (ps_for PassesOwn.never rfl (pi_items (pe_lk (pe_meth0 (pv 0) T.cl T.mRules FR (hr.mono (by decide)) bR .nil pass0))) (pg_tup (by rfl) (pgs_cons (pg_name (i := 2) scHallText.nd rfl (by first | exact Or.inl rfl | exact Or.inr rfl)) (pgs_cons (pg_name (i := 3) scHallText.nd rfl (by first | exact Or.inl rfl | exact Or.inr rfl)) pgs_nil))) (pss_one (ps_expr (pe_bm PySem.F.plainAttrs_list PySem.F.slot_list_append PySem.F.type_list_append mt_append (pv 1) (pa_cons (pe_tup (pa_cons (pv 2) (pa_cons (pe_ifExp (pt_cmpR op_eq (pv 2) pe_str (nomark _)) (pe_ix (ix_shown T.sh) (pGlo T (by decide +kernel) rfl) (pv 3) (fun _ _ => rfl)) (pv 3)) pa_nil))) pa_nil)))))
      (pss_cons (ps_for PassesOwn.never rfl (pi_tup (pe_fld (pv 0) rfl)) (pg_tup (by rfl) (pgs_cons (pg_name (i := 4) scHallText.nd rfl (by first | exact Or.inl rfl | exact Or.inr rfl)) (pgs_cons (pg_name (i := 5) scHallText.nd rfl (by first | exact Or.inl rfl | exact Or.inr rfl)) (pgs_cons (pg_name (i := 6) scHallText.nd rfl (by first | exact Or.inl rfl | exact Or.inr rfl)) pgs_nil)))) (pss_one (ps_expr (pe_bm PySem.F.plainAttrs_list PySem.F.slot_list_append PySem.F.type_list_append mt_append (pv 1) (pa_cons (pe_tup (pa_cons pe_str (pa_cons (pv 4) (pa_cons (pe_ifExp (pt_val (pv 5)) pe_str pe_str) (StX.pa_star (pe_cl C_flat hr (by decide) pass0 rfl (pa_cons (pv 6) pa_nil)) pa_nil))))) pa_nil)))))
      (pss_one (ps_ret (pe_cl C_text_of hr (by decide) pass0 rfl (pa_cons (pv 1) pa_nil)))))))), ?_⟩
    have kp := kindsOk_iff ok.ks
    have he : ev ≤ 3 := ok.e3
    have h4 : ks.length ≤ 4 := kp.l4
    have h7 : hs.length = 7 := ok.hd.1
    have sl : sizeLine = 16777216 := sizeLine_eq
    refine ⟨_, rfl, _, _, rfl, ha, ?_⟩
    refine ⟨_, rfl, _, _, _, _, _, rfl, hp, T.cl, T.na "events" (by decide +kernel), rfl, (by show 2 ≤ sizeLine; decide), fun q hq => ⟨(by show 1 ≤ sizeLine; decide), fun D hD => ?_⟩⟩
    have hDH : H D = none := Same.none (Same.new hq) hD
    have s1 : Same H (upd (upd H q (.tup [.str "events", .int ev])) D (.lst [.ref q])) := Same.new' (Same.new hq) hD
    have r1 : Paired (RowAt (upd (upd H q (.tup [.str "events", .int ev])) D (.lst [.ref q]))) [.ref q] [[sEvents, dig ev]] := .cons ⟨q, _, rfl, Same.new hD _ _ upd_same, .cons (.inl rfl) (.cons (.inr ⟨ev, by omega, rfl, rfl⟩) .nil)⟩ .nil
    have nor : (hallF ev t hs).lookup ("rules" : Str) = none := by
      obtain ⟨a, b, c, d, e, f, g, rfl⟩ := seven h7
      rfl
    refine ⟨_, rfl, _, _, _, rfl, s1 _ _ hp, nor, _, _, rfl, ha.mono s1, fun H2 d s2 n2 hd2 => ⟨d, _, rfl, hd2, fun od => ⟨d, od, _, rfl, upd_same, ?_⟩⟩⟩
    have n2' : H d = none := Same.none s1 n2
    have dD : d ≠ D := fun z => by
      rw [z, upd_same] at n2
      cases n2
    have add : ∀ (H3 : Hp) (vs : List V) (rows : List (List Str)) (u : Addr) (ws : List V) (r : List Str), Same H H3 → H3 D = some (.lst vs) → Paired (RowAt H3) vs rows → H3 u = none → Paired WordV ws r →
        (upd H3 u (.tup ws)) D = some (.lst vs) ∧ Same H (upd (upd H3 u (.tup ws)) D (.lst (vs ++ [.ref u]))) ∧ Paired (RowAt (upd (upd H3 u (.tup ws)) D (.lst (vs ++ [.ref u])))) (vs ++ [.ref u]) (rows ++ [r]) := by
      intro H3 vs rows u ws r s3 h3 pr hu pw
      have hne : u ≠ D := fun z => by rw [z, h3] at hu; cases hu
      refine ⟨by rw [upd_ne (Ne.symm hne)]; exact h3, ?_, ?_⟩
      · intro b o hb
        rw [upd_ne (ne_of_none hb hDH), upd_ne (ne_of_none (s3 _ _ hb) hu)]
        exact s3 _ _ hb
      · have kt : Kt H3 (upd (upd H3 u (.tup ws)) D (.lst (vs ++ [.ref u]))) := by
          intro b xs hb
          rw [upd_ne (ne_of hb h3 (by intro z; cases z)), upd_ne (ne_of_none hb hu)]
          exact hb
        exact Paired.snoc (paired_mono (fun _ _ f => f.mono kt) pr) ⟨u, ws, rfl, by rw [upd_ne hne]; exact upd_same, pw⟩
    have len_rules : (ruleRows hs).length = 7 := by
      obtain ⟨a, b, c, d, e, f, g, rfl⟩ := seven h7
      rfl
    have len_kvs : (kvsOf hs).length = 7 := by
      obtain ⟨a, b, c, d, e, f, g, rfl⟩ := seven h7
      rfl
    have at_kvs : ∀ i < 7, ∃ n v, names[i]? = some n ∧ hs[i]? = some v ∧ (kvsOf hs)[i]? = some (Sum.inr n, rv i v) ∧ (ruleRows hs)[i]? = some [n, v] ∧ (n = "check" ↔ i = 1) := by
      obtain ⟨a, b, c, d, e, f, g, rfl⟩ := seven h7
      intro i hi
      match i, hi with
      | 0, _ => exact ⟨_, _, rfl, rfl, rfl, rfl, by decide +kernel⟩
      | 1, _ => exact ⟨_, _, rfl, rfl, rfl, rfl, by decide +kernel⟩
      | 2, _ => exact ⟨_, _, rfl, rfl, rfl, rfl, by decide +kernel⟩
      | 3, _ => exact ⟨_, _, rfl, rfl, rfl, rfl, by decide +kernel⟩
      | 4, _ => exact ⟨_, _, rfl, rfl, rfl, rfl, by decide +kernel⟩
      | 5, _ => exact ⟨_, _, rfl, rfl, rfl, rfl, by decide +kernel⟩
      | 6, _ => exact ⟨_, _, rfl, rfl, rfl, rfl, by decide +kernel⟩
    refine for_it walk_items (fun i σ H' => ∃ vs o2 o3, σ = [some (.ref p), some (.ref D), o2, o3, none, none, none] ∧ Same H H' ∧ H' D = some (.lst vs) ∧ Paired (RowAt H') vs ([sEvents, dig ev] :: (ruleRows hs).take i) ∧ H' d = some (.frz od (.dK (kvsOf hs)))) ⟨[.ref q], none, none, rfl, ?_, ?_, ?_, upd_same⟩ (fun i σ H' _ q => q.choose_spec.choose_spec.choose_spec.2.2.2.2) (fun i x σ H3 H4 hi q y => ?_) (fun σ H3 q => ?_)
    · intro b o hb
      rw [upd_ne (ne_of_none hb n2')]
      exact s2 _ _ (s1 _ _ hb)
    · rw [upd_ne (Ne.symm dD)]
      exact s2 _ _ upd_same
    · refine paired_mono (fun _ _ f => f.mono ?_) (r1 : Paired _ _ ([sEvents, dig ev] :: (ruleRows hs).take 0))
      intro b xs hb
      rw [upd_ne (ne_of_none hb n2)]
      exact s2 _ _ hb
    · obtain ⟨vs, o2, o3, rfl, s3, h3, pr, hd3⟩ := q
      rw [len_kvs] at hi
      obtain ⟨n, v, hn, hv, hk1, hk2, hc⟩ := at_kvs i hi
      obtain ⟨T1, x1, x2, rfl, hT1, rfl, e1, e2⟩ := y
      replace e1 : (kvsOf hs)[i]?.map (fun kv => kV kv.1) = some x1 := e1
      replace e2 : (kvsOf hs)[i]?.map Prod.snd = some x2 := e2
      rw [hk1] at e1 e2
      have z1 : x1 = .str n := (Option.some.inj e1).symm
      have z2 : x2 = rv i v := (Option.some.inj e2).symm
      subst z1 z2
      have s4 : Same H3 (upd H3 T1 (.tup [.str n, rv i v])) := Same.new hT1
      have vl : vs.length = 1 + i := by
        rw [Paired.length pr, List.length_cons, List.length_take, len_rules]
        omega
      refine ⟨T1, _, rfl, SqT.of upd_same, rfl, _, _, rfl, _, _, rfl, rfl, ?_⟩
      refine ⟨_, rfl, .inl ⟨rfl, _, SqL.of (s4 _ _ h3)⟩, _, rfl, _, rfl, rfl, _, rfl, ?_⟩
      have et : (ruleRows hs).take (i + 1) = (ruleRows hs).take i ++ [[n, v]] := by rw [List.take_add_one, hk2] <;> rfl
      have dT : d ≠ T1 := fun z => by rw [← z, hd3] at hT1; cases hT1
      have fin : ∀ u, (upd H3 T1 (.tup [.str n, rv i v])) u = none → (∃ vs' o2 o3, [some (V.ref p), some (.ref D), some (.str n), some (rv i v), none, none, none] = [some (V.ref p), some (.ref D), o2, o3, none, none, none] ∧ Same H (upd (upd (upd H3 T1 (.tup [.str n, rv i v])) u (.tup [.str n, .str v])) D (.lst (vs ++ [.ref u]))) ∧ (upd (upd (upd H3 T1 (.tup [.str n, rv i v])) u (.tup [.str n, .str v])) D (.lst (vs ++ [.ref u]))) D = some (.lst vs') ∧ Paired (RowAt (upd (upd (upd H3 T1 (.tup [.str n, rv i v])) u (.tup [.str n, .str v])) D (.lst (vs ++ [.ref u])))) vs' ([sEvents, dig ev] :: (ruleRows hs).take (i + 1)) ∧ (upd (upd (upd H3 T1 (.tup [.str n, rv i v])) u (.tup [.str n, .str v])) D (.lst (vs ++ [.ref u]))) d = some (.frz od (.dK (kvsOf hs)))) := by
        intro u hu
        obtain ⟨a1, a2, a3⟩ := add _ vs _ u [.str n, .str v] [n, v] (s3.trans s4) (s4 _ _ h3) (paired_mono (fun _ _ f => f.mono (Kt.of s4)) pr) hu (.cons (.inl rfl) (.cons (.inl rfl) .nil))
        refine ⟨_, _, _, rfl, a2, upd_same, ?_, ?_⟩
        · rw [et]
          exact a3
        · rw [upd_ne dD, Same.new hu _ _ (s4 _ _ hd3)]
      by_cases h1 : i = 1
      · refine iteT' (decide_eq_true (by rw [hc.mpr h1])) ?_
        subst h1
        refine ⟨_, rfl, _, rfl, rfl, ?_⟩
        rw [shown_rv (ok.hd.2 1 v hv)]
        refine ⟨(by show 2 ≤ sizeLine; decide), fun u hu => ?_⟩
        refine ⟨_, _, _, rfl, rfl, Same.new hu _ _ (s4 _ _ h3), by omega, ?_⟩
        exact fin u hu
      · refine iteF' (decide_eq_false (fun z => h1 (hc.mp (by injection z)))) ?_
        have erv : rv i v = .str v := if_neg h1
        rw [erv] at fin s4 ⊢
        refine ⟨_, rfl, (by show 2 ≤ sizeLine; decide), fun u hu => ?_⟩
        refine ⟨_, _, _, rfl, rfl, Same.new hu _ _ (s4 _ _ h3), by omega, ?_⟩
        exact fin u hu
    · obtain ⟨vs, o2, o3, rfl, s3, h3, pr, hd3⟩ := q
      have e7 : (ruleRows hs).take (kvsOf hs).length = ruleRows hs := by rw [len_kvs, ← len_rules, List.take_length]
      replace pr : Paired (RowAt H3) vs ([sEvents, dig ev] :: (ruleRows hs).take (kvsOf hs).length) := pr
      rw [e7] at pr
      obtain ⟨pt, ts, rfl, ht, pk⟩ := hk
      refine ⟨_, rfl, _, _, _, _, _, rfl, s3 _ _ hp, T.cl, T.na "kinds" (by decide +kernel), rfl, _, rfl, ⟨_, SqT.of (s3 _ _ ht)⟩, ?_⟩
      have lk := Paired.length pk
      refine for_tup (xs := ts) (fun i σ H' => ∃ vs o2 o3 o4 o5 o6, σ = [some (.ref p), some (.ref D), o2, o3, o4, o5, o6] ∧ Same H H' ∧ H' D = some (.lst vs) ∧ Paired (RowAt H') vs ([sEvents, dig ev] :: (ruleRows hs ++ (ks.take i).map kindRow))) ⟨vs, o2, o3, none, none, none, rfl, s3, h3, by rw [List.take_zero, List.map_nil, List.append_nil]; exact pr⟩ (fun i σ H' _ q => ?_) (fun i x σ H4 hx q => ?_) (fun σ H4 q => ?_)
      · obtain ⟨_, _, _, _, _, _, _, s4, _⟩ := q
        exact SqT.of (s4 _ _ ht)
      · obtain ⟨vs4, o2, o3, o4, o5, o6, rfl, s4, h4', pr4⟩ := q
        obtain ⟨kd, hkd, u, tk, rfl, hu, pa, as, rfl, hta, pra⟩ := paired_get pk hx
        have hmem : kd ∈ ks := List.mem_of_getElem? hkd
        have kok := kp.all kd hmem
        have ea : kd.acts.all actSmall = true := acts_small he h4 kok.a
        have hl3 := kok.l
        have hev : kd.ev < ev := kok.e
        have vl : vs4.length ≤ 20 := by
          rw [Paired.length pr4, List.length_cons, List.length_append, len_rules, List.length_map, List.length_take]
          omega
        refine ⟨u, _, rfl, SqT.of (s4 _ _ hu), rfl, _, _, rfl, _, _, rfl, _, _, rfl, rfl, ?_⟩
        refine ⟨_, rfl, .inl ⟨rfl, _, SqL.of h4'⟩, _, rfl, _, rfl, ?_⟩
        have et : (ks.take (i + 1)).map kindRow = (ks.take i).map kindRow ++ [kindRow kd] := by rw [List.take_add_one, hkd, List.map_append] <;> rfl
        have fin : ∀ (w : Str) (H5 : Hp) (d5 : Addr), w = (if kd.once then sOnce else sAlways) → Same H4 H5 → H5 d5 = some (.lst (actV2 kd.acts)) → ∀ u6, H5 u6 = none → (∃ vs' y2 y3 y4 y5 y6, [some (V.ref p), some (.ref D), o2, o3, some (.int kd.ev), some (.bl kd.once), some (.ref pa)] = [some (V.ref p), some (.ref D), y2, y3, y4, y5, y6] ∧ Same H (upd (upd H5 u6 (.tup ([.str "kind", .int kd.ev, .str w] ++ actV2 kd.acts))) D (.lst (vs4 ++ [.ref u6]))) ∧ (upd (upd H5 u6 (.tup ([.str "kind", .int kd.ev, .str w] ++ actV2 kd.acts))) D (.lst (vs4 ++ [.ref u6]))) D = some (.lst vs') ∧ Paired (RowAt (upd (upd H5 u6 (.tup ([.str "kind", .int kd.ev, .str w] ++ actV2 kd.acts))) D (.lst (vs4 ++ [.ref u6])))) vs' ([sEvents, dig ev] :: (ruleRows hs ++ (ks.take (i + 1)).map kindRow))) ∧ (upd H5 u6 (.tup ([.str "kind", .int kd.ev, .str w] ++ actV2 kd.acts))) D = some (.lst vs4) := by
          intro w H5 d5 ew s5 h5 u6 hu6
          obtain ⟨a1, a2, a3⟩ := add H5 vs4 _ u6 ([.str "kind", .int kd.ev, .str w] ++ actV2 kd.acts) (kindRow kd) (s4.trans s5) (s5 _ _ h4') (paired_mono (fun _ _ f => f.mono (Kt.of s5)) pr4) hu6 (by
            rw [ew]
            exact .cons (.inl rfl) (.cons (.inr ⟨kd.ev, by omega, rfl, rfl⟩) (.cons (.inl rfl) (wordsV ea))))
          refine ⟨⟨_, _, _, _, _, _, rfl, a2, upd_same, ?_⟩, a1⟩
          rw [et, ← List.append_assoc]
          exact a3
        have lenV : (actV2 kd.acts).length ≤ 6 := by
          rw [Paired.length (wordsV ea)]
          have := (acts_short ea).1
          omega
        have A2 : ActsAt H4 (.ref pa) kd.acts := ActsAt.mono (Kt.of s4) ⟨pa, as, rfl, hta, pra⟩
        cases eo : kd.once with
        | true =>
          rw [eo] at fin
          refine ⟨_, rfl, ?_⟩
          refine iteT ?_
          refine ⟨_, rfl, _, kd.acts, rfl, A2, by omega, fun H5 d5 s5 h5 => ?_⟩
          refine ⟨d5, _, rfl, .inr (SqL.of h5), (by simp; omega), fun u6 hu6 => ?_⟩
          rw [List.append_nil]
          obtain ⟨f1, f2⟩ := fin sOnce H5 d5 rfl s5 h5 u6 hu6
          exact ⟨_, _, _, rfl, rfl, f2, by omega, f1⟩
        | false =>
          rw [eo] at fin
          refine ⟨_, rfl, ?_⟩
          refine iteF ?_
          refine ⟨_, rfl, _, kd.acts, rfl, A2, by omega, fun H5 d5 s5 h5 => ?_⟩
          refine ⟨d5, _, rfl, .inr (SqL.of h5), (by simp; omega), fun u6 hu6 => ?_⟩
          rw [List.append_nil]
          obtain ⟨f1, f2⟩ := fin sAlways H5 d5 rfl s5 h5 u6 hu6
          exact ⟨_, _, _, rfl, rfl, f2, by omega, f1⟩
      · obtain ⟨vs4, o2, o3, o4, o5, o6, rfl, s4, h4', pr4⟩ := q
        rw [lk, List.take_length] at pr4
        refine ⟨_, rfl, D, vs4, _, rfl, SqL.of h4', pr4, hall_short ok, fun H5 s5 => ?_⟩
        exact k _ (s4.trans s5)
end K5
set_option Elab.async false
set_option linter.all false
set_option maxRecDepth 100000
set_option maxHeartbeats 4000000
namespace K5
open PySem PySem.Spec PyProof.Rows L2
variable {P : Program} {w : World} {K : PySem.W.Frag} {mg : Str → Option Value} {base : Heap}
/-! ### check_history, history_text -/
def DeedAt (H : Hp) (v : V) (d : Deed) : Prop := ∃ p, v = .ref p ∧ H p = some (.tup [.str d.1.s, .int d.2])
theorem DeedAt.mono {H H' : Hp} {v : V} {d : Deed} (k : Kt H H') (h : DeedAt H v d) : DeedAt H' v d := by
  obtain ⟨p, e, h⟩ := h
  exact ⟨p, e, k _ _ h⟩
def DeedsAt (H : Hp) (v : V) (ds : List Deed) : Prop := ∃ p vs, v = .ref p ∧ H p = some (.lst vs) ∧ Paired (DeedAt H) vs ds
theorem DeedsAt.mono {H H' : Hp} {v : V} {ds : List Deed} (s : Same H H') (h : DeedsAt H v ds) : DeedsAt H' v ds := by
  obtain ⟨p, vs, e, h, q⟩ := h
  exact ⟨p, vs, e, s _ _ h, paired_mono (fun _ _ f => f.mono (Kt.of s)) q⟩
theorem klt : PySem.W.kitAny K (.type "list") [.type "list", .type "tuple"] = some true := by rfl
theorem scCheckHistory : FnScope ["hall", "history", "index", "deed"] ["hall", "history"] (defScope sCheckHistory) := ⟨rfl, rfl, rfl, by decide +kernel, rfl, by decide +kernel, by decide +kernel⟩
def spCheckHistory (K : PySem.W.Frag) : Sp := fun vs H Q _ => ∃ (v u : V) (h : HallD) (ds : List Deed), vs = [v, u] ∧ HallAt K H v h ∧ DeedsAt H u ds ∧ (∀ d ∈ ds, deedOk h.events h.kinds.length d = true) ∧ ∀ H', Same H H' → Q .non H'
theorem cl_checkHistory (T : Txt w K mg) (C_check_hall : Cl P w K mg base CX0 1 "check_hall" (spCheckHall K)) (C_is_deed : Cl P w K mg base CX0 3 "is_deed" (spIsDeed K)) : Cl P w K mg base CX0 4 "check_history" (spCheckHistory K) := by
  refine cl_def T (i := 21) (j := 11) rfl (by decide +kernel) scCheckHistory (fun _ _ _ _ _ _ us hl => match us, hl with | [_, _], _ => rfl) (fun vs H Q E h => ?_) (fun cdv A outer s H vs Q E hr h => ?_)
  · obtain ⟨v, u, h, ds, rfl, _⟩ := h
    rfl
  · obtain ⟨v, u, h, ds, rfl, ha, hd, hk, k⟩ := h
    obtain ⟨p, vs, rfl, hp, pr⟩ := id hd
    refine ⟨_, (pss_cons (ps_expr (pe_cl C_check_hall hr (by decide) pass0 rfl (pa_cons (pv 0) pa_nil)))
      (pss_cons (ps_if (pt_not (pt_val (pe_callB call_isiT (by rfl) (fr T "isinstance") PyProof.Rows.boot_isinstance (pa_cons (pv 1) (pa_cons (pe_tup (pa_cons (tyList T) (pa_cons (tyTup T) pa_nil))) pa_nil))))) (pss_one ps_never) pss_nil)
      (pss_one (ps_for PassesOwn.never rfl (pi_enum (by rfl) (fr T "enumerate") (pa_cons (pv 1) pa_nil)) (pg_tup (by rfl) (pgs_cons (pg_name (i := 2) scCheckHistory.nd rfl (by first | exact Or.inl rfl | exact Or.inr rfl)) (pgs_cons (pg_name (i := 3) scCheckHistory.nd rfl (by first | exact Or.inl rfl | exact Or.inr rfl)) pgs_nil))) (pss_one (ps_if (pt_not (pt_val (pe_cl C_is_deed hr (by decide) pass0 rfl (pa_cons (pv 0) (pa_cons (pv 3) pa_nil))))) (pss_one ps_never) pss_nil)))))), ?_⟩
    refine ⟨_, rfl, _, _, rfl, ha, ?_⟩
    refine ⟨_, rfl, (by show 2 ≤ sizeLine; decide), fun q hq => ?_⟩
    have s1 : Same H (upd H q (.tup [.ty "list", .ty "tuple"])) := Same.new hq
    refine ⟨_, _, _, _, _, _, rfl, upd_same, .cons (.ty _) (.cons (.ty _) .nil), .base (.lst (s1 _ _ hp)), klt, _, rfl, ?_⟩
    refine iteF ?_
    refine ⟨_, rfl, p, vs, rfl, SqL.of (s1 _ _ hp), ?_⟩
    refine for_it (walk_enum (xs := vs)) (fun i σ H' => ∃ o2 o3, σ = [some v, some (.ref p), o2, o3] ∧ Same H H') ⟨none, none, rfl, s1⟩ (fun i σ H' _ q => ?_) (fun i x σ H3 H4 hi q y => ?_) (fun σ H3 q => ?_)
    · obtain ⟨_, _, _, s⟩ := q
      exact SqL.of (s _ _ hp)
    · obtain ⟨o2, o3, rfl, s3⟩ := q
      obtain ⟨T1, x1, x2, rfl, hT1, rfl, e1, e2⟩ := y
      replace e2 : vs[i]? = some x2 := e2
      have z1 : x1 = .int (i : Nat) := (Option.some.inj e1).symm
      subst z1
      have s4 : Same H3 (upd H3 T1 (.tup [.int (i : Nat), x2])) := Same.new hT1
      obtain ⟨d, hdm, q2, rfl, hq2⟩ := paired_get pr e2
      refine ⟨T1, _, rfl, SqT.of upd_same, rfl, _, _, rfl, _, _, rfl, rfl, ?_⟩
      refine ⟨_, rfl, _, rfl, _, _, h, some (d.1.s, some d.2), rfl, ha.mono (s3.trans s4), ⟨q2, rfl, s4 _ _ (s3 _ _ hq2)⟩, fun H5 s5 => ?_⟩
      have e : optD h.events h.kinds.length (some (d.1.s, some d.2)) = true := by
        show (match w3 d.1.s with | some w => deedOk h.events h.kinds.length (w, d.2) | none => false) = true
        rw [w3_s]
        exact hk d (List.mem_of_getElem? hdm)
      rw [e]
      refine ⟨_, rfl, ?_⟩
      exact iteF ⟨_, _, rfl, (s3.trans s4).trans s5⟩
    · obtain ⟨o2, o3, rfl, s3⟩ := q
      exact k _ s3
theorem scHistoryText : FnScope ["hall", "history"] ["hall", "history"] (defScope sHistoryText) := ⟨rfl, rfl, rfl, by decide +kernel, rfl, by decide +kernel, by decide +kernel⟩
def spHistoryText (K : PySem.W.Frag) : Sp := fun vs H Q _ => ∃ (v u : V) (h : HallD) (ds : List Deed), vs = [v, u] ∧ HallAt K H v h ∧ DeedsAt H u ds ∧ ds.length ≤ 40 ∧ (∀ d ∈ ds, deedOk h.events h.kinds.length d = true) ∧ ∀ H', Same H H' → Q (.str (histText ds)) H'
theorem hist_short {ev many : Nat} (he : ev ≤ 3) (hm : many ≤ 4) {ds : List Deed} (hl : ds.length ≤ 40) (hk : ∀ d ∈ ds, deedOk ev many d = true) : Short (ds.map deedRow) := by
  refine ⟨by rw [List.length_map]; exact hl, fun r hr => ?_⟩
  obtain ⟨d, hd, rfl⟩ := List.mem_map.mp hr
  have h1 := deed_small he hm (hk d hd)
  refine ⟨(by show 2 ≤ 40; decide), fun z hz => ?_⟩
  rcases List.mem_cons.mp hz with rfl | hz
  · cases d.1 <;> decide +kernel
  · rw [List.mem_singleton.mp hz, dig_len h1]
    decide
theorem deed_row {ev many : Nat} (he : ev ≤ 3) (hm : many ≤ 4) {H : Hp} : ∀ {vs : List V} {ds : List Deed}, (∀ d ∈ ds, deedOk ev many d = true) → Paired (DeedAt H) vs ds → Paired (RowAt H) vs (ds.map deedRow)
  | _, _, _, .nil => .nil
  | _, d :: _, hk, .cons f r => .cons (by
      obtain ⟨p, e, hp⟩ := f
      exact ⟨p, _, e, hp, .cons (.inl rfl) (.cons (.inr ⟨d.2, deed_small he hm (hk d (by simp)), rfl, rfl⟩) .nil)⟩) (deed_row he hm (fun e h => hk e (by simp [h])) r)
theorem cl_historyText (T : Txt w K mg) (C_check_history : Cl P w K mg base CX0 4 "check_history" (spCheckHistory K)) (C_text_of : Cl P w K mg base CX0 1 "text_of" (spTextOf K)) : Cl P w K mg base CX0 5 "history_text" (spHistoryText K) := by
  refine cl_def T (i := 29) (j := 15) rfl (by decide +kernel) scHistoryText (fun _ _ _ _ _ _ us hl => match us, hl with | [_, _], _ => rfl) (fun vs H Q E h => ?_) (fun cdv A outer s H vs Q E hr h => ?_)
  · obtain ⟨v, u, h, ds, rfl, _⟩ := h
    rfl
  · obtain ⟨v, u, h, ds, rfl, ha, hd, hl, hk, k⟩ := h
    have ok : HallOk h := ha.choose_spec.choose_spec.choose_spec.2.2.2
    refine ⟨_, (pss_cons (ps_expr (pe_cl C_check_history hr (by decide) pass0 rfl (pa_cons (pv 0) (pa_cons (pv 1) pa_nil))))
      (pss_one (ps_ret (pe_cl C_text_of hr (by decide) pass0 rfl (pa_cons (pv 1) pa_nil))))), ?_⟩
    refine ⟨_, rfl, _, rfl, _, _, h, ds, rfl, ha, hd, hk, fun H1 s1 => ?_⟩
    obtain ⟨p, vs, rfl, hp, pr⟩ := hd.mono s1
    refine ⟨_, rfl, p, vs, _, rfl, SqL.of hp, deed_row ok.e3 (kindsOk_iff ok.ks).l4 hk pr, hist_short ok.e3 (kindsOk_iff ok.ks).l4 hl hk, fun H2 s2 => ?_⟩
    exact k _ (s1.trans s2)
/-! ### lines_in -/
theorem scLinesIn : FnScope ["text", "rows"] ["text"] (defScope sLinesIn) := ⟨rfl, rfl, rfl, by decide +kernel, rfl, by decide +kernel, by decide +kernel⟩
def spLinesIn : Sp := fun vs H Q _ => ∃ t : Str, vs = [.str t] ∧ t.length + 2 ≤ sizeLine ∧ ∀ H' p q, Same H H' → H q = none → H' p = some (.tup [.ref q, .str (restOf t)]) → H' q = some (.lst ((Txt.split t NL).dropLast.map V.str)) → Q (.ref p) H'
theorem cl_linesIn (T : Txt w K mg) : Cl P w K mg base CX0 1 "lines_in" spLinesIn := by
  refine cl_def T (i := 30) (j := 16) rfl (by decide +kernel) scLinesIn (fun _ _ _ _ _ _ us hl => match us, hl with | [_], _ => rfl) (fun vs H Q E h => ?_) (fun cdv A outer s H vs Q E hr h => ?_)
  · obtain ⟨t, rfl, _⟩ := h
    rfl
  · obtain ⟨t, rfl, ht, k⟩ := h
    refine ⟨_, (pss_cons (ps_if (pt_not (pt_val (isi T (pa_cons (pv 0) (pa_cons (tyStr T) pa_nil))))) (pss_one ps_never) pss_nil)
      (pss_cons (ps_set (i := 1) scLinesIn.nd rfl (by first | exact Or.inl rfl | exact Or.inr rfl) (pe_split (pv 0) pe_str))
      (pss_one (ps_ret (pe_tup (pa_cons (pe_slice sl_list (pv 1) po_none (po_some (pe_un un_neg pe_int))) (pa_cons (pe_ix ix_list (pv 1) (pe_un un_neg pe_int) (fun _ _ => rfl)) pa_nil))))))), ?_⟩
    refine ⟨_, rfl, _, _, _, _, _, rfl, .ty _, .base (.str _), kst, _, rfl, ?_⟩
    refine iteF ?_
    refine ⟨_, rfl, ⟨_, rfl⟩, _, _, rfl, rfl, rfl, ht, fun l hl => ?_⟩
    have hl0 : (upd H l (.lst ((Txt.split t NL).map V.str))) l = some (.lst ((Txt.split t NL).map V.str)) := upd_same
    refine ⟨_, rfl, _, rfl, _, rfl, _, _, rfl, SqL.of hl0, fun q hq => ?_⟩
    have s1 : Same H (upd H l (.lst ((Txt.split t NL).map V.str))) := Same.new hl
    have e1 : cutV ((Txt.split t NL).map V.str) none (some (-1)) = (Txt.split t NL).dropLast.map V.str := by rw [cut_init, List.map_dropLast]
    rw [e1]
    have e2 : atI ((Txt.split t NL).map V.str) (-1) = some (.str (restOf t)) := by
      have h1 := split_parts t
      rw [h1, List.map_append]
      exact atI_last _ _
    refine ⟨_, rfl, _, rfl, _, _, _, _, rfl, rfl, SqL.of (Same.new hq _ _ hl0), e2, (by show 2 ≤ sizeLine; decide), fun p hp => ?_⟩
    exact k _ _ q (Same.new' (Same.new' s1 hq) hp) (Same.none s1 hq) upd_same (Same.new hp _ _ upd_same)
end K5
set_option Elab.async false
set_option linter.all false
set_option maxRecDepth 100000
set_option maxHeartbeats 4000000
/-! How long the parts of a text are. -/
namespace K5
open PySem
theorem spl1_len (c : Nat) : ∀ (l acc : List Nat), (TL.spl [c] 0 acc l).length ≤ l.length + 1
  | [], acc => by rw [TL.spl_nil]; simp
  | d :: r, acc => by
    rw [spl1_cons]
    by_cases h : d = c
    · rw [if_pos h, List.length_cons, List.length_cons]
      have := spl1_len c r []
      omega
    · rw [if_neg h, List.length_cons]
      have := spl1_len c r (acc ++ [d])
      omega
theorem spl1_part (c : Nat) : ∀ (l acc : List Nat), ∀ p ∈ TL.spl [c] 0 acc l, p.length ≤ acc.length + l.length
  | [], acc, p, hp => by
    rw [TL.spl_nil, List.mem_singleton] at hp
    rw [hp]
    omega
  | d :: r, acc, p, hp => by
    rw [spl1_cons] at hp
    by_cases h : d = c
    · rw [if_pos h] at hp
      rcases List.mem_cons.mp hp with hp | hp
      · rw [hp]; omega
      · have := spl1_part c r [] p hp
        rw [List.length_cons]
        simp at this
        omega
    · rw [if_neg h] at hp
      have := spl1_part c r (acc ++ [d]) p hp
      rw [List.length_append, List.length_singleton] at this
      rw [List.length_cons]
      omega
theorem tl_len (z : Str) : (TL.tl z).length = z.length := by
  exact Array.length_toList
theorem Sep.len {y : Str} {c : Nat} (s : Sep y c) (t : Str) : (Txt.split t y).length ≤ t.length + 1 := by
  have h := congrArg List.length (s.split t)
  rw [List.length_map] at h
  rw [h]
  have := spl1_len c (TL.tl t) []
  rw [tl_len] at this
  exact this
theorem Sep.part {y : Str} {c : Nat} (s : Sep y c) (t : Str) : ∀ p ∈ Txt.split t y, p.length ≤ t.length := fun p hp => by
  have h : TL.tl p ∈ (Txt.split t y).map TL.tl := List.mem_map.mpr ⟨p, hp, rfl⟩
  rw [s.split] at h
  have := spl1_part c (TL.tl t) [] _ h
  rw [tl_len, tl_len] at this
  simpa using this
end K5
set_option Elab.async false
set_option linter.all false
set_option maxRecDepth 100000
set_option maxHeartbeats 4000000
namespace K5
open PySem PySem.Spec PyProof.Rows L2
variable {P : Program} {w : World} {K : PySem.W.Frag} {mg : Str → Option Value} {base : Heap}
/-! ### read_history -/
theorem pmk_of {X : Cx} {e : Expr} {t : L2.St → Hp → XK → Prop} (h : L2N.PMk X e t) : L2.PMk X e t := fun pins s σ H Q I q => thn (h pins s σ H Q I q) fun u s' ⟨a, oe, vs, sI, H', cls, d, e1, J, k, n, g, z, r⟩ => ⟨a, oe, vs, sI, H', cls, d, e1, J, k, n, g, z.zc, r⟩
def optW : List Str → Option (Str × Option Nat)
  | [a, b] => some (a, numIn b)
  | _ => none
theorem optD_row (ev many : Nat) (ws : List Str) : optD ev many (optW ws) = deedRowOk ev many ws := by
  unfold deedRowOk deedIn
  match ws with
  | [] => rfl
  | [_] => rfl
  | [a, b] =>
    show optD ev many (some (a, numIn b)) = _
    dsimp only
    cases hb : numIn b with
    | none =>
      cases w3 a <;> rfl
    | some n =>
      show (match w3 a with | some w => deedOk ev many (w, n) | none => false) = _
      cases w3 a <;> rfl
  | _ :: _ :: _ :: _ => rfl
theorem optW_some {ws : List Str} {d : Deed} (h : deedIn ws = some d) : optW ws = some (d.1.s, some d.2) := by
  rw [deedIn_some h]
  show some (d.1.s, numIn (dig d.2)) = _
  have h2 := h
  rw [deedIn_some h] at h2
  unfold deedIn deedRow at h2
  dsimp only at h2
  rw [w3_s] at h2
  cases hn : numIn (dig d.2) with
  | none => rw [hn] at h2; cases h2
  | some n =>
    rw [hn] at h2
    have h3 := congrArg Prod.snd (Option.some.inj h2)
    have h4 : n = d.2 := h3
    rw [h4]
theorem scReadHistory : FnScope ["hall", "text", "lines", "rest", "found", "row", "line", "words", "deed"] ["hall", "text"] (defScope sReadHistory) := ⟨rfl, rfl, rfl, by decide +kernel, rfl, by decide +kernel, by decide +kernel⟩
def spReadHistory (K : PySem.W.Frag) : Sp := fun vs H Q E => ∃ (v : V) (t : Str) (h : HallD), vs = [v, .str t] ∧ HallAt K H v h ∧ t.length ≤ 1000000 ∧
  (match readHist h.events h.kinds.length t with
  | .ok ds => ∀ H' u, Same H H' → DeedsAt H' u ds → Q u H'
  | .error i => ∀ H' d, Same H H' → H d = none → H' d = some (.xd [(("row" : Str), .int (i : Nat))]) → E (.ref (He.ga K "BadText")) (some d) H')
theorem cl_readHistory (T : Txt w K mg) (G : PrgOk P) (C_check_hall : Cl P w K mg base CX0 1 "check_hall" (spCheckHall K)) (C_lines_in : Cl P w K mg base CX0 1 "lines_in" spLinesIn) (C_number_in : Cl P w K mg base CX0 1 "number_in" spNumberIn) (C_is_deed : Cl P w K mg base CX0 3 "is_deed" (spIsDeed K)) :
    Cl P w K mg base (L2.CX P w) 4 "read_history" (spReadHistory K) := by
  refine cl_defX T (i := 37) (j := 23) rfl (by decide +kernel) scReadHistory (fun _ _ _ _ _ _ us hl => match us, hl with | [_, _], _ => rfl) (fun vs H Q E h => ?_) (fun cdv A outer s H vs Q E hr h => ?_)
  · obtain ⟨v, t, h, rfl, _⟩ := h
    rfl
  · obtain ⟨v, t, h, rfl, ha, ht, k⟩ := h
    refine ⟨_, (pss_cons (ps_expr (pe_cl C_check_hall hr (by decide) pass0 rfl (pa_cons (pv 0) pa_nil)))
      (pss_cons (ps_asg (pe_cl C_lines_in hr (by decide) pass0 rfl (pa_cons (pv 1) pa_nil)) (pg_tup (by rfl) (pgs_cons (pg_name (i := 2) scReadHistory.nd rfl (by first | exact Or.inl rfl | exact Or.inr rfl)) (pgs_cons (pg_name (i := 3) scReadHistory.nd rfl (by first | exact Or.inl rfl | exact Or.inr rfl)) pgs_nil))))
      (pss_cons (ps_set (i := 4) scReadHistory.nd rfl (by first | exact Or.inl rfl | exact Or.inr rfl) (pe_lst pa_nil))
      (pss_cons (ps_for (passes_of rfl) rfl (pi_enum (by rfl) (fr T "enumerate") (pa_cons (pv 2) pa_nil)) (pg_tup (by rfl) (pgs_cons (pg_name (i := 5) scReadHistory.nd rfl (by first | exact Or.inl rfl | exact Or.inr rfl)) (pgs_cons (pg_name (i := 6) scReadHistory.nd rfl (by first | exact Or.inl rfl | exact Or.inr rfl)) pgs_nil))) (pss_cons (ps_set (i := 7) scReadHistory.nd rfl (by first | exact Or.inl rfl | exact Or.inr rfl) (pe_split (pv 6) pe_str))
      (pss_cons (ps_set (i := 8) scReadHistory.nd rfl (by first | exact Or.inl rfl | exact Or.inr rfl) (pe_ifExp (pt_cmpR op_eq (pe_callB call_len_seq (by rfl) (fr T "len") boot_len (pa_cons (pv 7) pa_nil)) pe_int (nomark _)) (pe_tup (pa_cons (pe_ix ix_list (pv 7) pe_int (fun _ _ => rfl)) (pa_cons (pe_cl C_number_in hr (by decide) pass0 rfl (pa_cons (pe_ix ix_list (pv 7) pe_int (fun _ _ => rfl)) pa_nil)) pa_nil))) pe_non))
      (pss_cons (ps_if (pt_not (pt_val (pe_cl C_is_deed hr (by decide) pass0 rfl (pa_cons (pv 0) (pa_cons (pv 8) pa_nil))))) (pss_one (ps_raise rfl (takes_of rfl rfl rfl rfl) (pmk_of (pmkBadText T.bt G (fr T "super") (dp_of hr) (pa_cons (pv 5) pa_nil))))) pss_nil)
      (pss_one (ps_expr (pe_bm PySem.F.plainAttrs_list PySem.F.slot_list_append PySem.F.type_list_append mt_append (pv 4) (pa_cons (pv 8) pa_nil))))))))
      (pss_cons (ps_if (pt_cmpR op_ne (pv 3) pe_str (nomark _)) (pss_one (ps_raise rfl (takes_of rfl rfl rfl rfl) (pmk_of (pmkBadText T.bt G (fr T "super") (dp_of hr) (pa_cons (pe_callB (r := rLenS K) call_len_seq (by rfl) (fr T "len") boot_len (pa_cons (pv 2) pa_nil)) pa_nil))))) pss_nil)
      (pss_one (ps_ret (pv 4)))))))), ?_⟩
    have sl : sizeLine = 16777216 := sizeLine_eq
    refine ⟨_, rfl, _, _, rfl, ha, ?_⟩
    refine ⟨_, rfl, t, rfl, by omega, fun H1 p1 L s1 nL hp1 hL => ?_⟩
    refine ⟨p1, _, rfl, SqT.of hp1, rfl, _, _, rfl, _, _, rfl, rfl, ?_⟩
    refine ⟨Nat.zero_le _, fun F hF => ?_⟩
    have hFH : H F = none := Same.none s1 hF
    have LF : L ≠ F := fun z => by rw [← z, hL] at hF; cases hF
    have hlen : (rowsOf t).length = (Txt.split t NL).dropLast.length := by unfold rowsOf; rw [List.length_map]
    have hn : (Txt.split t NL).dropLast.length ≤ 1000001 := by
      rw [List.length_dropLast]
      have := sepN.len t
      omega
    refine ⟨_, rfl, L, _, rfl, SqL.of (Same.new hF _ _ hL), ?_⟩
    refine for_it (walk_enum (xs := (Txt.split t NL).dropLast.map V.str)) (fun i σ H' => ∃ vs o5 o6 o7 o8, σ = [some v, some (.str t), some (.ref L), some (.str (restOf t)), some (.ref F), o5, o6, o7, o8] ∧ Same H H' ∧ H' L = some (.lst ((Txt.split t NL).dropLast.map V.str)) ∧ H' F = some (.lst vs) ∧ Paired (DeedAt H') vs (((rowsOf t).take i).filterMap deedIn) ∧ vs.length ≤ i ∧ ∀ j r', j < i → (rowsOf t)[j]? = some r' → deedRowOk h.events h.kinds.length r' = true)
      ⟨[], none, none, none, none, rfl, Same.new' s1 hF, Same.new hF _ _ hL, upd_same, .nil, Nat.le_refl _, fun j r' hj => absurd hj (Nat.not_lt_zero j)⟩ (fun i σ H' _ q => ?_) (fun i x σ H3 H4 hi q y => ?_) (fun σ H3 q => ?_)
    · obtain ⟨_, _, _, _, _, _, _, q, _⟩ := q
      exact SqL.of q
    · obtain ⟨vs, o5, o6, o7, o8, rfl, s3, hL3, hF3, pr, hvl, hok⟩ := q
      rw [List.length_map] at hi
      obtain ⟨T1, x1, x2, rfl, hT1, rfl, e1, e2⟩ := y
      replace e2 : ((Txt.split t NL).dropLast.map V.str)[i]? = some x2 := e2
      have z1 : x1 = .int (i : Nat) := (Option.some.inj e1).symm
      subst z1
      have el : (Txt.split t NL).dropLast[i]? = some (Txt.split t NL).dropLast[i] := List.getElem?_eq_getElem hi
      have hlm : (Txt.split t NL).dropLast[i] ∈ Txt.split t NL := List.dropLast_subset _ (List.getElem_mem hi)
      generalize (Txt.split t NL).dropLast[i] = line at el hlm
      rw [List.getElem?_map, el] at e2
      have z2 : x2 = .str line := (Option.some.inj e2).symm
      subst z2
      have hll := sepN.part t line hlm
      have er : (rowsOf t)[i]? = some (Txt.split line SP) := by
        unfold rowsOf
        rw [List.getElem?_map, el] <;> rfl
      have s4 : Same H3 (upd H3 T1 (.tup [.int (i : Nat), .str line])) := Same.new hT1
      refine ⟨T1, _, rfl, SqT.of upd_same, rfl, _, _, rfl, _, _, rfl, rfl, ?_⟩
      refine ⟨_, rfl, ⟨_, rfl⟩, _, _, rfl, rfl, rfl, by omega, fun W hW => ?_⟩
      have s5 : Same H3 (upd (upd H3 T1 (.tup [.int (i : Nat), .str line])) W (.lst ((Txt.split line SP).map V.str))) := Same.new' s4 hW
      have hwz : ∀ z ∈ Txt.split line SP, z.length ≤ sizeLine := fun z hz => by
        have := sepS.part line z hz
        omega
      generalize hws : Txt.split line SP = ws at er hwz s5 ⊢
      have hWl : (upd (upd H3 T1 (.tup [.int (i : Nat), .str line])) W (.lst (ws.map V.str))) W = some (.lst (ws.map V.str)) := upd_same
      generalize (upd (upd H3 T1 (.tup [.int (i : Nat), .str line])) W (.lst (ws.map V.str))) = H5 at s5 hWl ⊢
      have s35 := s3.trans s5
      -- what stands behind the deed
      have fin : ∀ (u : V) (H6 : Hp), Same H5 H6 → DeedV H6 u (optW ws) → ∀ H7, Same H6 H7 → (∀ d, H7 d = none → deedRowOk h.events h.kinds.length ws = false → E (.ref (He.ga K "BadText")) (some d) (upd H7 d (.xd [(("row" : Str), .int (i : Nat))]))) ∧
          (deedRowOk h.events h.kinds.length ws = true → H7 F = some (.lst vs) ∧ ∃ vs' o5 o6 o7 o8, [some v, some (.str t), some (.ref L), some (.str (restOf t)), some (.ref F), some (V.int (i : Nat)), some (.str line), some (.ref W), some u] = [some v, some (.str t), some (.ref L), some (.str (restOf t)), some (.ref F), o5, o6, o7, o8] ∧ Same H (upd H7 F (.lst (vs ++ [u]))) ∧ (upd H7 F (.lst (vs ++ [u]))) L = some (.lst ((Txt.split t NL).dropLast.map V.str)) ∧ (upd H7 F (.lst (vs ++ [u]))) F = some (.lst vs') ∧ Paired (DeedAt (upd H7 F (.lst (vs ++ [u])))) vs' (((rowsOf t).take (i + 1)).filterMap deedIn) ∧ vs'.length ≤ i + 1 ∧ ∀ j r', j < i + 1 → (rowsOf t)[j]? = some r' → deedRowOk h.events h.kinds.length r' = true) := by
        intro u H6 s6 hu H7 s7
        have s67 := s6.trans s7
        refine ⟨fun d hd hbad => ?_, fun hgood => ?_⟩
        · have hfb : fb (fun _ => deedRowOk h.events h.kinds.length) 0 (rowsOf t) = some i := by
            have := fb_some (p := fun _ => deedRowOk h.events h.kinds.length) (k := 0) er hbad (fun j r' hj hr => hok j r' hj hr)
            rwa [Nat.zero_add] at this
          have hrh : readHist h.events h.kinds.length t = .error i := by
            unfold readHist
            rw [hfb]
          rw [hrh] at k
          exact k _ _ (s35.trans (s67.trans (Same.new hd))) (Same.none (s35.trans s67) hd) upd_same
        · have hF7 := s67 _ _ (s5 _ _ hF3)
          obtain ⟨dd, hdd⟩ : ∃ dd, deedIn ws = some dd := by
            unfold deedRowOk at hgood
            cases hq : deedIn ws with
            | none => rw [hq] at hgood; cases hgood
            | some dd => exact ⟨dd, rfl⟩
          rw [optW_some hdd] at hu
          obtain ⟨pu, rfl, hpu⟩ := hu
          have hpF : pu ≠ F := fun z => by
            rw [z] at hpu
            have := s7 _ _ hpu
            rw [hF7] at this
            cases this
          refine ⟨hF7, _, _, _, _, _, rfl, ?_, ?_, upd_same, ?_, by rw [List.length_append, List.length_singleton]; omega, fun j r' hj hr => ?_⟩
          · intro b o hb
            rw [upd_ne (ne_of_none hb hFH)]
            exact s67 _ _ (s35 _ _ hb)
          · rw [upd_ne LF]
            exact s67 _ _ (s5 _ _ hL3)
          · have et : ((rowsOf t).take (i + 1)).filterMap deedIn = ((rowsOf t).take i).filterMap deedIn ++ [dd] := by
              rw [List.take_add_one, er, List.filterMap_append]
              simp [hdd]
            rw [et]
            have kt : Kt H3 (upd H7 F (.lst (vs ++ [.ref pu]))) := by
              intro b xs hb
              rw [upd_ne (ne_of hb hF3 (by intro z; cases z))]
              exact s67 _ _ (s5 _ _ hb)
            refine Paired.snoc (paired_mono (fun _ _ f => f.mono kt) pr) ⟨pu, rfl, ?_⟩
            rw [upd_ne hpF]
            exact s7 _ _ hpu
          · rcases Nat.lt_or_ge j i with hj' | hj'
            · exact hok j r' hj' hr
            · have : j = i := by omega
              subst this
              rw [er] at hr
              cases hr
              exact hgood
      refine ⟨_, rfl, _, _, rfl, .inl (SqL.of hWl), rfl, _, rfl, ?_⟩
      rw [List.length_map]
      match ws, er, hwz, hWl, fin with
      | [], er, hwz, hWl, fin =>
        have e : decide (V.int (([] : List Str).length : Int) = V.int 2) = false := decide_eq_false (fun z => by injection z with z; simp at z <;> omega)
        refine iteF' e ?_
        refine ⟨_, rfl, _, rfl, _, _, h, none, rfl, ha.mono s35, rfl, fun H7 s7 => ?_⟩
        rw [show (none : Option (Str × Option Nat)) = optW [] from rfl, optD_row]
        obtain ⟨f1, f2⟩ := fin .non _ (Same.refl _) rfl H7 s7
        cases hg : deedRowOk h.events h.kinds.length [] with
        | false =>
          refine ⟨_, rfl, iteT ?_⟩
          exact ⟨_, rfl, _, rfl, fun d hd => f1 d hd hg⟩
        | true =>
          obtain ⟨g1, g2⟩ := f2 hg
          refine ⟨_, rfl, iteF ?_⟩
          exact ⟨_, rfl, .inl ⟨rfl, _, SqL.of g1⟩, _, rfl, _, _, _, rfl, rfl, g1, by omega, g2⟩
      | [a], er, hwz, hWl, fin =>
        have e : decide (V.int (([a] : List Str).length : Int) = V.int 2) = false := decide_eq_false (fun z => by injection z with z; simp at z <;> omega)
        refine iteF' e ?_
        refine ⟨_, rfl, _, rfl, _, _, h, none, rfl, ha.mono s35, rfl, fun H7 s7 => ?_⟩
        rw [show (none : Option (Str × Option Nat)) = optW [a] from rfl, optD_row]
        obtain ⟨f1, f2⟩ := fin .non _ (Same.refl _) rfl H7 s7
        cases hg : deedRowOk h.events h.kinds.length [a] with
        | false =>
          refine ⟨_, rfl, iteT ?_⟩
          exact ⟨_, rfl, _, rfl, fun d hd => f1 d hd hg⟩
        | true =>
          obtain ⟨g1, g2⟩ := f2 hg
          refine ⟨_, rfl, iteF ?_⟩
          exact ⟨_, rfl, .inl ⟨rfl, _, SqL.of g1⟩, _, rfl, _, _, _, rfl, rfl, g1, by omega, g2⟩
      | a :: b :: c :: r, er, hwz, hWl, fin =>
        have e : decide (V.int (((a :: b :: c :: r) : List Str).length : Int) = V.int 2) = false := decide_eq_false (fun z => by injection z with z; simp at z <;> omega)
        refine iteF' e ?_
        refine ⟨_, rfl, _, rfl, _, _, h, none, rfl, ha.mono s35, rfl, fun H7 s7 => ?_⟩
        rw [show (none : Option (Str × Option Nat)) = optW (a :: b :: c :: r) from rfl, optD_row]
        obtain ⟨f1, f2⟩ := fin .non _ (Same.refl _) rfl H7 s7
        cases hg : deedRowOk h.events h.kinds.length (a :: b :: c :: r) with
        | false =>
          refine ⟨_, rfl, iteT ?_⟩
          exact ⟨_, rfl, _, rfl, fun d hd => f1 d hd hg⟩
        | true =>
          obtain ⟨g1, g2⟩ := f2 hg
          refine ⟨_, rfl, iteF ?_⟩
          exact ⟨_, rfl, .inl ⟨rfl, _, SqL.of g1⟩, _, rfl, _, _, _, rfl, rfl, g1, by omega, g2⟩
      | [a, b], er, hwz, hWl, fin =>
        refine iteT ?_
        have a0 : atI ([a, b].map V.str) (0 : Int) = some (.str a) := atI_nat (j := 0) rfl
        have a1 : atI ([a, b].map V.str) (1 : Int) = some (.str b) := atI_nat (j := 1) rfl
        refine ⟨_, rfl, _, _, _, _, rfl, rfl, SqL.of hWl, a0, _, rfl, _, _, _, _, rfl, rfl, SqL.of hWl, a1, _, rfl, hwz b (by simp), (by show 2 ≤ sizeLine; omega), fun u hu => ?_⟩
        have s6 : Same H5 (upd H5 u (.tup [.str a, optI (numIn b)])) := Same.new hu
        refine ⟨_, rfl, _, rfl, _, _, h, optW [a, b], rfl, ha.mono (s35.trans s6), ⟨u, rfl, upd_same⟩, fun H7 s7 => ?_⟩
        rw [optD_row]
        obtain ⟨f1, f2⟩ := fin (.ref u) _ s6 ⟨u, rfl, upd_same⟩ H7 s7
        cases hg : deedRowOk h.events h.kinds.length [a, b] with
        | false =>
          refine ⟨_, rfl, iteT ?_⟩
          exact ⟨_, rfl, _, rfl, fun d hd => f1 d hd hg⟩
        | true =>
          obtain ⟨g1, g2⟩ := f2 hg
          refine ⟨_, rfl, iteF ?_⟩
          exact ⟨_, rfl, .inl ⟨rfl, _, SqL.of g1⟩, _, rfl, _, _, _, rfl, rfl, g1, by omega, g2⟩
    · obtain ⟨vs, o5, o6, o7, o8, rfl, s3, hL3, hF3, pr, hvl, hok⟩ := q
      replace pr : Paired (DeedAt H3) vs (((rowsOf t).take ((Txt.split t NL).dropLast.map V.str).length).filterMap deedIn) := pr
      rw [List.length_map, ← hlen, List.take_length] at pr
      have hfb : fb (fun _ => deedRowOk h.events h.kinds.length) 0 (rowsOf t) = none := fb_none fun j r' hr => hok j r' (by
        rw [List.length_map, ← hlen]
        exact (List.getElem?_eq_some_iff.mp hr).1) hr
      refine ⟨_, rfl, rfl, _, rfl, ?_⟩
      by_cases hr : restOf t = NO
      · have e : (!decide (V.str (restOf t) = V.str "")) = false := by rw [hr]; decide +kernel
        refine iteF' e ?_
        have hrh : readHist h.events h.kinds.length t = .ok ((rowsOf t).filterMap deedIn) := by
          unfold readHist
          rw [hfb, hr]
          exact if_neg (fun z => z rfl)
        rw [hrh] at k
        exact ⟨_, rfl, k _ _ s3 ⟨F, vs, rfl, hF3, pr⟩⟩
      · have e : (!decide (V.str (restOf t) = V.str "")) = true := by rw [decide_eq_false (fun z => hr (by injection z))] <;> rfl
        refine iteT' e ?_
        have hrh : readHist h.events h.kinds.length t = .error (rowsOf t).length := by
          unfold readHist
          rw [hfb]
          exact if_pos hr
        rw [hrh] at k
        refine ⟨_, rfl, _, _, rfl, .inl (SqL.of hL3), _, rfl, fun d hd => ?_⟩
        refine k _ _ (s3.trans (Same.new hd)) (Same.none s3 hd) ?_
        rw [upd_same, List.length_map, hlen]
end K5
set_option Elab.async false
set_option linter.all false
set_option maxRecDepth 100000
set_option maxHeartbeats 4000000
/-! C(a, b, **d): a dict of texts handed over as keywords. -/
namespace K5
open PySem PySem.Spec PyProof.Rows L2
section
variable {prog : Program} {w : World} {A : Around} {E : Value → Shared → Prop} {s : Shared} {d a : Addr}
theorem pairs_at {P : Program} {w : World} : ∀ {l : List DictEntry} {kvs : List (Key × Value)} {i : Nat} {e : DictEntry}, Pairs (mixKind P w) l kvs → l[i]? = some e → ∃ kv, kvs[i]? = some kv ∧ (mixKind P w).is kv.1 e.key = true ∧ e.val = kv.2
  | _, _, _, _, .nil, h => by simp at h
  | _, _, 0, _, .cons h1 h2 _, h => by
    simp at h
    subst h
    exact ⟨_, rfl, h1, h2⟩
  | _, _, i + 1, e, .cons _ _ r, h => by
    obtain ⟨kv, z1, z2, z3⟩ := pairs_at (i := i) (e := e) r (by simpa using h)
    exact ⟨kv, by simpa using z1, z2, z3⟩
theorem find_none {P : Program} {w : World} {h : Heap} {d : Addr} {kvs : List (Key × Value)} {k : Key} {es : Array DictEntry} (hp : Pairs (mixKind P w) es.toList kvs) (hn : k ∉ kvs.map (·.1)) : (es.findIdx? fun e => (mixKind P w).is k e.key) = none := by
  have h1 : (es.findIdx? fun e => (mixKind P w).is k e.key) = kvs.findIdx? fun kv => decide (kv.1 = k) := by
    rw [← hp.findIdx k]
    obtain ⟨l⟩ := es
    simp
  rw [h1]
  exact List.findIdx?_eq_none_iff.mpr fun x hx => decide_eq_false fun z => hn (List.mem_map.mpr ⟨x, hx, z⟩)
theorem put_new {kvs : List (Key × Value)} {k : Key} {key v : Value} {Q : Unit → Shared → Prop} (hkey : keyIs k key = true) (hm : s.heap.DictOf (mixKind prog w) d kvs) (hn : k ∉ kvs.map (·.1)) (hsz : kvs.length ≤ sizeLine)
    (hQ : ∀ h', h'.DictOf (mixKind prog w) d (kvs ++ [(k, v)]) → Heap.SameBut d s.heap h' → Q () { s with heap := h' }) : wpAny (model prog w) A (dictPut d ((mixKind prog w).hash k) key v) Q E s := by
  obtain ⟨o, es, ep, ho, hc, hd, hk, hp, nd⟩ := hm
  have e1 := hp.length
  have e2 : es.toList.length = es.size := by simp
  unfold dictPut
  refine wpAny_bind (wpAny_dictFind_of (knd := mixKind prog w) hkey ho hd hk ?_)
  have hidx : (es.findIdx? fun e => (mixKind prog w).is k e.key) = none := find_none (h := s.heap) (d := d) hp hn
  rw [hidx]
  refine wpAny_updateDictKeys (hz := by omega) ho hd (hQ _ ⟨_, _, ep + 1, Heap.get?_update_self _ ho (Obj.isFreed_of_dict (Obj.data_mapDictKeys hd _)), hc.mapDictKeys _, Obj.data_mapDictKeys hd _, hk.push hkey _, ?_, ?_⟩ (Heap.SameBut.update ..))
  · have := hp.append hkey ((mixKind prog w).hash k) v
    obtain ⟨l⟩ := es
    simpa using this
  · rw [List.map_append, List.nodup_append]
    refine ⟨nd, by simp, fun x hx y hy z => ?_⟩
    simp only [List.map_cons, List.map_nil, List.mem_singleton] at hy
    subst hy
    exact hn (z ▸ hx)
theorem merge_run {vs : List (Key × Value)} {Q : Unit → Shared → Prop} (ha : s.heap.DictOf (mixKind prog w) a vs) (hs : (a == sysModules) = false) (hd : s.heap.DictOf (mixKind prog w) d []) (hne : d ≠ a) (hsz : vs.length ≤ sizeLine)
    (hQ : ∀ h' tk, h'.DictOf (mixKind prog w) d vs → (∀ b o, b ≠ d → s.heap.get? b = some o → h'.get? b = some o) → Q () { s with heap := h', toks := tk }) : wpAny (model prog w) A (mergeMapping d (.ref a) true) Q E s := by
  have hT := ha.typeIs
  obtain ⟨o, es, ep, ho, hc, hdat, hk, hp, nd⟩ := id ha
  obtain ⟨od, esd, epd, hod, hcd, hdatd, hkd, hpd, ndd⟩ := id hd
  have f1 := F.slot_dict_iter.lookup
  have f2 := F.sub_dict_dict
  have hes0 : esd.isEmpty = true := by
    have h1 := hpd.length
    simp at h1
    simpa [Array.isEmpty] using h1
  unfold mergeMapping
  refine wpAny_bind (wpAny_isInstance hT f2 ?_)
  simp only [if_true]
  refine wpAny_bind (wpAny_specialOf hT f1 ?_)
  rw [show (some (Value.builtin "dict.__iter__") == some (Value.builtin "dict.__iter__")) = true from beq_self_eq_true _]
  refine wpAny_bind (wpAny_pure ?_)
  dsimp only
  rw [if_neg (show ¬ (a == sysModules) = true from by rw [hs]; exact Bool.false_ne_true)]
  refine wpAny_bind (wpAny_dictEntries hod hdatd ?_)
  rw [if_pos hes0]
  refine wpAny_bind (wpAny_dictEntries ho hdat ?_)
  have hlen := hp.length
  have hsize : es.toList.length = es.size := by simp
  refine wpAny_bind ?_
  rw [← Array.forIn_toList]
  refine wpAny_forIn_list _ (fun rest _ s' => s' = s ∧ ∀ e ∈ rest, ∀ x, e.key ≠ .ref x) _ ?turn ?fin _ _ ?start
  case start =>
    refine ⟨rfl, fun e he x z => ?_⟩
    obtain ⟨k, hk1, _⟩ := hk e (Array.mem_toList_iff.mp he)
    rcases keyIs_shape hk1 with ⟨i, t, _, e2⟩ | ⟨y, t, _, e2⟩ <;> (rw [e2] at z; cases z)
  case turn =>
    rintro e rest b s' ⟨e1, hall⟩
    subst e1
    have h0 := hall e List.mem_cons_self
    split
    · rename_i x hx
      exact absurd hx (h0 x)
    · exact wpAny_pure ⟨rfl, fun e he => hall e (List.mem_cons_of_mem _ he)⟩
  case fin =>
    rintro b s' ⟨e1, _⟩
    subst e1
    refine wpAny_bind (wpAny_dictEntries ho hdat ?_)
    refine wpAny_bind (wpAny_dictEpoch ho hdat ?_)
    refine wpAny_bind ?_
    refine wpAny_forIn_list _ (fun rest _ s2 => ∃ i h' tk, rest = (List.range es.size).drop i ∧ s2 = { s' with heap := h', toks := tk } ∧ h'.DictOf (mixKind prog w) d (vs.take i) ∧ (∀ b o, b ≠ d → s'.heap.get? b = some o → h'.get? b = some o)) _ ?turn2 ?fin2 _ _ ⟨0, s'.heap, s'.toks, by simp, rfl, by rw [List.take_zero]; exact hd, fun _ _ _ e => e⟩
    case fin2 =>
      rintro b s2 ⟨i, h', tk, hr, rfl, hD, hkp⟩
      refine wpAny_pure (hQ h' tk ?_ hkp)
      have hi : vs.length ≤ i := by
        have := congrArg List.length hr
        simp at this
        omega
      rw [List.take_of_length_le hi] at hD
      exact hD
    case turn2 =>
      rintro x rest b s2 ⟨i, h', tk, hr, rfl, hD, hkp⟩
      have hi : i < es.size := by
        rcases Nat.lt_or_ge i es.size with h | h
        · exact h
        · rw [List.drop_of_length_le (by simpa using h)] at hr
          cases hr
      rw [List.drop_eq_getElem_cons (by simpa using hi)] at hr
      injection hr with hx hrest
      have hx' : x = i := by simpa using hx
      subst hx'
      have ha' : h'.get? a = some o := hkp _ _ (Ne.symm hne) ho
      have eget : es[x]? = some es[x] := Array.getElem?_eq_getElem hi
      obtain ⟨kv, hkv, hkey, hval⟩ := pairs_at hp (by rw [Array.getElem?_toList]; exact eget)
      obtain ⟨k', hk1, hk2⟩ := hk es[x] (Array.getElem_mem hi)
      have ek : k' = kv.1 := (mixKind prog w).inj _ _ _ hk1 hkey
      have hfresh : kv.1 ∉ (vs.take x).map (·.1) := by
        intro hm
        have hxl : x < vs.length := (List.getElem?_eq_some_iff.mp hkv).1
        have e3 : vs = vs.take x ++ kv :: vs.drop (x + 1) := by
          have h4 : vs.drop x = kv :: vs.drop (x + 1) := by
            rw [List.drop_eq_getElem_cons hxl]
            rw [(List.getElem?_eq_some_iff.mp hkv).2]
          rw [← h4, List.take_append_drop]
        rw [e3, List.map_append, List.nodup_append] at nd
        exact nd.2.2 _ hm _ (by simp) rfl
      refine wpAny_bind (wpAny_dictEntries ha' hdat ?_)
      rw [eget]
      dsimp only
      refine wpAny_bind (wpAny_holding ?_)
      obtain ⟨o2, es2, ep2, ho2, hc2, hd2, hk3, hp2, nd2⟩ := id hD
      rw [hk2, ek]
      refine wpAny_bind (wpAny_dictFind_of (knd := mixKind prog w) hkey ho2 hd2 hk3 ?_)
      rw [find_none (h := h') (d := d) hp2 hfresh]
      rw [if_neg (show ¬ (none : Option Nat).isSome = true from Bool.false_ne_true)]
      refine put_new hkey hD hfresh (Nat.le_trans (List.length_take_le' _ _) hsz) fun h2 hD2 sb => ?_
      have ha2 : h2.get? a = some o := (sb.2 a (Ne.symm hne)).trans ha'
      refine wpAny_bind (wpAny_dictEpoch ha2 hdat ?_)
      rw [if_neg (show ¬ (ep != ep) = true from by simp)]
      refine wpAny_pure ⟨x + 1, h2, tk, hrest, rfl, ?_, fun b o' hb e => (sb.2 b hb).trans (hkp b o' hb e)⟩
      rw [List.take_add_one, hkv]
      rw [hval] at hD2
      exact hD2

/-! ### the keywords out of the merged dict -/
theorem pairs_str {P : Program} {w : World} : ∀ {l : List DictEntry} {ks : List Str} {kvs : List (Key × Value)}, Pairs (mixKind P w) l kvs → kvs.map (·.1) = ks.map Sum.inr → Paired (fun (e : DictEntry) (p : Str × Value) => ∃ t, e.key = .str p.1 t ∧ e.val = p.2) l (ks.zip (kvs.map (·.2)))
  | _, [], _, .nil, _ => .nil
  | _, _ :: _, _, .nil, h => by simp at h
  | _, [], _, .cons _ _ _, h => by simp at h
  | e :: l, k :: ks, (k', v') :: kvs, .cons h1 h2 r, h => by
    simp only [List.map_cons, List.cons.injEq] at h
    obtain ⟨e1, e2⟩ := h
    refine .cons ?_ (pairs_str r e2)
    subst e1
    rcases keyIs_shape (show keyIs (Sum.inr k) e.key = true from h1) with ⟨i, t, z, _⟩ | ⟨y, t, z, e3⟩
    · cases z
    · cases z
      exact ⟨t, e3, h2⟩
theorem keywordsIn_run {f : Value} {ks : List Str} {kvs : List (Key × Value)} {Q : List (Str × Value) → Shared → Prop} (hd : s.heap.DictOf (mixKind prog w) d kvs) (hk : kvs.map (·.1) = ks.map Sum.inr) (h : Q (ks.zip (kvs.map (·.2))) s) :
    wpAny (model prog w) A (keywordsIn f d) Q E s := by
  obtain ⟨o, es, ep, ho, hc, hdat, _, hp, _⟩ := hd
  have hps := pairs_str hp hk
  unfold keywordsIn
  refine wpAny_bind (wpAny_dictEntries ho hdat ?_)
  refine wpAny_bind ?_
  rw [← Array.forIn_toList]
  refine wpAny_forIn_list _ (fun rest b s' => s' = s ∧ ∃ vs, Paired (fun (e : DictEntry) (p : Str × Value) => ∃ t, e.key = .str p.1 t ∧ e.val = p.2) rest vs ∧ b ++ vs = ks.zip (kvs.map (·.2))) _ ?_ ?_ _ _ ⟨rfl, _, hps, by simp⟩
  · rintro e rest b s' ⟨rfl, vs, pr, eq⟩
    cases pr with
    | cons h1 h2 =>
      rename_i p vs'
      obtain ⟨t, e1, e2⟩ := h1
      rw [e1]
      dsimp only
      refine wpAny_pure ⟨rfl, vs', h2, ?_⟩
      rw [e2, ← eq]
      simp
  · rintro b s' ⟨rfl, vs, pr, eq⟩
    cases pr
    rw [List.append_nil] at eq
    rw [eq]
    exact wpAny_pure h
theorem merged_run {f : Value} {xe : Sem Value} {Q : Addr → Shared → Prop}
    (h : ∀ (s0 : Shared), s0 = { s with heap := s.heap.push { cls := .type "dict", data := .dict #[] } } → wpAny (model prog w) A xe (fun v s2 => ∃ (a : Addr) (kvs : List (Key × Value)), v = .ref a ∧ (a == sysModules) = false ∧ kvs.length ≤ sizeLine ∧ a ≠ s.heap.objs.size ∧ s2.heap.DictOf (mixKind prog w) a kvs ∧ s2.heap.get? s.heap.objs.size = some { cls := .type "dict", data := .dict #[] } ∧
      ∀ h' tk, h'.DictOf (mixKind prog w) s.heap.objs.size kvs → (∀ b o, b ≠ s.heap.objs.size → s2.heap.get? b = some o → h'.get? b = some o) → Q s.heap.objs.size { s2 with heap := h', toks := tk }) E s0) :
    wpAny (model prog w) A (mergedKeywords f [(none, xe)]) Q E s := by
  unfold mergedKeywords
  refine wpAny_bind (wpAny_alloc ?_)
  refine wpAny_bind (wpAny_holding ?_)
  dsimp only
  refine wpAny_bind ?_
  refine wpAny_forIn_list _ (fun rest g s' => (rest = [(none, xe)] ∧ g = [] ∧ s' = { s with heap := s.heap.push { cls := .type "dict", data := .dict #[] } }) ∨ (rest = [] ∧ g = [] ∧ Q s.heap.objs.size s')) _ ?_ ?_ _ _ (.inl ⟨rfl, rfl, rfl⟩)
  · rintro z rest g s' (⟨e1, rfl, rfl⟩ | ⟨e1, _, _⟩)
    · injection e1 with e1 e2
      subst e1 e2
      dsimp only
      rw [if_pos (show ([] : List (Str × Sem Value)).isEmpty = true from rfl)]
      refine wpAny_bind (wpAny_pure ?_)
      refine wpAny_bind (wpAny_mono (h _ rfl) (fun v s2 hv => ?_) fun _ _ x => x)
      obtain ⟨a, kvs, rfl, hsy, hsz, hne, hD, hd0, hQ⟩ := hv
      refine wpAny_bind (wpAny_onRaise (wpAny_holding (wpAny_tryCatch (wpAny_onRaise (merge_run hD hsy ⟨_, #[], _, hd0, ⟨rfl, rfl, rfl⟩, rfl, fun e he => by simp at he, .nil, .nil⟩ (Ne.symm hne) hsz fun h' tk hd' hk' => ?_)))))
      exact wpAny_pure (.inr ⟨rfl, rfl, hQ h' tk hd' hk'⟩)
    · cases e1
  · rintro g s' (⟨e1, _⟩ | ⟨_, rfl, hq⟩)
    · cases e1
    · rw [if_pos (show ([] : List (Str × Sem Value)).isEmpty = true from rfl)]
      exact wpAny_pure (wpAny_pure hq)
/-- f(e, .., **d): the values, the dict merged -/
theorem evalArgs_star {f : Value} {x xe : Sem Value} {rest : List (Bool × Sem Value)} {Q : Args → Shared → Prop}
    (h : wpAny (model prog w) A (spliced ((false, x) :: rest)) (fun us s1 => wpAny (model prog w) A (mergedKeywords f [(none, xe)]) (fun d s2 => ∃ (ks : List Str) (kvs : List (Key × Value)), kvs.map (·.1) = ks.map Sum.inr ∧ s2.heap.DictOf (mixKind prog w) d kvs ∧ Q ⟨us, ks.zip (kvs.map (·.2))⟩ s2) E s1) E s) :
    wpAny (model prog w) A (evalArgs f true ((false, x) :: rest) [(none, xe)]) Q E s := by
  unfold evalArgs
  show wpAny (model prog w) A (spliced ((false, x) :: rest) >>= _) Q E s
  refine wpAny_bind (wpAny_mono h (fun us s1 h1 => ?_) fun _ _ x => x)
  refine wpAny_holding ?_
  simp only [List.all_cons, Option.isSome_none, Bool.false_and]
  rw [if_neg Bool.false_ne_true]
  refine wpAny_bind (wpAny_mono h1 (fun d s2 h2 => ?_) fun _ _ x => x)
  obtain ⟨ks, kvs, hk, hD, hQ⟩ := h2
  refine wpAny_bind (wpAny_pure ?_)
  exact wpAny_bind (wpAny_holding (keywordsIn_run hD hk (wpAny_pure hQ)))
end
section
variable {X : Cx} {CX : CXT} {k n : Nat} {f C : Addr} {fd : FuncData} {ps ks : List Str} {sp : Sp} {E : L2.St → XK} {x : Str} {p pos kp : Pos} {e dE : Expr} {es : List Expr} {t : TA} {td : TE} {g : List Value → List Value → List Value} {gV : List V → List V → List V}
theorem run_makeA {E : XK} {pins : List (Addr × Obj)} {σ : L2.St} {H : Hp} {s : Shared} {Q : VK} {us ws : List Value} {vs zs : List V} (M : Mk X.K C f) (F : FnOk X.prog X.w X.K X.mg X.base CX k f fd ps sp) (hr : Room (k + 1) X.A) (hb : KBn X.K fd ps (n + 1) ks g gV) (hx : PassesAt CX X σ E)
    (I : Inv X pins σ H s) (r : Vals vs us) (rz : Vals zs ws) (l1 : vs.length = n) (l2 : zs.length = ks.length)
    (h : ∀ x dx, H x = none → H dx = none → dx ≠ x → sp (gV (.ref x :: vs) zs) (upd (upd H dx (.own x)) x (.ins C dx [])) (fun v H2 => v = .non ∧ Q (.ref x) H2) E) :
    wpAny (model X.prog X.w) X.A (call (.ref C) us (ks.zip ws)) (EP X pins σ Q) X.xe s := by
  have hq := h (s.heap.objs.size + 1) s.heap.objs.size (I.hok.fresh (Nat.le_succ _)) (I.hok.fresh (Nat.le_refl _)) (Nat.ne_of_lt (Nat.lt_succ_self _))
  have I2 := Inv.made (C := C) I
  have r1 : Vals (V.ref (s.heap.objs.size + 1) :: vs) (Value.ref (s.heap.objs.size + 1) :: us) := .cons rfl r
  have r2 := hb.rel r1 rz
  have n1 : (Value.ref (s.heap.objs.size + 1) :: us).length = n + 1 := by
    rw [List.length_cons, ← r.length, l1]
  refine wpAny_call (make_map (f := f) I.kIn M.makes M.init (beq_iff_eq.mp M.fn) (codeAny_mono (F.run _ X.stack _ _ ⟨Value.ref (s.heap.objs.size + 1) :: us, ks.zip ws⟩ (g (Value.ref (s.heap.objs.size + 1) :: us) ws) _ _ E (hr.make C us (ks.zip ws))
    (I2.env0.make C us (ks.zip ws)) (hb.to _ (Value.ref (s.heap.objs.size + 1) :: us) ws I2.kIn n1 (rz.length.symm.trans l2)) r2 hq) fun r s' hq' => ?_))
  cases r with
  | error e => exact hx pins _ _ e s' I2 hq'
  | ok fl =>
    cases fl with
    | ret u =>
      obtain ⟨v, H', I3, rv, ev, q3⟩ := I2.after hq'
      subst ev
      exact ⟨rv, ⟨V.ref (s.heap.objs.size + 1), H', I3, rfl, q3⟩⟩
    | next => exact False.elim hq'
    | brk => exact False.elim hq'
    | cont => exact False.elim hq'
/-- C(e, .., **d) -/
def tMakeS (C : Addr) (n : Nat) (ks : List Str) (sp : Sp) (gV : List V → List V → List V) (E : L2.St → XK) (t : TA) (td : TE) : TE := fun σ H Q => t σ H fun vs H1 => td σ H1 fun v H2 => vs.length = n ∧ ∃ (d : Addr) (kvs : List (Key × V)), v = .ref d ∧ H2 d = some (.dK kvs) ∧ kvs.map (·.1) = ks.map Sum.inr ∧
  ∀ x dx, H2 x = none → H2 dx = none → dx ≠ x → sp (gV (.ref x :: vs) (kvs.map (·.2))) (upd (upd H2 dx (.own x)) x (.ins C dx [])) (fun v H3 => v = .non ∧ Q (.ref x) H3) (E σ)
theorem kv_vals {κ : Type} : ∀ {kvs : List (κ × V)} {vs : List (κ × Value)}, KV kvs vs → Vals (kvs.map (·.2)) (vs.map (·.2)) ∧ vs.map (·.1) = kvs.map (·.1)
  | _, _, .nil => ⟨.nil, rfl⟩
  | _, _, .cons h r => by
    obtain ⟨a, b⟩ := kv_vals r
    exact ⟨.cons h.2 a, by rw [List.map_cons, List.map_cons, b, h.1]⟩
theorem pe_makeS (M : Mk X.K C f) (F : FnOk X.prog X.w X.K X.mg X.base CX k f fd ps sp) (hr : Room (k + 1) X.A) (hg : Gl X x) (hm : X.mg x = some (.ref C)) (hb : KBn X.K fd ps (n + 1) ks g gV) (hx : ∀ σ, PassesAt CX X σ (E σ)) (ha : PA X (e :: es) t) (hd : PE X dE td)
    (hdb : (x == ("__debug__" : Str)) = false := by decide)
    (he : starEach (e :: es) X.env = (false, eval e X.env) :: starEach es X.env := by rfl) :
    PE X (.Call (.Name x p) (e :: es) [⟨none, dE, kp⟩] pos) (tMakeS C n ks sp gV E t td) := by
  refine ⟨fun pins s σ H Q I h => ?_⟩
  refine wpAny_Call_Name_kw (ld_glob I hg hm ?_ hdb)
  have hrun := fun {Q'} => ha.run pos pins s σ H Q' I
  rw [he] at hrun ⊢
  unfold callWith
  refine wpAny_bind (wpAny_holding ?_)
  refine evalArgs_star (x := eval e X.env) (rest := backTo pos (starEach es X.env)) (xe := do let v ← eval dE X.env; standAt pos; pure v) (thn (hrun h) fun us s1 ⟨vs, H1, I1, r, q⟩ => merged_run fun s0 e0 => ?_)
  subst e0
  have hn1 : H1 s1.heap.objs.size = none := I1.hok.fresh (Nat.le_refl _)
  have fp1 : FpOk X pins H1 s1.heap.objs.size := I1.fpOk (Nat.le_refl _) hn1
  have hg0 : (s1.heap.push { cls := .type "dict", data := .dict #[] }).get? s1.heap.objs.size = some { cls := .type "dict", data := .dict #[] } := Heap.get?_push_size _ rfl
  have I1p : Inv X pins σ H1 { s1 with heap := s1.heap.push { cls := .type "dict", data := .dict #[] } } := I1.kept (t' := s1.toks) (fun _ _ q => Heap.get?_push_of_some _ q)
  have I1q : Inv X (pins ++ [(s1.heap.objs.size, ({ cls := .type "dict", data := .dict #[] } : Obj))]) σ H1 { s1 with heap := s1.heap.push { cls := .type "dict", data := .dict #[] } } := I1p.pins_of fun p hp => (List.mem_append.mp hp).elim (fun z => I1p.pin p (List.mem_append_right _ z)) fun z => by
    obtain rfl := List.mem_singleton.mp z
    exact ⟨hg0, hn1, fp1.2.1, fp1.2.2.1, fun v z => by cases z⟩
  refine wpAny_bind (thn (hd.run _ _ σ H1 _ I1q q) fun v s2 ⟨y, H2, I2, ry, l1, d, kvs, ey, eD, ek, q2⟩ => wpAny_bind (wpAny_standAt (wpAny_pure ?_)))
  subst ey
  obtain rfl : v = Value.ref d := ry
  obtain ⟨z1, z2, vs0, r0, dd⟩ := dk_of I2.hok eD
  obtain ⟨rv0, ek0⟩ := kv_vals r0
  have pn2 := I2.pin (s1.heap.objs.size, { cls := .type "dict", data := .dict #[] }) (by simp)
  have hne : d ≠ s1.heap.objs.size := fun z => by
    have := pn2.2.1
    rw [← z] at this
    rw [eD] at this
    cases this
  refine ⟨d, vs0, rfl, z2, by rw [← r0.length]; exact z1, hne, dd, pn2.1, fun h' tk hD hk => ⟨ks, vs0, by rw [ek0, ek], hD, ?_⟩⟩
  have I3 : Inv X pins σ H2 { s2 with heap := h', toks := tk } := I2.unpinned.turned hk pn2.2.1 fp1.2.1 fp1.2.2.2.1 fp1.2.2.2.2.1 fp1.2.2.2.2.2
  refine wpAny_bind (wpAny_standAt ?_)
  have hrun2 : wpAny (model X.prog X.w) X.A (call (.ref C) us (ks.zip (vs0.map (·.2)))) (EP X pins σ Q) X.xe { s2 with heap := h', toks := tk } := run_makeA M F hr hb (hx σ) I3 r rv0 l1 (by rw [List.length_map, ← List.length_map (f := (·.1)), ek, List.length_map]) q2
  obtain ⟨k', hk', L⟩ := PySem.W.keeps_K (M := model X.prog X.w) M.kp _ I3.kIn
  have tail : ∀ {t : Sem Value}, wpAny (model X.prog X.w) X.A t (EP X pins σ Q) X.xe { s2 with heap := h', toks := tk } → wpAny (model X.prog X.w) X.A (t >>= fun r => holding [r] point >>= fun _ => pure r) (EP X pins σ Q) X.xe { s2 with heap := h', toks := tk } :=
    fun ht => wpAny_bind (wpAny_mono ht (fun r s₂ hr => wpAny_bind (wpAny_holding (wpAny_point (wpAny_pure hr)))) fun _ _ x => x)
  have marked (mk : Value) : wpAny (model X.prog X.w) X.A (callMarked mk (.ref C) us (ks.zip (vs0.map (·.2)))) (EP X pins σ Q) X.xe { s2 with heap := h', toks := tk } := by unfold callMarked; exact Calls.wpAny_keep hrun2
  have hst : ((backTo pos ((false, eval e X.env) :: starEach es X.env)).any (·.1) || (backToKw pos (keywordEach [⟨none, dE, kp⟩] X.env)).any (·.1.isNone)) = true := by
    show (_ || (true || false)) = true
    rw [Bool.true_or, Bool.or_true]
  simp only [hst]
  refine wpAny_bind (L.here ?_)
  rcases hk' with rfl | rfl | rfl <;> dsimp only <;> first | exact tail (marked _) | exact tail (wpAny_operating hrun2)
end
end K5
set_option Elab.async false
set_option linter.all false
set_option maxRecDepth 100000
set_option maxHeartbeats 4000000
namespace K5
open PySem PySem.Spec PyProof.Rows L2
variable {P : Program} {w : World} {K : PySem.W.Frag} {mg : Str → Option Value} {base : Heap}
/-! ### made_of -/
section
variable {X : Cx}
theorem ps_setDc {i : Nat} {y : Str} {py : Pos} {kx vx tg iter : Expr} {ifs : List Expr} {scope : Scope} {own : List (Str × Nat)} {pos spos : Pos} {wi : TI} {g : TG} {tt : TT} {tk tv : TE} (hc : X.calm = true) (hN : X.N.Nodup) (hy : X.N[i]? = some y) (hyl : X.env.scope.names.lookup y = some .local)
    (hsw : swapsWith (.DictComp kx vx [⟨tg, iter, ifs, 0⟩] scope pos) (some (.Name y py)) spos.line X.env = pure true) (hi : PI X tg iter wi) (ok : BlkOk X.N X.env.scope scope own)
    (hg : ∀ (s : Shared) (H : Hp) (C : Addr) (cl : List (Str × Addr)) (fp : List Addr), PG (X.blk s H scope (compEnvC scope cl C X.env) fp) tg g) (ht : ∀ (s : Shared) (H : Hp) (C : Addr) (cl : List (Str × Addr)) (fp : List Addr), PTs (X.blk s H scope (compEnvC scope cl C X.env) fp) ifs tt)
    (hk : ∀ (s : Shared) (H : Hp) (C : Addr) (cl : List (Str × Addr)) (fp : List Addr), PE (X.blk s H scope (compEnvC scope cl C X.env) fp) kx tk)
    (he : ∀ (s : Shared) (H : Hp) (C : Addr) (cl : List (Str × Addr)) (fp : List Addr), PE (X.blk s H scope (compEnvC scope cl C X.env) fp) vx tv) (hs : ∀ x, foldedSetIterable iter X.env x = pure x := by intro _; rfl) :
    PS X (.Assign [.Name y py] (.DictComp kx vx [⟨tg, iter, ifs, 0⟩] scope pos) spos) (tAsg (tDc wi g tt tk tv (own.map (·.2))) (gName i)) := by
  refine ⟨fun pins s σ H D I h => ?_⟩
  rw [exec_Assign_Name_used _ _ _ _ hsw]
  refine wpAny_bind (wpAny_standAt (wpAny_bind ?_))
  show wpAny _ X.A (do let _ ← comprehension (.DictComp kx vx [⟨tg, iter, ifs, 0⟩] scope pos) scope X.env (firstIterPos [⟨tg, iter, ifs, 0⟩] pos) newDict false (eval iter X.env) (some (assign (.Name y py) X.env))) _ _ s
  have h : tDc wi g tt tk tv (own.map (·.2)) σ H (fun x H1 => gName i x σ H1 D.nx) := h
  refine wpAny_bind (thn (dc_core (Qf := fun _ s' => L2.SP X pins D .next s') hc hN I hi ok hg ht hk he hs h fun L C s' m H' I' q hn f => ?_) fun _ s' hq => wpAny_pure (wpAny_pure hq))
  show wpAny _ _ (assign (.Name y py) X.env (.ref L)) _ _ _
  refine wpAny_assign_Name (store_ok2 (v := V.ref L) I' hN hy (.inl hyl) rfl (fun s2 I2 ⟨a, sb, ha⟩ => ?_) (.inr hyl))
  obtain ⟨f0, f1, f2, f3, f4, f5⟩ := f
  have haC : C ≠ a := by
    rcases ha with z | z
    · rw [z]; exact f1
    · exact fun e => f4 y a z e.symm
  refine ⟨m, hn.sameBut sb haC, fun h3 sb3 => ?_⟩
  exact ⟨_, H', I2.turned (t' := s2.toks) (fun b o hb e => (sb3.2 b hb).trans e) f0 f1 f3 f4 f5, q⟩
theorem sw_trueD {kx vx : Expr} {gs : List Comprehension} {scope : Scope} {pos py : Pos} {y : Str} {l : Nat} {env : Env} (hk : env.scope.kind = .function) (hy : env.scope.names.lookup y = some .local) (hl : (py.line == pos.line) = true)
    (ha : (scope.names.any fun (n, k) => n == y && (k == .local || k == .cell)) = false) : swapsWith (.DictComp kx vx gs scope pos) (some (.Name y py)) l env = pure true := by
  have ky : env.kindOf y = some .local := hy
  have hb : env.blockKind = .function := by unfold Env.blockKind; rw [hk]; rfl
  unfold swapsWith
  simp only [hb, ky, ha, Expr.pos, hl]
  rfl
theorem pmkBadTextK {K : PySem.W.Frag} {mg : Str → Option Value} {a : Expr} {ta : TA} {p pos : Pos} (hK : X.K = K) (hmg : X.mg = mg) (T : ExcT K mg "BadText" "row" sBadText) (G : PrgOk X.prog) (hms : mg "super" = none) (hdp : X.A.depth + 1 < recursionLimit) (ha : PA X [a] ta) (hg : Gl X "BadText" := by rfl)
    (he : starEach (a :: []) X.env = (false, eval a X.env) :: starEach [] X.env := by rfl) (hpl : (backTo pos (starEach [] X.env)).any (·.1) = false := by rfl) :
    L2N.PMk X (.Call (.Name "BadText" p) [a] [] pos) (tMkBadText (He.ga K "BadText") ta) := by
  subst hK hmg
  exact pmkBadText T G hms hdp ha hg he hpl
end
theorem dc_list {K : PySem.W.Frag} {a : Addr} {xs : List V} {g : TG} {tt : TT} {tk tv : TE} {vs : List Nat} {σ : L2.St} {H1 : Hp} {D : Addr} {Qd : Hp → Prop} (Pv : Nat → Hp → Prop) (h0 : Pv 0 (upd H1 D (.dK []))) (hl : ∀ i H, i ≤ xs.length → Pv i H → SqL K H a xs)
    (hs : ∀ i x H, xs[i]? = some x → Pv i H → g x (wipe σ vs) H fun σ2 H2 => wipe σ2 vs = wipe σ vs ∧ tt σ2 H2 fun b H3 =>
      if b = true then tk σ2 H3 fun y H4 => tv σ2 H4 fun z H5 => ∃ kvs k, y = kV k ∧ H5 D = some (.dK kvs) ∧ kvs.length < sizeLine ∧ Pv (i + 1) (upd H5 D (.dK (putK kvs k z))) else Pv (i + 1) H3) (hd : ∀ H, Pv xs.length H → Qd H) :
    ∃ W : Nat → Nat → Hp → Prop, (∃ m, W 0 m (upd H1 D (.dK []))) ∧ ∀ i m H, W i m H →
      ((Itl K a).stop i H ∧ Qd H) ∨ ((Itl K a).go i H ∧ ∃ Nx : Hp → Prop, (∀ H', Nx H' → ∃ m', m' < m ∧ W (i + 1) m' H') ∧ ∀ x H', (Itl K a).yld i H x H' → g x (wipe σ vs) H' fun σ2 H2 => wipe σ2 vs = wipe σ vs ∧ tt σ2 H2 fun b H3 =>
        if b = true then tk σ2 H3 fun y H4 => tv σ2 H4 fun z H5 => ∃ kvs k, y = kV k ∧ H5 D = some (.dK kvs) ∧ kvs.length < sizeLine ∧ Nx (upd H5 D (.dK (putK kvs k z))) else Nx H3) := by
  refine ⟨fun i m H => m = xs.length - i ∧ i ≤ xs.length ∧ Pv i H, ⟨xs.length, by simp, Nat.zero_le _, h0⟩, ?_⟩
  rintro i m H ⟨rfl, hi, p⟩
  have q := hl i H hi p
  by_cases hlt : i < xs.length
  · refine .inr ⟨⟨xs, xs[i], q, by simp [hlt]⟩, Pv (i + 1), fun H' p' => ⟨xs.length - (i + 1), by omega, rfl, hlt, p'⟩, fun x H' y => ?_⟩
    obtain ⟨e, y⟩ := y
    subst e
    exact hs i x _ (y xs q) p
  · have e : i = xs.length := by omega
    subst e
    exact .inl ⟨⟨xs, q, Nat.le_refl _⟩, hd H p⟩
/-- what read_hall has of the lines above the kinds -/
def hkvs (ev : Nat) (hs : List Str) : List (Key × V) := (Sum.inr "events", V.str (dig ev)) :: List.zipWith (fun n v => (Sum.inr n, V.str v)) names hs
theorem kb_hall {fd : FuncData} (F : FunD K "__init__" "Hall.__init__" (defArgs sHallInit) (defBody sHallInit) (defScope sHallInit) [] (hallKw.map fun p => (p.1, p.2.v K)) (He.ma K (cHall K) "__init__") fd) :
    KBn K fd ["self", "events", "kinds", "walk", "check", "errors", "once", "same", "put", "nest"] 3 names (fun us ws => us ++ ws) (fun vs zs => vs ++ zs) := by
  obtain ⟨mv, h⟩ := F.kbinds0 (ps := ["self", "events", "kinds", "walk", "check", "errors", "once", "same", "put", "nest"]) 3 names [] (fun us _ ws => us ++ ws) (List.cons_ne_nil _ _) (fun q hq => by cases hq) (fun a _ c => a.append c) (fun D doc pm an cdv ct us mv ws l1 l2 l3 => by
    match us, ws, mv, l1, l2, l3 with
    | [_, _, _], [_, _, _, _, _, _, _], [], _, _, _ => rfl)
  exact h
theorem scMadeOf : FnScope ["heads", "kinds", "many", "values", "events", "every", "name"] ["heads", "kinds", "many"] (defScope sMadeOf) := ⟨rfl, rfl, rfl, by decide +kernel, rfl, by decide +kernel, by decide +kernel⟩
def spMadeOf (K : PySem.W.Frag) : Sp := fun vs H Q E => ∃ (hd kl : Addr) (ev many : Nat) (xs : List V) (ks : List Kind) (hs : List Str), vs = [.ref hd, .ref kl, .int many] ∧ H hd = some (.dK (hkvs ev hs)) ∧ SqL K H kl xs ∧ Paired (KindAt H) xs ks ∧ 1 ≤ ev ∧ ev ≤ 3 ∧ headsOk hs ∧
  (kindsOk ev ks = true → ∀ H' v, Same H H' → HallAt K H' v ⟨ev, ks, hs⟩ → Q v H') ∧
  (kindsOk ev ks = false → ∀ H' d, Same H H' → H d = none → H' d = some (.xd [(("row" : Str), .int (many : Nat))]) → E (.ref (He.ga K "BadText")) (some d) H')
theorem cl_madeOf (T : Txt w K mg) (G : PrgOk P) {fdI : FuncData} (FI : FunD K "__init__" "Hall.__init__" (defArgs sHallInit) (defBody sHallInit) (defScope sHallInit) [] (hallKw.map fun p => (p.1, p.2.v K)) (He.ma K (cHall K) "__init__") fdI)
    (OI : FnOk P w K mg base (L2N.CX P w) 5 (He.ma K (cHall K) "__init__") fdI ["self", "events", "kinds", "walk", "check", "errors", "once", "same", "put", "nest"] (spHallInit K)) :
    Cl P w K mg base (L2.CX P w) 7 "made_of" (spMadeOf K) := by
  refine cl_defX T (i := 36) (j := 22) rfl (by decide +kernel) scMadeOf (fun _ _ _ _ _ _ us hl => match us, hl with | [_, _, _], _ => rfl) (fun vs H Q E h => ?_) (fun cdv A outer s H vs Q E hr h => ?_)
  · obtain ⟨hd, kl, ev, many, xs, ks, hs, rfl, _⟩ := h
    rfl
  · obtain ⟨hd, kl, ev, many, xs, ks, hs, rfl, hH, hL, pr, h1, h3, hh, kT, kF⟩ := h
    have hsz : ruleNames.length ≤ sizeLine := by decide +kernel
    have hu := hu_of hr
    have KB := kb_hall FI
    have hdp := dp_of hr
    refine ⟨_, (pss_cons (ps_setDc (i := 3) (own := [("name", 6)]) rfl scMadeOf.nd rfl rfl (sw_trueD rfl rfl rfl (by decide +kernel)) (pi_list (pe_callTy (call_list_tab rfl T.rk nodup_rules hsz) (by rfl) (fr T "list") PyProof.Rows.boot_list (pa_cons (pGlo T (by decide +kernel) rfl) pa_nil))) (blkOk_by (own := [("name", 6)]) (N := ["heads", "kinds", "many", "values", "events", "every", "name"]) (sc := defScope sMadeOf) (by decide +kernel)) (fun _ _ _ _ _ => (pg_name (i := 6) scMadeOf.nd rfl (by first | exact Or.inl rfl | exact Or.inr rfl))) (fun _ _ _ _ _ => pts_nil) (fun _ _ _ _ _ => (pv 6)) (fun _ _ _ _ _ => (pe_dget hu (pv 0) (pv 6) (fun _ _ => rfl))))
      (pss_cons (ps_dput hu (pv 3) pe_str (pe_ix (ix_tab T.tk) (pGlo T (by decide +kernel) rfl) (pe_dget hu (pv 0) pe_str (fun _ _ => rfl)) (fun _ _ => rfl)) rfl)
      (pss_cons (ps_par (i := 4) (j := 5) rfl scMadeOf.nd rfl rfl (by decide) rfl rfl (pa_cons (pe_callTy call_int_str (by rfl) (fr T "int") PyProof.Rows.boot_int (pa_cons (pe_dget hu (pv 0) pe_str (fun _ _ => rfl)) pa_nil)) (pa_cons (pe_callTy call_tuple_of (by rfl) (fr T "tuple") PyProof.Rows.boot_tuple (pa_cons (pv 1) pa_nil)) pa_nil)) (by rfl))
      (pss_one (L2H.ps_try_onlyX rfl rfl ⟨rfl, by decide, Or.inl T.bh.mgC⟩ (L2H.passesAt_of rfl) (takes_of rfl rfl rfl rfl) (fun W pn xe tk _ _ => pss_one (ps_ret (pe_makeS (E := WE W) T.mkH OI hr rfl (T.glo "Hall" (by decide +kernel)) KB (fun σ => L2N.passAt tk σ) (pa_cons (pv 4) (pa_cons (pv 5) pa_nil)) (pv 3)))) (fun a oe cls d pn _ _ tk hot => pss_one (L2H.ps_raiseH hot tk (pmkBadTextK (K := K) rfl rfl T.bt G (fr T "super") hdp (pa_cons (pv 2) pa_nil))))))))), ?_⟩
    obtain ⟨a, b, c, d, e, f, g, rfl⟩ := seven hh.1
    refine ⟨rfl, fun l hl => ?_⟩
    refine ⟨_, rfl, ⟨_, SqL.of upd_same⟩, fun D hD => ?_⟩
    refine dc_list (xs := ruleNames.map V.str) (fun i H' => Same (upd H l (.lst (ruleNames.map V.str))) H' ∧ H' D = some (.dK ((List.zipWith (fun n v => ((Sum.inr n : Key), V.str v)) names [a, b, c, d, e, f, g]).take i))) ⟨Same.new hD, upd_same⟩ (fun i H' _ q => SqL.of (q.1 _ _ upd_same)) (fun i x H' hx q => ?_) (fun H' q => ?_)
    · have hi : i < 7 := by
        have := (List.getElem?_eq_some_iff.mp hx).1
        simpa [ruleNames] using this
      have hHd := q.1 _ _ (Same.new hl _ _ hH)
      have fin : ∀ (n v : Str), x = .str n → valV (hkvs ev [a, b, c, d, e, f, g]) (Sum.inr n) = some (.str v) → putK ((List.zipWith (fun n v => ((Sum.inr n : Key), V.str v)) names [a, b, c, d, e, f, g]).take i) (Sum.inr n) (.str v) = (List.zipWith (fun n v => ((Sum.inr n : Key), V.str v)) names [a, b, c, d, e, f, g]).take (i + 1) →
          gName 6 x (wipe [some (.ref hd), some (.ref kl), some (.int many), none, none, none, none] [6]) H' (fun σ2 H2 => wipe σ2 [6] = wipe [some (.ref hd), some (.ref kl), some (.int many), none, none, none, none] [6] ∧ tYes σ2 H2 fun tt H3 => if tt = true then tVar 6 σ2 H3 fun y H4 => tDGet (tVar 0) (tVar 6) σ2 H4 fun z H5 => ∃ kvs k, y = kV k ∧ H5 D = some (.dK kvs) ∧ kvs.length < sizeLine ∧ (Same (upd H l (.lst (ruleNames.map V.str))) (upd H5 D (.dK (putK kvs k z))) ∧ (upd H5 D (.dK (putK kvs k z))) D = some (.dK ((List.zipWith (fun n v => ((Sum.inr n : Key), V.str v)) names [a, b, c, d, e, f, g]).take (i + 1)))) else (Same (upd H l (.lst (ruleNames.map V.str))) H3 ∧ H3 D = some (.dK ((List.zipWith (fun n v => ((Sum.inr n : Key), V.str v)) names [a, b, c, d, e, f, g]).take (i + 1))))) := by
        intro n v ex eg ep
        subst ex
        refine ⟨rfl, ?_⟩
        simp only [tYes, if_true]
        have hg : DGet H' hd (.str n) (some (.str v)) := by
          rw [← eg]
          exact DGet.k (k := Sum.inr n) hHd
        refine ⟨_, rfl, _, rfl, _, rfl, _, _, rfl, hg, _, Sum.inr n, rfl, q.2, ?_, ?_, ?_⟩
        · rw [List.length_take]
          exact Nat.lt_of_le_of_lt (Nat.min_le_left _ _) (Nat.lt_trans hi (by decide +kernel))
        · intro z o hz
          rw [upd_ne (ne_of_none hz hD)]
          exact q.1 z o hz
        · rw [upd_same, ep]
      match i, hi, hx, q, fin with
      | 0, _, hx, _, fin => exact fin "walk" a (Option.some.inj hx).symm rfl rfl
      | 1, _, hx, _, fin => exact fin "check" b (Option.some.inj hx).symm rfl rfl
      | 2, _, hx, _, fin => exact fin "errors" c (Option.some.inj hx).symm rfl rfl
      | 3, _, hx, _, fin => exact fin "once" d (Option.some.inj hx).symm rfl rfl
      | 4, _, hx, _, fin => exact fin "same" e (Option.some.inj hx).symm rfl rfl
      | 5, _, hx, _, fin => exact fin "put" f (Option.some.inj hx).symm rfl rfl
      | 6, _, hx, _, fin => exact fin "nest" g (Option.some.inj hx).symm rfl rfl
    · have hD2 : H' D = some (.dK [(Sum.inr "walk", V.str a), (Sum.inr "check", V.str b), (Sum.inr "errors", V.str c), (Sum.inr "once", V.str d), (Sum.inr "same", V.str e), (Sum.inr "put", V.str f), (Sum.inr "nest", V.str g)]) := q.2
      have sH : Same H H' := fun z o hz => q.1 _ _ (Same.new hl _ _ hz)
      have hDH : H D = none := by
        have := hD
        by_cases z : D = l
        · rw [z, upd_same] at this; cases this
        · rwa [upd_ne z] at this
      have hg1 : DGet H' hd (.str "check") (some (.str b)) := DGet.k (k := Sum.inr "check") (sH _ _ hH)
      have hev : (dig ev).length = 1 := by
        show (TL.tl (dig ev)).length = 1
        rw [tl_dig (by omega)]
        rfl
      obtain ⟨cz, hcz⟩ := one_sign hev
      have hni : numIn (dig ev) = some ev := numIn_dig (by omega)
      have hit : PySem.intText? (dig ev) = some (ev : Int) := by
        rw [hcz] at hni ⊢
        exact int_sign hni
      have hb : b ∈ (["no", "yes"] : List Str) := hh.2 1 b rfl
      have htv : ∃ u, PySem.W.nsIn K (He.ga K "TRUTHS") b = some (some u) ∧ RelV (rv 1 b) u := by
        rcases List.mem_cons.mp hb with rfl | hb
        · exact ⟨_, T.tv.1, rfl⟩
        · rcases List.mem_cons.mp hb with rfl | hb
          · exact ⟨_, T.tv.2, rfl⟩
          · cases hb
      obtain ⟨ut, ht1, ht2⟩ := htv
      refine ⟨_, rfl, _, _, rfl, hg1, b, ut, rv 1 b, rfl, rfl, ht1, ht2, ?_⟩
      refine ⟨_, rfl, _, _, rfl, DPut.k (k := Sum.inr "check") hD2 (by show 7 < sizeLine; decide +kernel), ?_⟩
      have hD3 : (upd H' D (.dK (kvsOf [a, b, c, d, e, f, g]))) D = some (.dK (kvsOf [a, b, c, d, e, f, g])) := upd_same
      have s3 : Same H (upd H' D (.dK (kvsOf [a, b, c, d, e, f, g]))) := by
        intro z o hz
        rw [upd_ne (ne_of_none hz hDH)]
        exact sH _ _ hz
      have ek : putK [((Sum.inr "walk" : Key), V.str a), (Sum.inr "check", V.str b), (Sum.inr "errors", V.str c), (Sum.inr "once", V.str d), (Sum.inr "same", V.str e), (Sum.inr "put", V.str f), (Sum.inr "nest", V.str g)] (Sum.inr "check") (rv 1 b) = kvsOf [a, b, c, d, e, f, g] := by rfl
      rw [ek]
      generalize upd H' D (.dK (kvsOf [a, b, c, d, e, f, g])) = H4 at hD3 s3 ⊢
      have hg2 : DGet H4 hd (.str "events") (some (.str (dig ev))) := DGet.k (k := Sum.inr "events") (s3 _ _ hH)
      refine ⟨_, rfl, _, _, rfl, hg2, _, (ev : Int), rfl, hit, by rw [hev]; decide, ?_⟩
      refine ⟨_, rfl, kl, xs, rfl, .inl ⟨L2.Same.seq s3 hL, fun tp htp => ?_⟩⟩
      have s4 : Same H4 (upd H4 tp (.tup xs)) := Same.new htp
      have s34 := s3.trans s4
      have hD4 := s4 _ _ hD3
      have kt4 : KindsAt (upd H4 tp (.tup xs)) (.ref tp) ks := ⟨tp, xs, rfl, upd_same, paired_mono (fun _ _ z => z.mono (Kt.of s34)) pr⟩
      generalize upd H4 tp (.tup xs) = H5 at s34 hD4 kt4 ⊢
      refine ⟨_, _, rfl, ?_⟩
      refine ⟨_, rfl, _, rfl, _, rfl, rfl, D, _, rfl, hD4, rfl, fun px dx hx hdx hne => ?_⟩
      have s5 : Same H5 (upd (upd H5 dx (.own px)) px (.ins (cHall K) dx [])) := Same.new' (Same.new hdx) (by rw [upd_ne (Ne.symm hne)]; exact hx)
      refine ⟨px, dx, ev, .ref tp, ks, [a, b, c, d, e, f, g], rfl, upd_same, h1, h3, kt4.mono (Kt.of s5), hh, fun ek H6 k6 hp6 => ?_, fun ek H6 d6 s6 => ?_⟩
      · have sH6 : Same H H6 := by
          intro z o hz
          have h5 := s34 _ _ hz
          have zx : z ≠ px := ne_of_none h5 hx
          exact k6 z o zx (s5 _ _ h5)
        refine ⟨rfl, kT ek H6 _ sH6 ⟨px, dx, .ref tp, rfl, hp6, ?_, ⟨h1, h3, hh, ek⟩⟩⟩
        refine kt4.mono fun z ys hz => k6 z _ (ne_of_none hz hx) (s5 _ _ hz)
      · refine ⟨true, T.bh.exm, fun _ ax hax => ?_, fun z => by cases z⟩
        refine ⟨_, rfl, _, rfl, fun d7 hd7 => ?_⟩
        have s06 := s34.trans (s5.trans s6)
        exact kF ek _ _ (Same.new' s06 hd7) (Same.none s06 hd7) upd_same
end K5
set_option Elab.async false
set_option linter.all false
set_option maxRecDepth 100000
set_option maxHeartbeats 4000000
namespace K5
open PySem PySem.Spec PyProof.Rows L2
variable {P : Program} {w : World} {K : PySem.W.Frag} {mg : Str → Option Value} {base : Heap}
/-! ### read_hall -/
def allN : List Str := sEvents :: names
theorem allN_nd : allN.Nodup := by decide +kernel
def zsOf (rows : List (List Str)) : List (Key × V) := List.zipWith (fun n ws => ((Sum.inr n : Key), V.str (ws.getD 1 NO))) allN rows
theorem valV_fresh {kvs : List (Key × V)} {k : Key} (h : k ∉ kvs.map (·.1)) : valV kvs k = none := by
  unfold valV
  have : (kvs.find? fun kv => decide (kv.1 = k)) = none := List.find?_eq_none.mpr fun kv hkv z => h (List.mem_map.mpr ⟨kv, hkv, of_decide_eq_true z⟩)
  first
    | rw [this]; rfl
    | simp [this]
theorem zs_at {rows : List (List Str)} {i : Nat} {ws : List Str} (hi : i < 8) (hr : rows[i]? = some ws) : (zsOf rows)[i]? = some (Sum.inr (allN.getD i NO), V.str (ws.getD 1 NO)) := by
  have ha : allN[i]? = some (allN.getD i NO) := by
    unfold List.getD
    have : i < allN.length := hi
    rw [List.getElem?_eq_getElem this] <;> rfl
  unfold zsOf
  rw [List.getElem?_zipWith, ha, hr]
theorem zs_keys (rows : List (List Str)) : ∀ i, ∃ m, ((zsOf rows).take i).map (·.1) = (allN.take m).map Sum.inr ∧ m ≤ i := by
  intro i
  refine ⟨min i rows.length, ?_, Nat.min_le_left _ _⟩
  have aux : ∀ (ns : List Str) (rs : List (List Str)) (i : Nat), ((List.zipWith (fun n ws => ((Sum.inr n : Key), V.str (ws.getD 1 NO))) ns rs).take i).map (·.1) = (ns.take (min i rs.length)).map (Sum.inr : Str → Key) := by
    intro ns
    induction ns with
    | nil => intro rs i; simp
    | cons n ns ih =>
      intro rs i
      cases rs with
      | nil => simp
      | cons r rs =>
        cases i with
        | zero => simp
        | succ i =>
          rw [List.zipWith_cons_cons, List.take_succ_cons, List.map_cons, ih, List.length_cons, Nat.add_min_add_right, List.take_succ_cons, List.map_cons]
  exact aux allN rows i
theorem zs_step {rows : List (List Str)} {i : Nat} {ws : List Str} (hi : i < 8) (hr : rows[i]? = some ws) :
    putK ((zsOf rows).take i) (Sum.inr (allN.getD i NO)) (.str (ws.getD 1 NO)) = (zsOf rows).take (i + 1) := by
  have hz := zs_at hi hr
  rw [List.take_add_one, hz]
  refine putK_new _ (valV_fresh fun hm => ?_)
  obtain ⟨m, e, hmi⟩ := zs_keys rows i
  rw [e] at hm
  obtain ⟨n, hn, en⟩ := List.mem_map.mp hm
  have en : n = allN.getD i NO := by injection en
  obtain ⟨j, hj, ej⟩ := List.mem_iff_getElem.mp hn
  have hj2 : j < m := by
    rw [List.length_take] at hj
    omega
  rw [List.getElem_take] at ej
  have hi2 : i < allN.length := hi
  have e2 : allN.getD i NO = allN[i] := by
    unfold List.getD
    rw [List.getElem?_eq_getElem hi2] <;> rfl
  rw [en, e2] at ej
  have := (List.getElem_inj allN_nd).mp ej
  omega
theorem zs_events {rows : List (List Str)} {i : Nat} {r0 : List Str} (hr : rows[0]? = some r0) : valV ((zsOf rows).take (i + 1)) (Sum.inr sEvents) = some (.str (r0.getD 1 NO)) := by
  cases rows with
  | nil => cases hr
  | cons r rs =>
    cases hr
    rfl
theorem zs_all {rows : List (List Str)} (h8 : 8 ≤ rows.length) (hf : fb (rowOk (evOf rows)) 0 rows = none) : (zsOf rows).take rows.length = hkvs (evOf rows) (headsOf rows) := by
  obtain ⟨m1, m2, _⟩ := rows_made h8 hf
  have hl : (zsOf rows).length ≤ rows.length := by
    unfold zsOf
    rw [List.length_zipWith]
    exact Nat.min_le_right _ _
  rw [List.take_of_length_le hl]
  have hh : (made rows).heads = headsOf rows := rfl
  have he : (made rows).events = evOf rows := rfl
  rw [hh] at m2
  generalize hk : (made rows).kinds = ks at *
  have m1' : [sEvents, dig (evOf rows)] :: (ruleRows (headsOf rows) ++ ks.map kindRow) = rows := by
    rw [← hk]
    exact m1
  obtain ⟨a, b, c, d, e, f, g, hg⟩ := seven m2.1
  rw [hg] at m1' ⊢
  generalize evOf rows = ev at *
  rw [← m1']
  rfl
theorem scReadHall : FnScope ["text", "lines", "rest", "heads", "kinds", "many", "row", "line", "words", "kind"] ["text"] (defScope sReadHall) := ⟨rfl, rfl, rfl, by decide +kernel, rfl, by decide +kernel, by decide +kernel⟩
def spReadHall (K : PySem.W.Frag) : Sp := fun vs H Q E => ∃ (t : Str), vs = [.str t] ∧ t.length ≤ 1000000 ∧
  (match readHall t with
  | .ok h => ∀ H' v, Same H H' → HallAt K H' v h → Q v H'
  | .error i => ∀ H' d, Same H H' → H d = none → H' d = some (.xd [(("row" : Str), .int (i : Nat))]) → E (.ref (He.ga K "BadText")) (some d) H')
theorem cl_readHall (T : Txt w K mg) (G : PrgOk P) (C_lines_in : Cl P w K mg base CX0 1 "lines_in" spLinesIn) (C_is_head : Cl P w K mg base CX0 2 "is_head" (spIsHead K)) (C_kind_in : Cl P w K mg base CX0 3 "kind_in" (spKindIn K)) (C_made_of : Cl P w K mg base (L2.CX P w) 7 "made_of" (spMadeOf K)) :
    Cl P w K mg base (L2.CX P w) 8 "read_hall" (spReadHall K) := by
  refine cl_defX T (i := 35) (j := 21) rfl (by decide +kernel) scReadHall (fun _ _ _ _ _ _ us hl => match us, hl with | [_], _ => rfl) (fun vs H Q E h => ?_) (fun cdv A outer s H vs Q E hr h => ?_)
  · obtain ⟨t, rfl, _⟩ := h
    rfl
  · obtain ⟨t, rfl, ht, k⟩ := h
    have hsz : ruleNames.length ≤ sizeLine := by decide +kernel
    have hu := hu_of hr
    refine ⟨_, (pss_cons (ps_asg (pe_cl C_lines_in hr (by decide) pass0 rfl (pa_cons (pv 0) pa_nil)) (pg_tup (by rfl) (pgs_cons (pg_name (i := 1) scReadHall.nd rfl (by first | exact Or.inl rfl | exact Or.inr rfl)) (pgs_cons (pg_name (i := 2) scReadHall.nd rfl (by first | exact Or.inl rfl | exact Or.inr rfl)) pgs_nil))))
      (pss_cons (ps_par3 (i := 3) (j := 4) (l := 5) rfl scReadHall.nd rfl rfl rfl (by decide) (by decide) (by decide) rfl rfl rfl (pa_cons pe_dnewK (pa_cons (pe_lst pa_nil) (pa_cons (pe_op op_add pe_int (pe_callB (call_len_tab T.rk nodup_rules hsz) (by rfl) (fr T "len") boot_len (pa_cons (pGlo T (by decide +kernel) rfl) pa_nil))) pa_nil))) (by rfl))
      (pss_cons (ps_for (passes_of rfl) rfl (pi_enum (by rfl) (fr T "enumerate") (pa_cons (pv 1) pa_nil)) (pg_tup (by rfl) (pgs_cons (pg_name (i := 6) scReadHall.nd rfl (by first | exact Or.inl rfl | exact Or.inr rfl)) (pgs_cons (pg_name (i := 7) scReadHall.nd rfl (by first | exact Or.inl rfl | exact Or.inr rfl)) pgs_nil))) (pss_cons (ps_set (i := 8) scReadHall.nd rfl (by first | exact Or.inl rfl | exact Or.inr rfl) (pe_split (pv 7) pe_str))
      (pss_one (ps_if (pt_cmpR op_lt (pv 6) (pv 5) (nomark _)) (pss_cons (ps_if (pt_not (pt_val (pe_cl C_is_head hr (by decide) pass0 rfl (pa_cons (pv 6) (pa_cons (pv 8) pa_nil))))) (pss_one (ps_raise rfl (takes_of rfl rfl rfl rfl) (pmk_of (pmkBadText T.bt G (fr T "super") (dp_of hr) (pa_cons (pv 6) pa_nil))))) pss_nil)
      (pss_one (ps_dput hu (pv 3) (pe_ix ix_list (pv 8) pe_int (fun _ _ => rfl)) (pe_ix ix_list (pv 8) pe_int (fun _ _ => rfl)) rfl))) (pss_cons (ps_set (i := 9) scReadHall.nd rfl (by first | exact Or.inl rfl | exact Or.inr rfl) (pe_cl C_kind_in hr (by decide) pass0 rfl (pa_cons (pv 8) (pa_cons (pe_callTy call_int_str (by rfl) (fr T "int") PyProof.Rows.boot_int (pa_cons (pe_dget hu (pv 3) pe_str (fun _ _ => rfl)) pa_nil)) pa_nil))))
      (pss_cons (ps_if (PW.pt (pw_or (pt_cmpR op_isN (pv 9) pe_non (nomark _)) (pw_or1 (pt_cmpR op_eq (pe_callB call_len_seq (by rfl) (fr T "len") boot_len (pa_cons (pv 4) pa_nil)) (pInt T.mK rfl) (nomark _))))) (pss_one (ps_raise rfl (takes_of rfl rfl rfl rfl) (pmk_of (pmkBadText T.bt G (fr T "super") (dp_of hr) (pa_cons (pv 6) pa_nil))))) pss_nil)
      (pss_one (ps_expr (pe_bm PySem.F.plainAttrs_list PySem.F.slot_list_append PySem.F.type_list_append mt_append (pv 4) (pa_cons (pv 9) pa_nil))))))))))
      (pss_cons (ps_if (PW.pt (pw_or (pt_cmpR op_ne (pv 2) pe_str (nomark _)) (pw_or1 (pt_cmpR op_lt (pe_callB call_len_seq (by rfl) (fr T "len") boot_len (pa_cons (pv 1) pa_nil)) (pv 5) (nomark _))))) (pss_one (ps_raise rfl (takes_of rfl rfl rfl rfl) (pmk_of (pmkBadText T.bt G (fr T "super") (dp_of hr) (pa_cons (pe_callB (r := rLenS K) call_len_seq (by rfl) (fr T "len") boot_len (pa_cons (pv 1) pa_nil)) pa_nil))))) pss_nil)
      (pss_one (ps_ret (pe_cl C_made_of hr (by decide) (passes_call (takes_of rfl rfl rfl rfl) (fun _ _ _ _ h => h)) rfl (pa_cons (pv 3) (pa_cons (pv 4) (pa_cons (pe_callB call_len_seq (by rfl) (fr T "len") boot_len (pa_cons (pv 1) pa_nil)) pa_nil)))))))))), ?_⟩
    have sl : sizeLine = 16777216 := sizeLine_eq
    refine ⟨_, rfl, t, rfl, by omega, fun H1 p1 L s1 nL hp1 hL => ?_⟩
    refine ⟨p1, _, rfl, SqT.of hp1, rfl, _, _, rfl, _, _, rfl, rfl, ?_⟩
    refine fun D hD => ⟨Nat.zero_le _, fun F hF => ⟨rfl, _, _, rfl, rfl, _, _, _, rfl, ?_⟩⟩
    have hDH : H D = none := Same.none s1 hD
    have hF1 : H1 F = none := Same.none (Same.new hD) hF
    have hFH : H F = none := Same.none s1 hF1
    have DF : D ≠ F := fun z => by rw [← z, upd_same] at hF; cases hF
    have LD : L ≠ D := fun z => by rw [← z, hL] at hD; cases hD
    have LF : L ≠ F := fun z => by rw [← z, hL] at hF1; cases hF1
    have hlen : (rowsOf t).length = (Txt.split t NL).dropLast.length := by unfold rowsOf; rw [List.length_map]
    have hn : (Txt.split t NL).dropLast.length ≤ 1000001 := by
      rw [List.length_dropLast]
      have := sepN.len t
      omega
    have hL2 : (upd (upd H1 D (.dK [])) F (.lst [])) L = some (.lst ((Txt.split t NL).dropLast.map V.str)) := by
      rw [upd_ne LF, upd_ne LD]
      exact hL
    refine ⟨_, rfl, L, _, rfl, SqL.of hL2, ?_⟩
    refine for_it (walk_enum (xs := (Txt.split t NL).dropLast.map V.str)) (fun i σ H' => ∃ vs o6 o7 o8 o9, σ = [some (.str t), some (.ref L), some (.str (restOf t)), some (.ref D), some (.ref F), some (.int 8), o6, o7, o8, o9] ∧ Same H H' ∧ H' L = some (.lst ((Txt.split t NL).dropLast.map V.str)) ∧ H' D = some (.dK ((zsOf (rowsOf t)).take i)) ∧ H' F = some (.lst vs) ∧ Paired (KindAt H') vs ((((rowsOf t).take i).drop 8).filterMap (kindIn (evOf (rowsOf t)))) ∧ vs.length = i - 8 ∧ ∀ j r', j < i → (rowsOf t)[j]? = some r' → rowOk (evOf (rowsOf t)) j r' = true)
      ⟨[], none, none, none, none, rfl, ?_, hL2, ?_, upd_same, .nil, rfl, fun j r' hj => absurd hj (Nat.not_lt_zero j)⟩ (fun i σ H' _ q => ?_) (fun i x σ H3 H4 hi q y => ?_) (fun σ H3 q => ?_)
    · exact (s1.trans (Same.new hD)).trans (Same.new hF)
    · rw [upd_ne DF, upd_same]
      rfl
    · obtain ⟨_, _, _, _, _, _, _, q, _⟩ := q
      exact SqL.of q
    · obtain ⟨vs, o6, o7, o8, o9, rfl, s3, hL3, hD3, hF3, pr, hvl, hok⟩ := q
      rw [List.length_map] at hi
      obtain ⟨T1, x1, x2, rfl, hT1, rfl, e1, e2⟩ := y
      replace e2 : ((Txt.split t NL).dropLast.map V.str)[i]? = some x2 := e2
      have z1 : x1 = .int (i : Nat) := (Option.some.inj e1).symm
      subst z1
      have el : (Txt.split t NL).dropLast[i]? = some (Txt.split t NL).dropLast[i] := List.getElem?_eq_getElem hi
      have hlm : (Txt.split t NL).dropLast[i] ∈ Txt.split t NL := List.dropLast_subset _ (List.getElem_mem hi)
      generalize (Txt.split t NL).dropLast[i] = line at el hlm
      rw [List.getElem?_map, el] at e2
      have z2 : x2 = .str line := (Option.some.inj e2).symm
      subst z2
      have hll := sepN.part t line hlm
      have er : (rowsOf t)[i]? = some (Txt.split line SP) := by
        unfold rowsOf
        rw [List.getElem?_map, el] <;> rfl
      have s4 : Same H3 (upd H3 T1 (.tup [.int (i : Nat), .str line])) := Same.new hT1
      refine ⟨T1, _, rfl, SqT.of upd_same, rfl, _, _, rfl, _, _, rfl, rfl, ?_⟩
      refine ⟨_, rfl, ⟨_, rfl⟩, _, _, rfl, rfl, rfl, by omega, fun W hW => ?_⟩
      have s5 : Same H3 (upd (upd H3 T1 (.tup [.int (i : Nat), .str line])) W (.lst ((Txt.split line SP).map V.str))) := Same.new' s4 hW
      have hwz : ∀ z ∈ Txt.split line SP, z.length ≤ sizeLine := fun z hz => by
        have := sepS.part line z hz
        omega
      have hwn : (Txt.split line SP).length < 2 ^ 20 := by
        have := sepS.len line
        omega
      generalize hws : Txt.split line SP = ws at er hwz hwn s5 ⊢
      have hWl : (upd (upd H3 T1 (.tup [.int (i : Nat), .str line])) W (.lst (ws.map V.str))) W = some (.lst (ws.map V.str)) := upd_same
      generalize (upd (upd H3 T1 (.tup [.int (i : Nat), .str line])) W (.lst (ws.map V.str))) = H5 at s5 hWl ⊢
      have s35 := s3.trans s5
      -- a bad row
      have bad : rowOk (evOf (rowsOf t)) i ws = false → ∀ H7 d, Same H5 H7 → H7 d = none → E (.ref (He.ga K "BadText")) (some d) (upd H7 d (.xd [(("row" : Str), .int (i : Nat))])) := by
        intro hb H7 d s7 hd
        have hfb : fb (rowOk (evOf (rowsOf t))) 0 (rowsOf t) = some i := by
          have := fb_some (p := rowOk (evOf (rowsOf t))) (k := 0) er (by rw [Nat.zero_add]; exact hb) (fun j r' hj hr => by rw [Nat.zero_add]; exact hok j r' hj hr)
          rwa [Nat.zero_add] at this
        have hrh : readHall t = .error i := by
          unfold readHall
          rw [hfb]
        rw [hrh] at k
        exact k _ _ (s35.trans (s7.trans (Same.new hd))) (Same.none (s35.trans s7) hd) upd_same
      have next : rowOk (evOf (rowsOf t)) i ws = true → ∀ j r', j < i + 1 → (rowsOf t)[j]? = some r' → rowOk (evOf (rowsOf t)) j r' = true := by
        intro hg j r' hj hr
        rcases Nat.lt_or_ge j i with hj' | hj'
        · exact hok j r' hj' hr
        · have : j = i := by omega
          subst this
          rw [er] at hr
          cases hr
          exact hg
      refine ⟨_, rfl, _, rfl, _, _, rfl, rfl, _, rfl, ?_⟩
      have hL5 := s5 _ _ hL3
      have hD5 := s5 _ _ hD3
      have hF5 := s5 _ _ hF3
      by_cases h8 : i < 8
      · refine iteT' (decide_eq_true (by omega)) ?_
        refine ⟨_, rfl, _, rfl, W, ws, i, rfl, SqL.of hWl, h8, hwz, fun H7 s7 => ?_⟩
        have hro : rowOk (evOf (rowsOf t)) i ws = headOk i ws := by
          unfold rowOk
          rw [if_pos h8]
        cases hg : headOk i ws with
        | false =>
          refine ⟨_, rfl, iteT ?_⟩
          exact ⟨_, rfl, _, rfl, fun d hd => bad (hro.trans hg) _ d s7 hd⟩
        | true =>
          refine ⟨_, rfl, iteF ?_⟩
          have hws2 : ∃ v, ws = [allN.getD i NO, v] := by
            cases i with
            | zero =>
              obtain ⟨b, n, e, _⟩ := headOk_zero hg
              exact ⟨b, e⟩
            | succ j =>
              obtain ⟨v, e, _⟩ := headOk_succ hg
              exact ⟨v, e⟩
          obtain ⟨v, hv⟩ := hws2
          have nx := next (hro.trans hg)
          have hzs := zs_step h8 er
          rw [hv] at hzs hWl
          have hW7 := s7 _ _ hWl
          have a0 : atI ([allN.getD i NO, v].map V.str) (0 : Int) = some (.str (allN.getD i NO)) := atI_nat (j := 0) rfl
          have a1 : atI ([allN.getD i NO, v].map V.str) (1 : Int) = some (.str v) := atI_nat (j := 1) rfl
          have hD7 := s7 _ _ hD5
          have hF7 := s7 _ _ hF5
          have hL7 := s7 _ _ hL5
          have s37 := s35.trans s7
          refine ⟨_, rfl, _, _, _, _, rfl, rfl, SqL.of hW7, a1, _, rfl, _, rfl, _, _, _, _, rfl, rfl, SqL.of hW7, a0, _, _, rfl, DPut.k (k := Sum.inr (allN.getD i NO)) hD7 (by
            rw [List.length_take]
            omega), ?_⟩
          rw [show putK ((zsOf (rowsOf t)).take i) (Sum.inr (allN.getD i NO)) (.str v) = (zsOf (rowsOf t)).take (i + 1) from hzs]
          have hvs : vs = [] := by
            cases vs with
            | nil => rfl
            | cons _ _ => simp at hvl; omega
          subst hvs
          refine ⟨[], _, _, _, _, rfl, ?_, ?_, upd_same, ?_, ?_, by simp; omega, nx⟩
          · intro z o hz
            rw [upd_ne (ne_of_none hz hDH)]
            exact s37 _ _ hz
          · rw [upd_ne LD]
            exact hL7
          · rw [upd_ne (Ne.symm DF)]
            exact hF7
          · have : ((rowsOf t).take (i + 1)).drop 8 = [] := by
              rw [List.drop_eq_nil_iff, List.length_take]
              omega
            rw [this]
            exact .nil
      · refine iteF' (decide_eq_false (by omega)) ?_
        have hr0 : ∃ r0, (rowsOf t)[0]? = some r0 := by
          have := (List.getElem?_eq_some_iff.mp er).1
          exact ⟨_, List.getElem?_eq_getElem (by omega)⟩
        obtain ⟨r0, hr0⟩ := hr0
        have hk0 := hok 0 r0 (by omega) hr0
        unfold rowOk at hk0
        rw [if_pos (by omega)] at hk0
        obtain ⟨b0, n0, e0, hn0, hn1, hn3⟩ := headOk_zero hk0
        have hev : evOf (rowsOf t) = n0 := by
          unfold evOf List.getD
          rw [hr0, e0]
          show (numIn b0).getD 0 = n0
          rw [hn0] <;> rfl
        have hbl : b0.length = 1 := by
          by_cases z : b0.length = 1
          · exact z
          · rw [numIn_len z] at hn0
            cases hn0
        have hit : PySem.intText? b0 = some (n0 : Int) := by
          obtain ⟨c, rfl⟩ := one_sign hbl
          exact int_sign hn0
        have hg5 : DGet H5 D (.str sEvents) (some (.str b0)) := by
          have := zs_events (i := i - 1) hr0
          rw [show i - 1 + 1 = i by omega, e0] at this
          rw [show V.str b0 = V.str ([sEvents, b0].getD 1 NO) from rfl, ← this]
          exact DGet.k (k := Sum.inr sEvents) hD5
        subst hev
        refine ⟨_, rfl, _, rfl, _, _, rfl, hg5, _, (evOf (rowsOf t) : Int), rfl, hit, by rw [hbl]; decide, W, ws, evOf (rowsOf t), rfl, SqL.of hWl, hwn, hwz, fun H7 u s7 hu => ?_⟩
        have hL7 := s7 _ _ hL5
        have hD7 := s7 _ _ hD5
        have hF7 := s7 _ _ hF5
        have s37 := s35.trans s7
        have hro : rowOk (evOf (rowsOf t)) i ws = ((kindIn (evOf (rowsOf t)) ws).isSome && !decide (i = 12)) := by
          unfold rowOk
          rw [if_neg h8]
        cases hk : kindIn (evOf (rowsOf t)) ws with
        | none =>
          rw [hk] at hu hro
          replace hu : u = .non := hu
          subst hu
          refine ⟨_, rfl, rfl, _, rfl, iteT (iteT ?_)⟩
          exact ⟨_, rfl, _, rfl, fun d hd => bad hro _ d s7 hd⟩
        | some kd =>
          rw [hk] at hu hro
          replace hu : KindAt H7 u kd := hu
          obtain ⟨pu, tu, rfl, hpu, hau⟩ := id hu
          refine ⟨_, rfl, rfl, _, rfl, iteF ?_⟩
          refine ⟨_, rfl, _, _, rfl, .inl (SqL.of hF7), rfl, _, rfl, ?_⟩
          rw [hvl]
          by_cases h12 : i = 12
          · subst h12
            refine iteT ?_
            exact ⟨_, rfl, _, rfl, fun d hd => bad hro _ d s7 hd⟩
          · have e : decide (V.int ((i - 8 : Nat) : Int) = V.int 4) = false := decide_eq_false (fun z => by injection z with z; omega)
            refine iteF' e ?_
            have hgood : rowOk (evOf (rowsOf t)) i ws = true := by
              rw [hro, decide_eq_false h12] <;> rfl
            have i12 : i < 12 := by
              rcases Nat.lt_or_ge i 12 with z | z
              · exact z
              · have hx : ∃ r, (rowsOf t)[12]? = some r := by
                  have := (List.getElem?_eq_some_iff.mp er).1
                  exact ⟨_, List.getElem?_eq_getElem (by omega)⟩
                obtain ⟨r, hr⟩ := hx
                have := hok 12 r (by omega) hr
                unfold rowOk at this
                rw [if_neg (by omega)] at this
                simp at this
            have nx := next hgood
            have hpF : pu ≠ F := fun z => by
              rw [z, hF7] at hpu
              cases hpu
            refine ⟨_, rfl, .inl ⟨rfl, _, SqL.of hF7⟩, _, rfl, _, _, _, rfl, rfl, hF7, by rw [hvl]; omega, ?_⟩
            have kt : Kt H7 (upd H7 F (.lst (vs ++ [.ref pu]))) := fun b xs hb => by
              rw [upd_ne (ne_of hb hF7 (by intro z; cases z))]
              exact hb
            refine ⟨vs ++ [.ref pu], _, _, _, _, rfl, ?_, ?_, ?_, upd_same, ?_, by rw [List.length_append, List.length_singleton, hvl]; omega, nx⟩
            · intro z o hz
              rw [upd_ne (ne_of_none hz hFH)]
              exact s37 _ _ hz
            · rw [upd_ne LF]
              exact hL7
            · rw [upd_ne DF]
              have hz : (zsOf (rowsOf t)).length ≤ 8 := by
                unfold zsOf
                rw [List.length_zipWith]
                exact Nat.min_le_left _ _
              rw [List.take_of_length_le (by omega)] at hD7 ⊢
              exact hD7
            · have et : (((rowsOf t).take (i + 1)).drop 8).filterMap (kindIn (evOf (rowsOf t))) = (((rowsOf t).take i).drop 8).filterMap (kindIn (evOf (rowsOf t))) ++ [kd] := by
                rw [List.take_add_one, er, List.drop_append, List.filterMap_append]
                have hl8 : 8 - ((rowsOf t).take i).length = 0 := by
                  rw [List.length_take]
                  have := (List.getElem?_eq_some_iff.mp er).1
                  omega
                rw [hl8]
                simp [hk]
              rw [et]
              have kt3 : Kt H3 (upd H7 F (.lst (vs ++ [.ref pu]))) := (Kt.of (s5.trans s7)).trans kt
              exact Paired.snoc (paired_mono (fun _ _ f => KindAt.mono kt3 f) pr) (KindAt.mono kt hu)
    · obtain ⟨vs, o6, o7, o8, o9, rfl, s3, hL3, hD3, hF3, pr, hvl, hok⟩ := q
      have e0 : ((Txt.split t NL).dropLast.map V.str).length = (rowsOf t).length := by rw [List.length_map, hlen]
      rw [e0] at pr hD3 hok hvl
      rw [List.take_length] at pr
      have hfb : fb (rowOk (evOf (rowsOf t))) 0 (rowsOf t) = none := fb_none fun j r' hr => by
        rw [Nat.zero_add]
        exact hok j r' (List.getElem?_eq_some_iff.mp hr).1 hr
      have bad : (restOf t ≠ NO ∨ (rowsOf t).length < 8) → ∀ H7 d, Same H H7 → H7 d = none → E (.ref (He.ga K "BadText")) (some d) (upd H7 d (.xd [(("row" : Str), .int ((rowsOf t).length : Nat))])) := by
        intro hb H7 d s7 hd
        have hrh : readHall t = .error (rowsOf t).length := by
          unfold readHall
          rw [hfb]
          exact if_pos hb
        rw [hrh] at k
        exact k _ _ (s7.trans (Same.new hd)) (Same.none s7 hd) upd_same
      refine ⟨_, rfl, rfl, _, rfl, ?_⟩
      by_cases hr : restOf t = NO
      · have e : (!decide (V.str (restOf t) = V.str "")) = false := by rw [hr]; decide +kernel
        refine iteF' e ?_
        refine ⟨_, rfl, _, _, rfl, .inl (SqL.of hL3), _, rfl, _, _, rfl, rfl, _, rfl, ?_⟩
        rw [List.length_map, ← hlen]
        by_cases h8 : (rowsOf t).length < 8
        · refine iteT' (decide_eq_true (by omega)) ?_
          refine ⟨_, rfl, _, _, rfl, .inl (SqL.of hL3), _, rfl, fun d hd => ?_⟩
          rw [List.length_map, ← hlen]
          exact bad (.inr h8) _ d s3 hd
        · refine iteF' (decide_eq_false (by omega)) ?_
          obtain ⟨m1, m2, m3, m4, m5⟩ := rows_made (by omega) hfb
          have hDa := hD3
          rw [zs_all (by omega) hfb] at hDa
          refine ⟨_, rfl, _, rfl, _, rfl, _, _, rfl, .inl (SqL.of hL3), ?_⟩
          rw [List.length_map, ← hlen]
          have hh : readHall t = if kindsOk (evOf (rowsOf t)) (made (rowsOf t)).kinds = true then .ok (made (rowsOf t)) else .error (rowsOf t).length := by
            unfold readHall
            rw [hfb]
            exact if_neg (fun z => z.elim (fun z => z hr) h8)
          rw [hh] at k
          refine ⟨D, F, evOf (rowsOf t), (rowsOf t).length, vs, (made (rowsOf t)).kinds, (made (rowsOf t)).heads, rfl, hDa, SqL.of hF3, pr, m3, m4, m2, fun ek H7 v s7 hv => ?_, fun ek H7 d s7 hd hx => ?_⟩
          · rw [if_pos ek] at k
            exact k _ _ (s3.trans s7) hv
          · rw [if_neg (by rw [ek]; exact Bool.false_ne_true)] at k
            exact k _ _ (s3.trans s7) (Same.none s3 hd) hx
      · have e : (!decide (V.str (restOf t) = V.str "")) = true := by rw [decide_eq_false (fun z => hr (by injection z))] <;> rfl
        refine iteT' e (iteT ?_)
        refine ⟨_, rfl, _, _, rfl, .inl (SqL.of hL3), _, rfl, fun d hd => ?_⟩
        rw [List.length_map, ← hlen]
        exact bad (.inl hr) _ d s3 hd
end K5
set_option Elab.async false
set_option linter.all false
set_option maxRecDepth 100000
set_option maxHeartbeats 4000000
namespace K5
open PySem PySem.Spec PyProof.Rows L2
variable {P : Program} {w : World} {K : PySem.W.Frag} {mg : Str → Option Value} {base : Heap}
/-! ### the law's draws -/
theorem scDraw : FnScope ["_law_cell", "_law_k", "_law_many", "_law_primes"] ["_law_cell", "_law_k", "_law_many"] (defScope sDraw) := ⟨rfl, rfl, rfl, by decide +kernel, rfl, by decide +kernel, by decide +kernel⟩
theorem mod_pos {a b : Int} (h : 0 < b) : 0 ≤ a % b ∧ a % b < b := ⟨Int.emod_nonneg a (by omega), Int.emod_lt_of_pos a h⟩
def primes : List Int := [1000003, 1000033, 1000037, 1000039, 1000081, 1000099, 1000117, 1000121, 1000133, 1000151, 1000159, 1000171, 1000183, 1000187, 1000193, 1000199]
def spDraw : Sp := fun vs H Q _ => ∃ (c k m : Int), vs = [.int c, .int k, .int m] ∧ 0 < m ∧ ∀ H' r, Same H H' → 0 ≤ r → r < m → Q (.int r) H'
theorem cl_draw (T : Txt w K mg) : Cl P w K mg base CX0 1 "_law_draw" spDraw := by
  refine cl_def T (i := 39) (j := 24) rfl (by decide +kernel) scDraw (fun _ _ _ _ _ _ us hl => match us, hl with | [_, _, _], _ => rfl) (fun vs H Q E h => ?_) (fun cdv A outer s H vs Q E hr h => ?_)
  · obtain ⟨c, k, m, rfl, _⟩ := h
    rfl
  · obtain ⟨c, k, m, rfl, hm, kk⟩ := h
    refine ⟨_, (pss_cons (ps_set (i := 3) scDraw.nd rfl (by first | exact Or.inl rfl | exact Or.inr rfl) (pe_tup (pa_cons pe_int (pa_cons pe_int (pa_cons pe_int (pa_cons pe_int (pa_cons pe_int (pa_cons pe_int (pa_cons pe_int (pa_cons pe_int (pa_cons pe_int (pa_cons pe_int (pa_cons pe_int (pa_cons pe_int (pa_cons pe_int (pa_cons pe_int (pa_cons pe_int (pa_cons pe_int pa_nil))))))))))))))))))
      (pss_one (ps_ret (pe_op op_mod (pe_op op_mod (pe_callTy call_int1 (by rfl) (fr T "int") PyProof.Rows.boot_int (pa_cons (pe_op op_add (pe_op op_mul (pv 0) pe_int) (pe_op op_mul (pv 1) pe_int)) pa_nil)) (pe_ix ix_tup (pv 3) (pe_op op_mod (pv 1) pe_int) (fun _ _ => rfl))) (pv 2))))), ?_⟩
    refine ⟨(by show 16 ≤ sizeLine; decide +kernel), fun q hq => ?_⟩
    have s1 : Same H (upd H q (.tup [.int 1000003, .int 1000033, .int 1000037, .int 1000039, .int 1000081, .int 1000099, .int 1000117, .int 1000121, .int 1000133, .int 1000151, .int 1000159, .int 1000171, .int 1000183, .int 1000187, .int 1000193, .int 1000199])) := Same.new hq
    obtain ⟨k0, k1⟩ := mod_pos (a := k) (b := 16) (by decide)
    obtain ⟨j, hj⟩ := Int.eq_ofNat_of_zero_le k0
    obtain ⟨p, hp, hp0⟩ : ∃ p : Int, primes[j]? = some p ∧ 0 < p := by
      have hjl : j < primes.length := by
        show j < 16
        omega
      refine ⟨primes[j], List.getElem?_eq_getElem hjl, ?_⟩
      have : ∀ x ∈ primes, 0 < x := by decide
      exact this _ (List.getElem_mem hjl)
    have ha : atI (primes.map V.int) (k % 16) = some (.int p) := by
      rw [hj]
      exact atI_nat (by rw [List.getElem?_map, hp] <;> rfl)
    refine ⟨_, rfl, _, _, rfl, rfl, .inr (by decide), _, rfl, _, _, rfl, rfl, .inr (by decide), _, _, rfl, rfl, .inl ⟨_, rfl, ?_⟩⟩
    refine ⟨_, rfl, _, rfl, _, _, rfl, rfl, (show (0 : Int) < 16 by decide), _, _, _, _, rfl, rfl, SqT.of upd_same, ha, _, _, rfl, rfl, hp0, _, rfl, _, _, rfl, rfl, hm, ?_⟩
    obtain ⟨m0, m1⟩ := mod_pos (a := (c * 48271 + k * 69621) % p) hm
    exact kk _ _ s1 m0 m1
theorem dpInts {K : PySem.W.Frag} {H : Hp} : ∀ ds : List Int, DpAll K H (ds.map V.int) (ds.map PyData.int)
  | [] => .nil
  | d :: ds => .cons (.int d) (dpInts ds)
theorem plain_ints : ∀ ds : List Int, (PyData.list (ds.map PyData.int)).plain = true
  | [] => rfl
  | d :: ds => by
    have := plain_ints ds
    simpa [PyData.plain, PyData.plainAll] using this
theorem eqv_nilL (ds : List PyData) : PyData.eqv (.list ds) (.list []) = decide (ds = []) := by
  cases ds with
  | nil => rfl
  | cons d ds => simp [PyData.eqv, PyData.eqvAll]
theorem seqIndex_zero {n : Nat} (h : 0 < n) : seqIndex? 0 n = some 0 := by
  unfold seqIndex?
  simp [h]
theorem scTake : FnScope ["_law_draws", "_law_many"] ["_law_draws", "_law_many"] (defScope sTake) := ⟨rfl, rfl, rfl, by decide +kernel, rfl, by decide +kernel, by decide +kernel⟩
def DrawsAt (H : Hp) (D : Addr) : Prop := ∃ ds : List Int, H D = some (.lst (ds.map V.int))
def spTake : Sp := fun vs H Q _ => ∃ (D : Addr) (m : Int), vs = [.ref D, .int m] ∧ DrawsAt H D ∧ 0 < m ∧ ∀ H' r, But D H H' → DrawsAt H' D → 0 ≤ r → r < m → Q (.int r) H'
theorem cl_take (T : Txt w K mg) : Cl P w K mg base CX0 1 "_law_take" spTake := by
  refine cl_def T (i := 42) (j := 27) rfl (by decide +kernel) scTake (fun _ _ _ _ _ _ us hl => match us, hl with | [_, _], _ => rfl) (fun vs H Q E h => ?_) (fun cdv A outer s H vs Q E hr h => ?_)
  · obtain ⟨D, m, rfl, _⟩ := h
    rfl
  · obtain ⟨D, m, rfl, ⟨ds, hD⟩, hm, kk⟩ := h
    have hu := hu_of hr
    refine ⟨_, (pss_one (ps_ret (pe_ifExp (pt_cmpR (op_neP hr.units) (pv 0) (pe_lst pa_nil) (nomark _)) (pe_op op_mod (pe_callTy call_int1 (by rfl) (fr T "int") PyProof.Rows.boot_int (pa_cons (pe_bm PySem.F.plainAttrs_list PySem.F.slot_list_pop PySem.F.type_list_pop mt_popAt (pv 0) (pa_cons pe_int pa_nil)) pa_nil)) (pv 1)) pe_int))), ?_⟩
    refine ⟨_, rfl, Nat.zero_le _, fun n hn => ?_⟩
    have hDn : D ≠ n := ne_of_none hD hn
    have hD1 : (upd H n (.lst [])) D = some (.lst (ds.map V.int)) := by rw [upd_ne hDn, hD]
    have b1 : But D H (upd H n (.lst [])) := But.of (Same.new hn)
    refine ⟨_, _, .lst (SqL.of hD1) (dpInts ds), .lst (SqL.of upd_same) .nil, plain_ints ds, rfl, by show min _ 1 ≤ 64; omega, ?_⟩
    rw [eqv_nilL]
    cases ds with
    | nil =>
      refine ⟨_, rfl, iteF ?_⟩
      exact kk _ 0 b1 ⟨[], hD1⟩ (Int.le_refl _) hm
    | cons d ds =>
      refine ⟨_, rfl, iteT ?_⟩
      refine ⟨_, rfl, .inl ⟨rfl, _, SqL.of hD1⟩, _, _, _, _, _, rfl, rfl, hD1, by decide, by decide, seqIndex_zero (by simp), rfl, .inl ⟨_, rfl, _, rfl, _, _, rfl, rfl, hm, ?_⟩⟩
      obtain ⟨m0, m1⟩ := mod_pos (a := d) hm
      exact kk _ _ (b1.trans But.mut) ⟨ds, upd_same⟩ m0 m1
end K5
set_option Elab.async false
set_option linter.all false
set_option maxRecDepth 100000
set_option maxHeartbeats 4000000
/-! enumerate(tuple) -/
namespace K5
open PySem PySem.Spec PyProof.Rows L2
open PySem.Sem (wp)
open AutoSeq1 (wpAny_loadPart')
theorem draws_tup {prog : Program} {w : World} {A : Around} (hh : A.handled = none) (it l : Addr) (hne : l ≠ it) (items : Array Value) :
    Draws prog w A it [it, l] items.size (fun i v => items[i]? = some v) (fun i h => h.IsTupleIter it l i ∧ h.IsTuple l items) where
  live := fun _ _ st => let ⟨o, ho, _⟩ := st.1; ⟨o, ho⟩
  frame := fun _ _ _ st hk => ⟨st.1.at fun o e => hk it (by simp) o e, let ⟨o, ho, r⟩ := st.2; ⟨o, hk l (by simp) o ho, r⟩⟩
  item := fun i s Q E hi st hQ => by
    refine RZ.nextOf_tuple_item st.1 st.2 (x := items[i]) (by simp [hi]) fun h' hit' hs' => ?_
    exact hQ _ h' s.toks (by simp [hi]) ⟨hit', let ⟨o, ho, r⟩ := st.2; ⟨o, (hs'.2 l hne).trans ho, r⟩⟩ hs'
  done := fun s Q E st hE => RZ.nextOf_tuple_end hh st.1 st.2 (by simp) hE
theorem meets_enumerate_newT (l : Addr) (items : Array Value) (n : Nat) (dct : Option Addr) (sl : Array (Option Value)) :
    Meets (Builtin.«enumerate.__new__» ⟨[.type "enumerate", .ref l], []⟩) (fun _ R s => s.heap.get? l = some { cls := .type "tuple", dict := dct, data := .seq items n, slots := sl } ∧
      R (.ok (.ret (.ref (s.heap.push { cls := .type "tuple_iterator", data := .fields #[.ref l, .int 0 0] }).objs.size)))
        { s with heap := (s.heap.push { cls := .type "tuple_iterator", data := .fields #[.ref l, .int 0 0] }).push { cls := .type "enumerate", data := .fields #[.none, .bool false, .ref s.heap.objs.size, rawInt 0, .none, .none] } }) :=
  .of_wp fun prog w A R s h => by
    obtain ⟨hp, g, d, tk, os⟩ := s; obtain ⟨hl, h⟩ := h
    have hsub := sub_enumerate
    have hL : Heap.IsTuple (Shared.heap ⟨hp, g, d, tk, os⟩) l items := ⟨_, hl, rfl, n, rfl⟩
    wp_walk using wpAny_loadPart' hl
    refine wpAny_stack_any fun st => wpAny_pure ?_
    split
    · rename_i c _ _ _ _ _
      cases (c == Value.type "enumerate")
      · wp_walk using wpAny_loadPart' hl, wpAny_pyIter_tuple hL
        exact ⟨_, rfl, h⟩
      · wp_walk using wpAny_loadPart' hl, wpAny_pyIter_tuple hL
        exact ⟨_, rfl, h⟩
    · wp_walk using wpAny_loadPart' hl, wpAny_pyIter_tuple hL
      exact ⟨_, rfl, h⟩
section
variable {prog : Program} {w : World} {A : Around} {E : Value → Shared → Prop} {s : Shared}
theorem call_enumerate_tup {l : Addr} {items : Array Value} {Q : Value → Shared → Prop} (hL : s.heap.IsTuple l items)
    (h : ∀ h', IsEnum h' (s.heap.objs.size + 1) s.heap.objs.size 0 .none → h'.IsTupleIter s.heap.objs.size l 0 → h'.objs.size = s.heap.objs.size + 2 →
      (∀ b o, s.heap.get? b = some o → h'.get? b = some o) → Q (.ref (s.heap.objs.size + 1)) { s with heap := h' }) :
    wpAny (model prog w) A (call (.type "enumerate") [.ref l]) Q E s := by
  obtain ⟨⟨c, dct, dt, sl⟩, hl, hc, n, hd⟩ := hL
  replace hc : c = .type "tuple" := hc
  replace hd : dt = .seq items n := hd
  subst hc hd
  refine callType_new F.called_enumerate (by decide) (F.typeCall_enumerate_1 _) (F.newCall_enumerate_1 _) (fun obj => F.args_object_init_2 obj _) F.entry_enumerate_new
    (meets_enumerate_newT l items n dct sl) ⟨hl, ?_⟩
  have hz : (s.heap.push { cls := .type "tuple_iterator", data := .fields #[.ref l, .int 0 0] }).objs.size = s.heap.objs.size + 1 := Heap.size_push ..
  show _ ∧ _
  rw [hz]
  have he : IsEnum ((s.heap.push { cls := .type "tuple_iterator", data := .fields #[.ref l, .int 0 0] }).push
      { cls := .type "enumerate", data := .fields #[.none, .bool false, .ref s.heap.objs.size, rawInt 0, .none, .none] }) (s.heap.objs.size + 1) s.heap.objs.size 0 .none := by
    have := Heap.get?_push_size (s.heap.push { cls := .type "tuple_iterator", data := .fields #[.ref l, .int 0 0] })
      (o := { cls := .type "enumerate", data := .fields #[.none, .bool false, .ref s.heap.objs.size, rawInt 0, .none, .none] }) rfl
    rw [hz] at this; exact this
  refine ⟨⟨_, he, rfl⟩, h _ he ⟨_, Heap.get?_push_of_some _ (Heap.get?_push_size _ rfl), rfl, rfl⟩ (by rw [Heap.size_push, hz]) fun b o x => Heap.get?_push_of_some _ (Heap.get?_push_of_some _ x)⟩
theorem pyNext_enum_endT {e it l : Addr} {i : Nat} {items : Array Value} {old : Value} {Q : Option Value → Shared → Prop} (hh : A.handled = none)
    (he : IsEnum s.heap e it i old) (hit : s.heap.IsTupleIter it l i) (hl : s.heap.IsTuple l items) (hx : items[i]? = none)
    (hQ : ∀ h', Heap.ExtBut it s.heap h' → Q none { s with heap := h' }) : wpAny (model prog w) A (pyNext (.ref e)) Q E s := by
  have hT : s.TypeIs (.ref e) "enumerate" := ⟨_, he, rfl⟩
  unfold pyNext
  refine wpAny_bind (wpAny_attempt (wpAny_callSpecial?_slot (name := Str.ofString "__next__") hT F.slot_enumerate_next
    (wpAny_call_entry F.slot_enumerate_next hT F.entry_enumerate_next ?_ (F.args_enumerate_next_1 _))))
  show wpAny _ _ (field (.ref e) 2 >>= _) _ _ _
  refine wpAny_bind (wpAny_field he rfl (x := .ref it) rfl ?_)
  refine wpAny_bind (RZ.nextOf_tuple_end hh hit hl hx fun h' x he' hx' => ?_)
  obtain ⟨o, ho, hc⟩ := hx'
  refine wpAny_bind (wpAny_isInstance (T := "StopIteration") (b := true) ⟨o, ho, hc⟩ isSubtype_stop ?_)
  exact wpAny_pure (hQ _ he')
end
/-- the tuple at a, each item in a new pair -/
def IteT (K : PySem.W.Frag) (a : Addr) : It :=
  ⟨fun i H => ∃ (xs : List V) (x : V), SqT K H a xs ∧ xs[i]? = some x, fun i H v H' => ∃ T x, v = .ref T ∧ H T = none ∧ H' = upd H T (.tup [.int (i : Nat), x]) ∧ ∀ xs, SqT K H a xs → xs[i]? = some x, fun i H => ∃ xs : List V, SqT K H a xs ∧ xs.length ≤ i⟩
theorem turn_enumT {P : Program} {w : World} {K : PySem.W.Frag} {elts : List Expr} {kk : Nat} {tpos : Pos} (a e it : Addr) (hae : a < it) :
    Turn P w K (.Tuple elts kk tpos) (IteT K a) [e, it] e (fun i h => (∃ old, IsEnum h e it ((i : Nat) : Int) old) ∧ h.IsTupleIter it a i ∧ e ≠ it ∧ a ≠ e) where
  mem := by simp
  obj := fun i h st b hb => by
    obtain ⟨⟨old, he⟩, ⟨o, ho, hc, hd⟩, _⟩ := st
    have e' : b = e ∨ b = it := by simpa using hb
    rcases e' with z | z
    · rw [z]; exact ⟨_, he, fun v q => nomatch q⟩
    · rw [z]; exact ⟨o, ho, fun v q => by rw [hd] at q; cases q⟩
  keep := fun i h h' st k => let ⟨⟨old, he⟩, hi, hne⟩ := st; ⟨⟨old, k e (by simp) _ he⟩, hi.at fun o q => k it (by simp) o q, hne⟩
  item := by
    intro X hP hw hK hc i pins s σ H E I hf st hg
    subst hP hw hK
    obtain ⟨⟨old, he⟩, hit, hne, hnae⟩ := st
    obtain ⟨xs, x, hq, hx⟩ := hg
    obtain ⟨its, rv, p, hz⟩ := I.tuple hq
    obtain ⟨u, hu, ru⟩ := rv.get hx
    have hel : e < s.heap.objs.size := Heap.lt_size he
    have hil : it < s.heap.objs.size := by obtain ⟨_, q, _⟩ := hit; exact Heap.lt_size q
    have D := draws_tup (prog := X.prog) (w := X.w) (A := X.A.in1) (show X.A.in1.handled = none from I.ok.hd hc) it a (Nat.ne_of_lt hae) its.toArray
    have hlt : i < its.toArray.size := by
      have := (List.getElem?_eq_some_iff.mp hu).1
      simpa using this
    refine wpAny_pyNext_enum_itemD D he ⟨hit, p⟩ hlt hne (by simp [hne, Ne.symm hnae]) fun x' h' tk hPx ho hst' hT hsz hk => ?_
    have ex : x' = u := by
      rw [show its.toArray[i]? = some u by simpa using hu] at hPx
      exact (Option.some.inj hPx).symm
    subst ex
    refine ⟨_, rfl, wpAny_letOwnedTupleGo_enum (s := { s with heap := h', toks := tk + 1 }) ho fun h'' he' sb => ?_⟩
    have hT2 : h''.get? s.heap.objs.size = some { cls := .type "tuple", data := .seq #[.int i tk, x'] } := (sb.2 _ (Nat.ne_of_gt hel)).trans hT
    have new : ObjOk X.prog X.w (upd H s.heap.objs.size (.tup [.int (i : Nat), x])) h'' s.heap.objs.size (.tup [.int (i : Nat), x]) :=
      ⟨by show 2 ≤ sizeLine; decide, [.int i tk, x'], .cons ⟨_, rfl⟩ (.cons ru .nil), ⟨_, hT2, rfl, _, rfl⟩⟩
    have I1 : Inv X pins σ (upd H s.heap.objs.size (.tup [.int (i : Nat), x])) { s with heap := h'', toks := tk + 1 } :=
      I.turnedNew (ch := [e, it]) (fun b ob hb q => (sb.2 b (fun z => hb (by simp [z]))).trans (hk b ob (fun z => hb (by simp [z])) (fun z => hb (by simp [z])) q)) hf (Nat.le_refl _) new
    refine ⟨.ref s.heap.objs.size, _, I1, rfl, ⟨_, x, rfl, I.hok.fresh (Nat.le_refl _), rfl, fun ys hy => by rw [I.tuple_inj hy hq]; exact hx⟩, ⟨⟨x', ?_⟩, hst'.1.at fun o q => (sb.2 it (Ne.symm hne)).trans q, hne, hnae⟩, fun b hb => ?_⟩
    · have e1 : ((i + 1 : Nat) : Int) = (i : Int) + 1 := by omega
      rw [e1]; exact he'
    · have hb' : b < s.heap.objs.size := by
        have e' : b = e ∨ b = it := by simpa using hb
        rcases e' with z | z
        · rw [z]; exact hel
        · rw [z]; exact hil
      rw [upd_ne (Nat.ne_of_lt hb')]
      exact (hf b hb).1
  done := by
    intro X hP hw hK hc i pins s σ H E I hf st hg
    subst hP hw hK
    obtain ⟨⟨old, he⟩, hit, hne, hnae⟩ := st
    obtain ⟨xs, hq, hx⟩ := hg
    obtain ⟨its, rv, p, hz⟩ := I.tuple hq
    obtain ⟨f0, f1, f2, f3, f4, f5⟩ := hf it (by simp)
    have hl := rv.length
    exact pyNext_enum_endT (I.ok.hd hc) he hit (show s.heap.IsTuple a its.toArray from p) (by simp; omega) fun h' eb => ⟨rfl, I.turned (t' := s.toks) (fun b o hb q => eb b o hb q) f0 f1 f3 f4 f5⟩
  self := fun A i s Q E st h => let ⟨⟨_, he⟩, _⟩ := st; wpAny_pyIter_enum he h
def iEnumT (K : PySem.W.Frag) (ta : TA) : TI := fun σ H R => ta σ H fun vs H1 => ∃ a xs, vs = [.ref a] ∧ SqT K H1 a xs ∧ R (IteT K a) H1
theorem pi_enumT {X : Cx} {e : Expr} {ta : TA} {p pos tpos : Pos} {elts : List Expr} {kk : Nat} (hg : Gl X "enumerate") (hm : X.mg "enumerate" = none) (ha : PA X [e] ta) (hs : starEach [e] X.env = [(false, eval e X.env)] := by rfl) :
    PI X (.Tuple elts kk tpos) (.Call (.Name "enumerate" p) [e] [] pos) (iEnumT X.K ta) := by
  refine ⟨fun pins s σ H R I h => ?_⟩
  refine Call_ (ld_blt I hg hm boot_enumerate (PyProof.Rows.callWith_type1 (thn (ha.run pos pins s σ H _ I h) fun us s1 ⟨vs, H1, I1, r1, q1⟩ => ?_) hs rfl))
  obtain ⟨a, xs, ex, hq, q⟩ := q1
  subst ex
  cases r1 with
  | cons r rr =>
    cases rr
    cases r
    obtain ⟨its, rv, p', hz⟩ := I1.tuple hq
    have hal : a < s1.heap.objs.size := by
      obtain ⟨o, ho, _⟩ := p'
      exact Heap.lt_size ho
    refine call_enumerate_tup (show s1.heap.IsTuple a its.toArray from p') fun h' he hit hsz hk => wpAny_pyIter_enum he ?_
    have I2 : Inv X pins σ H1 { s1 with heap := h' } := I1.kept (t' := s1.toks) hk
    refine ⟨s1.heap.objs.size + 1, [s1.heap.objs.size + 1, s1.heap.objs.size], _, _, H1, rfl, I2, turn_enumT a (s1.heap.objs.size + 1) s1.heap.objs.size hal, ⟨⟨.none, he⟩, hit, Nat.succ_ne_self _, Nat.ne_of_lt (Nat.lt_succ_of_lt hal)⟩, fun b hb => ?_, q⟩
    have e' : b = s1.heap.objs.size + 1 ∨ b = s1.heap.objs.size := by simpa using hb
    have hle : s1.heap.objs.size ≤ b := by
      rcases e' with z | z
      · rw [z]; exact Nat.le_add_right _ _
      · rw [z]; exact Nat.le_refl _
    exact I1.fpOk hle (I1.hok.fresh hle)
theorem walk_enumT {K : PySem.W.Frag} {a : Addr} {xs : List V} : Walk (IteT K a) xs.length (fun H => SqT K H a xs) (YPair (fun i => some (.int (i : Nat))) (fun i => xs[i]?)) := by
  refine ⟨fun i _ hi q => ⟨xs, xs[i], q, by simp [hi]⟩, fun _ q => ⟨xs, q, Nat.le_refl _⟩, fun i H v H' _ q y => ?_⟩
  obtain ⟨T, x, h1, h2, h3, h4⟩ := y
  exact ⟨T, .int (i : Nat), x, h1, h2, h3, rfl, h4 xs q⟩
end K5
set_option Elab.async false
set_option linter.all false
set_option maxRecDepth 100000
set_option maxHeartbeats 4000000
namespace K5
open PySem PySem.Spec PyProof.Rows L2
variable {P : Program} {w : World} {K : PySem.W.Frag} {mg : Str → Option Value} {base : Heap}
/-! ### the law's cells -/
def IntsAt (K : PySem.W.Frag) (H : Hp) (a : Addr) : Prop := ∃ ns : List Int, SqL K H a (ns.map V.int)
theorem IntsAt.same {K : PySem.W.Frag} {H H' : Hp} {a : Addr} (s : Same H H') (h : IntsAt K H a) : IntsAt K H' a := let ⟨ns, h⟩ := h; ⟨ns, L2.Same.seq s h⟩
theorem scCellAt : FnScope ["_law_script", "_law_k"] ["_law_script", "_law_k"] (defScope sCellAt) := ⟨rfl, rfl, rfl, by decide +kernel, rfl, by decide +kernel, by decide +kernel⟩
def spCellAt (K : PySem.W.Frag) : Sp := fun vs H Q _ => ∃ (a : Addr) (k : Nat), vs = [.ref a, .int k] ∧ IntsAt K H a ∧ ∀ H' r, Same H H' → 0 ≤ r → Q (.int r) H'
theorem cl_cellAt (T : Txt w K mg) (C__law_draw : Cl P w K mg base CX0 1 "_law_draw" spDraw) : Cl P w K mg base CX0 2 "_law_cell_at" (spCellAt K) := by
  refine cl_def T (i := 40) (j := 25) rfl (by decide +kernel) scCellAt (fun _ _ _ _ _ _ us hl => match us, hl with | [_, _], _ => rfl) (fun vs H Q E h => ?_) (fun cdv A outer s H vs Q E hr h => ?_)
  · obtain ⟨a, k, rfl, _⟩ := h
    rfl
  · obtain ⟨a, k, rfl, ⟨ns, ha⟩, kk⟩ := h
    refine ⟨_, (pss_cons (ps_if (pt_cmpR op_lt (pv 1) (pe_callB call_len_seq (by rfl) (fr T "len") boot_len (pa_cons (pv 0) pa_nil)) (nomark _)) (pss_one (ps_ret (pe_callB call_abs (by rfl) (fr T "abs") PyProof.Rows.boot_abs (pa_cons (pe_ix ix_list (pv 0) (pv 1) (fun _ _ => rfl)) pa_nil)))) pss_nil)
      (pss_one (ps_ret (pe_cl C__law_draw hr (by decide) pass0 rfl (pa_cons (pe_op op_add (pe_callB call_abs (by rfl) (fr T "abs") PyProof.Rows.boot_abs (pa_cons (pe_callB (cr_sum rfl) (by rfl) (fr T "sum") PyProof.Rows.boot_sum (pa_cons (pv 0) pa_nil)) pa_nil)) (pe_op op_mul pe_int (pv 1))) (pa_cons (pv 1) (pa_cons pe_int pa_nil))))))), ?_⟩
    refine ⟨_, rfl, _, rfl, _, _, rfl, .inl ha, _, _, rfl, rfl, _, rfl, ?_⟩
    rw [List.length_map]
    by_cases h : k < ns.length
    · refine iteT' (decide_eq_true (by omega)) ?_
      have hx : atI (ns.map V.int) (k : Int) = some (.int ns[k]) := atI_nat (by rw [List.getElem?_map, List.getElem?_eq_getElem h] <;> rfl)
      refine ⟨_, rfl, _, rfl, _, _, _, _, rfl, rfl, ha, hx, _, rfl, ?_⟩
      refine kk _ _ (Same.refl _) ?_
      split <;> omega
    · refine iteF' (decide_eq_false (by omega)) ?_
      refine ⟨_, rfl, _, _, rfl, ha, _, rfl, _, rfl, _, _, rfl, rfl, .inl (by decide), _, _, rfl, rfl, _, rfl, _, _, _, rfl, by decide, fun H' r s r0 r1 => ?_⟩
      exact kk _ _ s r0
theorem pow_big {b i : Nat} (hb : b < 1048576) (hi : i ≤ 150) : b ^ i ≤ 2 ^ 3000 := by
  have h1 : b ^ i ≤ (2 ^ 20) ^ i := Nat.pow_le_pow_left (by omega) i
  have h2 : (2 ^ 20) ^ i ≤ (2 ^ 20) ^ 150 := Nat.pow_le_pow_right (by decide) hi
  have h3 : ((2 : Nat) ^ 20) ^ 150 = 2 ^ 3000 := by rw [← Nat.pow_mul]
  rw [h3] at h2
  exact Nat.le_trans h1 h2
theorem cell_step {c r : Int} {b i : Nat} (hb : 1 ≤ b) (hr : 0 < r) (h : c < (max r 0 + 1) * ((b ^ i : Nat) : Int)) : c < (max (r / b) 0 + 1) * ((b ^ (i + 1) : Nat) : Int) := by
  have hbi : (0 : Int) < (b : Int) := by omega
  have h1 : r < (r / b + 1) * b := Int.lt_ediv_add_one_mul_self r hbi
  have h0 : 0 ≤ r / (b : Int) := Int.ediv_nonneg (by omega) (by omega)
  rw [Int.max_eq_left (by omega)] at h
  rw [Int.max_eq_left h0, Nat.pow_succ, Int.natCast_mul, Int.mul_comm ((b ^ i : Nat) : Int), ← Int.mul_assoc]
  have h2 : (r + 1) * ((b ^ i : Nat) : Int) ≤ ((r / b + 1) * b) * ((b ^ i : Nat) : Int) := Int.mul_le_mul_of_nonneg_right (by omega) (by omega)
  omega
theorem cell_stay {c r : Int} {b i : Nat} (hb : 1 ≤ b) (hr : r ≤ 0) (h : c < (max r 0 + 1) * ((b ^ i : Nat) : Int)) : c < (max r 0 + 1) * ((b ^ (i + 1) : Nat) : Int) := by
  rw [Int.max_eq_right hr, Int.zero_add, Int.one_mul] at h ⊢
  have : b ^ i ≤ b ^ (i + 1) := Nat.pow_le_pow_right hb (Nat.le_succ i)
  omega
theorem cell_small {c r : Int} {b i : Nat} (hb : b < 1048576) (hi : i ≤ 150) (hr : r ≤ 0) (h : c - 1000000000000000000 < (max r 0 + 1) * ((b ^ i : Nat) : Int)) (c0 : 0 ≤ c) : ∀ d : Nat, d ≤ 1000000 → (c + (d : Int)).natAbs < 2 ^ 3002 := by
  intro d hd
  rw [Int.max_eq_right hr, Int.zero_add, Int.one_mul] at h
  have := pow_big (b := b) hb hi
  have h3 : (2 : Nat) ^ 3002 = 2 ^ 3000 * 4 := by rw [show 3002 = 3000 + 2 from rfl, Nat.pow_add]
  have h4 : (2 : Nat) ^ 60 ≤ 2 ^ 3000 := Nat.pow_le_pow_right (by decide) (by decide)
  rw [h3]
  generalize (2 : Nat) ^ 3000 = B at *
  generalize b ^ i = z at *
  have h5 : (2 : Nat) ^ 60 = 1152921504606846976 := by decide
  rw [h5] at h4
  omega
theorem scDigits : FnScope ["_law_script", "_law_at_here", "_law_many", "_law_base", "_law_cell", "_law_found", "_law_remaining", "_law_turn", "_law_blend", "_law_more"] ["_law_script", "_law_at_here", "_law_many", "_law_base"] (defScope sDigits) := ⟨rfl, rfl, rfl, by decide +kernel, rfl, by decide +kernel, by decide +kernel⟩
def spDigits (K : PySem.W.Frag) : Sp := fun vs H Q _ => ∃ (a : Addr) (k n b : Nat), vs = [.ref a, .int k, .int n, .int b] ∧ IntsAt K H a ∧ n ≤ 150 ∧ 1 ≤ b ∧ b < 1048576 ∧ ∀ H' p (ds : List Int), Same H H' → H' p = some (.lst (ds.map V.int)) → ds.length = n → Q (.ref p) H'
theorem cl_digits (T : Txt w K mg) (C__law_draw : Cl P w K mg base CX0 1 "_law_draw" spDraw) (C__law_cell_at : Cl P w K mg base CX0 2 "_law_cell_at" (spCellAt K)) : Cl P w K mg base CX0 3 "_law_digits" (spDigits K) := by
  refine cl_def T (i := 41) (j := 26) rfl (by decide +kernel) scDigits (fun _ _ _ _ _ _ us hl => match us, hl with | [_, _, _, _], _ => rfl) (fun vs H Q E h => ?_) (fun cdv A outer s H vs Q E hr h => ?_)
  · obtain ⟨a, k, n, b, rfl, _⟩ := h
    rfl
  · obtain ⟨a, k, n, b, rfl, ha, hn, hb, hb2, kk⟩ := h
    refine ⟨_, (pss_cons (ps_par (i := 4) (j := 5) rfl scDigits.nd rfl rfl (by decide) rfl rfl (pa_cons (pe_cl C__law_cell_at hr (by decide) pass0 rfl (pa_cons (pv 0) (pa_cons (pv 1) pa_nil))) (pa_cons (pe_lst pa_nil) pa_nil)) (by rfl))
      (pss_cons (ps_set (i := 6) scDigits.nd rfl (by first | exact Or.inl rfl | exact Or.inr rfl) (pe_op op_sub (pv 4) (pe_op op_pow pe_int pe_int)))
      (pss_cons (ps_for PassesOwn.never rfl (pi_range1 rfl (fr T "range") (pa_cons (pv 2) pa_nil)) (pg_name (i := 7) scDigits.nd rfl (by first | exact Or.inl rfl | exact Or.inr rfl)) (pss_one (ps_if (pt_cmpR op_gt (pv 6) pe_int (nomark _)) (pss_cons (ps_expr (pe_bm PySem.F.plainAttrs_list PySem.F.slot_list_append PySem.F.type_list_append mt_append (pv 5) (pa_cons (pe_op op_mod (pe_callTy call_int1 (by rfl) (fr T "int") PyProof.Rows.boot_int (pa_cons (pv 6) pa_nil)) (pv 3)) pa_nil)))
      (pss_one (ps_set (i := 6) scDigits.nd rfl (by first | exact Or.inl rfl | exact Or.inr rfl) (pe_op op_fdiv (pv 6) (pv 3))))) (pss_cons (ps_set (i := 8) scDigits.nd rfl (by first | exact Or.inl rfl | exact Or.inr rfl) (pe_cl C__law_draw hr (by decide) pass0 rfl (pa_cons (pe_op op_mulW (pe_op op_add (pv 4) (pe_op op_mul pe_int (pv 7))) (pe_op op_add (pe_op op_add (pv 4) (pe_op op_mul pe_int (pv 7))) pe_int)) (pa_cons (pe_op op_add (pe_op op_mod (pv 7) pe_int) pe_int) (pa_cons pe_int pa_nil)))))
      (pss_cons (ps_set (i := 9) scDigits.nd rfl (by first | exact Or.inl rfl | exact Or.inr rfl) (pe_cl C__law_draw hr (by decide) pass0 rfl (pa_cons (pe_op op_add (pe_op op_mulW (pe_op op_add (pv 4) (pe_op op_mul pe_int (pv 7))) (pe_op op_add (pv 4) pe_int)) (pe_op op_mul pe_int (pv 7))) (pa_cons (pe_op op_add (pe_op op_mod (pv 7) pe_int) pe_int) (pa_cons pe_int pa_nil)))))
      (pss_one (ps_expr (pe_bm PySem.F.plainAttrs_list PySem.F.slot_list_append PySem.F.type_list_append mt_append (pv 5) (pa_cons (pe_op op_mod (pe_callTy call_int1 (by rfl) (fr T "int") PyProof.Rows.boot_int (pa_cons (pe_op op_add (pe_op op_mul (pv 8) pe_int) (pv 9)) pa_nil)) (pv 3)) pa_nil)))))))))
      (pss_one (ps_ret (pv 5)))))), ?_⟩
    refine ⟨_, rfl, _, rfl, a, k, rfl, ha, fun H1 c s1 c0 => ?_⟩
    refine ⟨Nat.zero_le _, fun F hF => ?_⟩
    refine ⟨_, _, rfl, ?_⟩
    refine ⟨_, rfl, _, _, rfl, rfl, ⟨by decide, by decide, by decide⟩, _, _, rfl, rfl, ?_⟩
    have e18 : (10 : Int) ^ ((18 : Int).toNat) = 1000000000000000000 := by decide
    rw [e18]
    have hFH : H F = none := Same.none s1 hF
    refine ⟨_, rfl, (n : Int), rfl, by omega, by omega, ?_⟩
    refine for_range (n := n) (fun i σ H' => ∃ (r : Int) (ds : List Int) (o7 o8 o9 : Option V), σ = [some (.ref a), some (.int k), some (.int n), some (.int b), some (.int c), some (.ref F), some (.int r), o7, o8, o9] ∧ Same H H' ∧ H' F = some (.lst (ds.map V.int)) ∧ ds.length = i ∧ c - 1000000000000000000 < (max r 0 + 1) * ((b ^ i : Nat) : Int))
      ⟨_, [], none, none, none, rfl, Same.new' s1 hF, upd_same, rfl, by
        rw [Nat.pow_zero]
        omega⟩ (fun i σ H3 hi q => ?_) (fun σ H3 q => ?_)
    · obtain ⟨r, ds, o7, o8, o9, rfl, s3, hF3, hl, hc⟩ := q
      have hbi : (0 : Int) < (b : Int) := by omega
      have hsz : (ds.map V.int).length < sizeLine := by
        rw [List.length_map, hl]
        exact Nat.lt_of_lt_of_le hi (Nat.le_trans hn (by decide +kernel))
      have app : ∀ (v : Int) (H4 : Hp), Same H H4 → H4 F = some (.lst (ds.map V.int)) → Same H (upd H4 F (.lst (ds.map V.int ++ [.int v]))) ∧ (upd H4 F (.lst (ds.map V.int ++ [.int v]))) F = some (.lst ((ds ++ [v]).map V.int)) ∧ (ds ++ [v]).length = i + 1 := by
        intro v H4 s4 h4
        refine ⟨fun z o hz => ?_, ?_, by simp [hl]⟩
        · rw [upd_ne (ne_of_none hz hFH)]
          exact s4 _ _ hz
        · rw [upd_same, List.map_append]
          rfl
      refine ⟨_, rfl, _, _, rfl, rfl, _, rfl, ?_⟩
      by_cases hr : 0 < r
      · refine iteT' (decide_eq_true hr) ?_
        refine ⟨_, rfl, .inl ⟨rfl, _, SqL.of hF3⟩, _, rfl, .inl ⟨_, rfl, _, rfl, _, _, rfl, rfl, hbi, _, _, _, rfl, rfl, hF3, hsz, ?_⟩⟩
        refine ⟨_, rfl, _, rfl, _, _, rfl, rfl, ⟨hbi, by omega⟩, ?_⟩
        obtain ⟨a1, a2, a3⟩ := app (r % b) H3 s3 hF3
        exact ⟨_, _, _, _, _, rfl, a1, a2, a3, cell_step hb hr hc⟩
      · refine iteF' (decide_eq_false hr) ?_
        have hs := cell_small hb2 (show i ≤ 150 by omega) (show r ≤ 0 by omega) hc c0
        have big : ∀ (x : Int) (d : Nat), x = c + (d : Int) → d ≤ 1000000 → x.natAbs < 2 ^ 3002 := fun x d e hd => by rw [e]; exact hs d hd
        refine ⟨_, rfl, _, rfl, _, _, rfl, rfl, .inl (by decide), _, _, rfl, rfl, _, rfl, _, rfl, _, _, rfl, rfl, .inl (by decide), _, _, rfl, rfl, _, _, rfl, rfl, _, _, rfl, rfl, ?_, ?_⟩
        · exact wide_mul (a := 3002) (b := 3002) (big _ (977 * i) (by omega) (by omega)) (big _ (31 * i + 5) (by omega) (by omega)) (by decide) (by decide) (by decide)
        refine ⟨_, rfl, _, _, rfl, rfl, (show (0 : Int) < 9 by decide), _, _, rfl, rfl, _, _, _, rfl, by decide, fun H4 v4 s4 r40 r41 => ?_⟩
        refine ⟨_, rfl, _, rfl, _, _, rfl, rfl, .inl (by decide), _, _, rfl, rfl, _, rfl, _, _, rfl, rfl, _, _, rfl, rfl, ?_, ?_⟩
        · exact wide_mul (a := 3002) (b := 3002) (big _ (31 * i) (by omega) (by omega)) (big _ 7 (by omega) (by omega)) (by decide) (by decide) (by decide)
        refine ⟨_, rfl, _, _, rfl, rfl, .inl (by decide), _, _, rfl, rfl, _, rfl, _, _, rfl, rfl, (show (0 : Int) < 7 by decide), _, _, rfl, rfl, _, _, _, rfl, by decide, fun H5 v5 s5 r50 r51 => ?_⟩
        have s45 := s4.trans s5
        have hF5 := s45 _ _ hF3
        refine ⟨_, rfl, .inl ⟨rfl, _, SqL.of hF5⟩, _, rfl, _, _, rfl, rfl, .inr (by decide), _, rfl, _, _, rfl, rfl, .inl ⟨_, rfl, _, rfl, _, _, rfl, rfl, hbi, _, _, _, rfl, rfl, hF5, hsz, ?_⟩⟩
        obtain ⟨a1, a2, a3⟩ := app ((v4 * 1000003 + v5) % b) H5 (s3.trans s45) hF5
        exact ⟨_, _, _, _, _, rfl, a1, a2, a3, cell_stay hb (by omega) hc⟩
    · obtain ⟨r, ds, o7, o8, o9, rfl, s3, hF3, hl, hc⟩ := q
      exact ⟨_, rfl, kk _ _ _ s3 hF3 hl⟩
end K5
set_option Elab.async false
set_option linter.all false
set_option maxRecDepth 100000
set_option maxHeartbeats 4000000
namespace K5
open PySem PySem.Spec PyProof.Rows L2
variable {P : Program} {w : World} {K : PySem.W.Frag} {mg : Str → Option Value} {base : Heap}
/-! ### the pool, picks, acts -/
def basesL : List Int := [1009, 1013, 1000033, 1000037]
theorem scPool : FnScope ["_law_script", "_law_bases", "_law_found", "_law_at_here", "_law_base"] ["_law_script", "_law_bases"] (defScope sPool) := ⟨rfl, rfl, rfl, by decide +kernel, rfl, by decide +kernel, by decide +kernel⟩
def spPool (K : PySem.W.Frag) : Sp := fun vs H Q _ => ∃ (a t : Addr), vs = [.ref a, .ref t] ∧ IntsAt K H a ∧ SqT K H t (basesL.map V.int) ∧ ∀ H' p, Same H H' → H p = none → DrawsAt H' p → Q (.ref p) H'
theorem cl_pool (T : Txt w K mg) (C__law_digits : Cl P w K mg base CX0 3 "_law_digits" (spDigits K)) : Cl P w K mg base CX0 4 "_law_pool" (spPool K) := by
  refine cl_def T (i := 43) (j := 28) rfl (by decide +kernel) scPool (fun _ _ _ _ _ _ us hl => match us, hl with | [_, _], _ => rfl) (fun vs H Q E h => ?_) (fun cdv A outer s H vs Q E hr h => ?_)
  · obtain ⟨a, t, rfl, _⟩ := h
    rfl
  · obtain ⟨a, t, rfl, ha, ht, kk⟩ := h
    refine ⟨_, (pss_cons (ps_set (i := 2) scPool.nd rfl (by first | exact Or.inl rfl | exact Or.inr rfl) (pe_lst pa_nil))
      (pss_cons (ps_for PassesOwn.never rfl (pi_enumT (by rfl) (fr T "enumerate") (pa_cons (pv 1) pa_nil)) (pg_tup (by rfl) (pgs_cons (pg_name (i := 3) scPool.nd rfl (by first | exact Or.inl rfl | exact Or.inr rfl)) (pgs_cons (pg_name (i := 4) scPool.nd rfl (by first | exact Or.inl rfl | exact Or.inr rfl)) pgs_nil))) (pss_one (ps_set (i := 2) scPool.nd rfl (by first | exact Or.inl rfl | exact Or.inr rfl) (pe_op op_cat (pv 2) (pe_cl C__law_digits hr (by decide) pass0 rfl (pa_cons (pv 0) (pa_cons (pv 3) (pa_cons pe_int (pa_cons (pv 4) pa_nil)))))))))
      (pss_one (ps_ret (pv 2))))), ?_⟩
    refine ⟨Nat.zero_le _, fun F hF => ?_⟩
    refine ⟨_, rfl, t, _, rfl, Same.tup (Same.new hF) ht, ?_⟩
    refine for_it (walk_enumT (xs := basesL.map V.int)) (fun i σ H' => ∃ (p : Addr) (ds : List Int) (o3 o4 : Option V), σ = [some (.ref a), some (.ref t), some (.ref p), o3, o4] ∧ Same H H' ∧ H p = none ∧ H' p = some (.lst (ds.map V.int)) ∧ ds.length = 150 * i)
      ⟨F, [], none, none, rfl, Same.new hF, hF, upd_same, rfl⟩ (fun i σ H' _ q => ?_) (fun i x σ H3 H4 hi q y => ?_) (fun σ H3 q => ?_)
    · obtain ⟨_, _, _, _, _, s, _⟩ := q
      exact Same.tup s ht
    · obtain ⟨p, ds, o3, o4, rfl, s3, hp, hp3, hl⟩ := q
      obtain ⟨T1, x1, x2, rfl, hT1, rfl, e1, e2⟩ := y
      have z1 : x1 = .int (i : Nat) := (Option.some.inj e1).symm
      subst z1
      have hb : ∃ b : Nat, x2 = .int (b : Int) ∧ 1 ≤ b ∧ b < 1048576 := by
        have e2 : (basesL.map V.int)[i]? = some x2 := e2
        match i, e2 with
        | 0, e2 => exact ⟨1009, (Option.some.inj e2).symm, by decide, by decide⟩
        | 1, e2 => exact ⟨1013, (Option.some.inj e2).symm, by decide, by decide⟩
        | 2, e2 => exact ⟨1000033, (Option.some.inj e2).symm, by decide, by decide⟩
        | 3, e2 => exact ⟨1000037, (Option.some.inj e2).symm, by decide, by decide⟩
        | n + 4, e2 => cases e2
      obtain ⟨b, rfl, hb1, hb2⟩ := hb
      have s4 : Same H3 (upd H3 T1 (.tup [.int (i : Nat), .int (b : Int)])) := Same.new hT1
      refine ⟨T1, _, rfl, SqT.of upd_same, rfl, _, _, rfl, _, _, rfl, rfl, ?_⟩
      refine ⟨_, rfl, _, rfl, _, rfl, _, rfl, a, i, 150, b, rfl, ha.same (s3.trans s4), Nat.le_refl _, hb1, hb2, fun H5 d ds2 s5 hd hl2 => ?_⟩
      have s45 := s4.trans s5
      have hp5 := s45 _ _ hp3
      have hi4 : i < 4 := hi
      refine ⟨_, _, _, _, rfl, rfl, hp5, hd, ?_, fun n hn => ?_⟩
      · rw [List.length_map, List.length_map, hl, hl2]
        exact Nat.le_trans (show 150 * i + 150 ≤ 600 by omega) (by decide +kernel)
      · refine ⟨n, ds ++ ds2, _, _, rfl, Same.new' (s3.trans s45) hn, Same.none (s3.trans s45) hn, ?_, ?_⟩
        · rw [upd_same, List.map_append]
        · rw [List.length_append, hl, hl2]
          omega
    · obtain ⟨p, ds, o3, o4, rfl, s3, hp, hp3, hl⟩ := q
      exact ⟨_, rfl, kk _ _ s3 hp ⟨ds, hp3⟩⟩
theorem DrawsAt.new {H : Hp} {D p : Addr} {o : HO} (h : DrawsAt H D) (hp : H p = none) : DrawsAt (upd H p o) D := by
  obtain ⟨ds, h⟩ := h
  exact ⟨ds, by rw [upd_ne (ne_of_none h hp), h]⟩
theorem scPick : FnScope ["_law_draws", "_law_things"] ["_law_draws", "_law_things"] (defScope sPick) := ⟨rfl, rfl, rfl, by decide +kernel, rfl, by decide +kernel, by decide +kernel⟩
def spPick : Sp := fun vs H Q _ => ∃ (D l : Addr) (xs : List V), vs = [.ref D, .ref l] ∧ DrawsAt H D ∧ H l = some (.lst xs) ∧ l ≠ D ∧ xs ≠ [] ∧ ∀ H' x, But D H H' → DrawsAt H' D → x ∈ xs → Q x H'
theorem cl_pick (T : Txt w K mg) (C__law_take : Cl P w K mg base CX0 1 "_law_take" spTake) : Cl P w K mg base CX0 2 "_law_pick" spPick := by
  refine cl_def T (i := 44) (j := 29) rfl (by decide +kernel) scPick (fun _ _ _ _ _ _ us hl => match us, hl with | [_, _], _ => rfl) (fun vs H Q E h => ?_) (fun cdv A outer s H vs Q E hr h => ?_)
  · obtain ⟨D, l, xs, rfl, _⟩ := h
    rfl
  · obtain ⟨D, l, xs, rfl, hD, hl, hne, hx, kk⟩ := h
    have hlen : 0 < xs.length := List.length_pos_iff.mpr hx
    refine ⟨_, (pss_one (ps_ret (pe_ix ix_list (pv 1) (pe_cl C__law_take hr (by decide) pass0 rfl (pa_cons (pv 0) (pa_cons (pe_callB call_len_seq (by rfl) (fr T "len") boot_len (pa_cons (pv 1) pa_nil)) pa_nil))) (fun _ _ => rfl)))), ?_⟩
    refine ⟨_, rfl, _, rfl, _, rfl, _, _, rfl, .inl (SqL.of hl), D, _, rfl, hD, by omega, fun H1 r b1 d1 r0 r1 => ?_⟩
    obtain ⟨j, rfl⟩ := Int.eq_ofNat_of_zero_le r0
    have hj : j < xs.length := by omega
    have hl1 := b1 _ _ hne hl
    exact ⟨_, _, _, _, rfl, rfl, SqL.of hl1, atI_nat (List.getElem?_eq_getElem hj), kk _ _ b1 d1 (List.getElem_mem hj)⟩
theorem scAct : FnScope ["_law_draws", "_law_events", "_law_many", "_law_word"] ["_law_draws", "_law_events", "_law_many"] (defScope sAct) := ⟨rfl, rfl, rfl, by decide +kernel, rfl, by decide +kernel, by decide +kernel⟩
def spAct : Sp := fun vs H Q _ => ∃ (D : Addr) (ev many : Nat), vs = [.ref D, .int ev, .int many] ∧ DrawsAt H D ∧ 0 < ev ∧ 0 < many ∧ ∀ H' v a, But D H H' → DrawsAt H' D → ActAt H' v a → actOk ev many a = true → Q v H'
theorem cl_act (T : Txt w K mg) (C__law_take : Cl P w K mg base CX0 1 "_law_take" spTake) : Cl P w K mg base CX0 2 "_law_act" spAct := by
  refine cl_def T (i := 45) (j := 30) rfl (by decide +kernel) scAct (fun _ _ _ _ _ _ us hl => match us, hl with | [_, _, _], _ => rfl) (fun vs H Q E h => ?_) (fun cdv A outer s H vs Q E hr h => ?_)
  · obtain ⟨D, ev, many, rfl, _⟩ := h
    rfl
  · obtain ⟨D, ev, many, rfl, hD, he, hm, kk⟩ := h
    refine ⟨_, (pss_cons (ps_set (i := 3) scAct.nd rfl (by first | exact Or.inl rfl | exact Or.inr rfl) (pe_ix ix_tup (pe_tup (pa_cons pe_str (pa_cons pe_str (pa_cons pe_str (pa_cons pe_str (pa_cons pe_str (pa_cons pe_str pa_nil))))))) (pe_cl C__law_take hr (by decide) pass0 rfl (pa_cons (pv 0) (pa_cons pe_int pa_nil))) (fun _ _ => rfl)))
      (pss_cons (ps_if (pt_cmpR op_eq (pv 3) pe_str (nomark _)) (pss_one (ps_ret (pe_tup (pa_cons (pv 3) pa_nil)))) pss_nil)
      (pss_one (ps_ret (pe_tup (pa_cons (pv 3) (pa_cons (pe_cl C__law_take hr (by decide) pass0 rfl (pa_cons (pv 0) (pa_cons (pe_ifExp (pt_cmpR op_eq (pv 3) pe_str (nomark _)) (pv 1) (pv 2)) pa_nil))) pa_nil))))))), ?_⟩
    refine ⟨(by show 6 ≤ sizeLine; decide +kernel), fun q hq => ?_⟩
    have b1 : But D H (upd H q (.tup [.str "add", .str "cut", .str "emit", .str "raise", .str "cut", .str "add"])) := But.of (Same.new hq)
    have hqD : q ≠ D := by
      obtain ⟨ds, hD⟩ := hD
      exact fun z => by rw [z, hD] at hq; cases hq
    have d1 : DrawsAt (upd H q (.tup [.str "add", .str "cut", .str "emit", .str "raise", .str "cut", .str "add"])) D := by
      obtain ⟨ds, hD⟩ := hD
      exact ⟨ds, by rw [upd_ne (Ne.symm hqD), hD]⟩
    have t1 : (upd H q (.tup [.str "add", .str "cut", .str "emit", .str "raise", .str "cut", .str "add"])) q = some (.tup [.str "add", .str "cut", .str "emit", .str "raise", .str "cut", .str "add"]) := upd_same
    generalize upd H q (.tup [.str "add", .str "cut", .str "emit", .str "raise", .str "cut", .str "add"]) = H1 at b1 d1 t1 ⊢
    refine ⟨_, rfl, D, _, rfl, d1, by decide, fun H2 r b2 d2 r0 r1 => ?_⟩
    obtain ⟨j, rfl⟩ := Int.eq_ofNat_of_zero_le r0
    have t2 := b2 _ _ hqD t1
    have b12 := b1.trans b2
    have hx : ∃ x : Str, ([V.str "add", .str "cut", .str "emit", .str "raise", .str "cut", .str "add"])[j]? = some (.str x) ∧ (x = sRaise ∨ ∃ w : W3, x = w.s) := by
      have hj : j < 6 := by omega
      match j, hj with
      | 0, _ => exact ⟨_, rfl, .inr ⟨.add, rfl⟩⟩
      | 1, _ => exact ⟨_, rfl, .inr ⟨.cut, rfl⟩⟩
      | 2, _ => exact ⟨_, rfl, .inr ⟨.emit, rfl⟩⟩
      | 3, _ => exact ⟨_, rfl, .inl rfl⟩
      | 4, _ => exact ⟨_, rfl, .inr ⟨.cut, rfl⟩⟩
      | 5, _ => exact ⟨_, rfl, .inr ⟨.add, rfl⟩⟩
    obtain ⟨x, hxj, hxc⟩ := hx
    refine ⟨_, _, _, _, rfl, rfl, SqT.of t2, atI_nat hxj, ?_⟩
    refine ⟨_, rfl, rfl, _, rfl, ?_⟩
    rcases hxc with rfl | ⟨w3', rfl⟩
    · refine iteT ?_
      refine ⟨_, rfl, (by show 1 ≤ sizeLine; decide +kernel), fun p hp => ?_⟩
      exact kk _ _ .raise (b12.new hp) (d2.new hp) ⟨p, rfl, upd_same⟩ rfl
    · have e : decide (V.str w3'.s = V.str "raise") = false := by cases w3' <;> decide +kernel
      refine iteF' e ?_
      refine ⟨_, rfl, _, rfl, _, rfl, rfl, _, rfl, ?_⟩
      by_cases hw : w3' = .emit
      · subst hw
        refine iteT ?_
        refine ⟨_, rfl, D, _, rfl, d2, by omega, fun H3 r3 b3 d3 r30 r31 => ?_⟩
        obtain ⟨n, rfl⟩ := Int.eq_ofNat_of_zero_le r30
        refine ⟨(by show 2 ≤ sizeLine; decide +kernel), fun p hp => ?_⟩
        exact kk _ _ (.num .emit n) ((b12.trans b3).new hp) (d3.new hp) ⟨p, rfl, upd_same⟩ (decide_eq_true (by omega))
      · have e2 : decide (V.str w3'.s = V.str "emit") = false := by cases w3' <;> first | decide +kernel | exact absurd rfl hw
        refine iteF' e2 ?_
        refine ⟨_, rfl, D, _, rfl, d2, by omega, fun H3 r3 b3 d3 r30 r31 => ?_⟩
        obtain ⟨n, rfl⟩ := Int.eq_ofNat_of_zero_le r30
        refine ⟨(by show 2 ≤ sizeLine; decide +kernel), fun p hp => ?_⟩
        refine kk _ _ (.num w3' n) ((b12.trans b3).new hp) (d3.new hp) ⟨p, rfl, upd_same⟩ ?_
        cases w3' <;> first | exact absurd rfl hw | exact decide_eq_true (by omega)
end K5
set_option Elab.async false
set_option linter.all false
set_option maxRecDepth 100000
set_option maxHeartbeats 4000000
namespace K5
open PySem PySem.Spec PyProof.Rows L2
variable {P : Program} {w : World} {K : PySem.W.Frag} {mg : Str → Option Value} {base : Heap}
/-! ### plans -/
def PlanAt (H : Hp) (v : V) (h : HallD) : Prop := ∃ (p d : Addr) (t : V), v = .ref p ∧ H p = some (.tup [.int h.events, t, .ref d]) ∧ KindsAt H t h.kinds ∧ H d = some (.dK (kvsOf h.heads)) ∧ HallOk h
theorem PlanAt.but {D : Addr} {H H' : Hp} {v : V} {h : HallD} (b : But D H H') (hD : DrawsAt H D) (x : PlanAt H v h) : PlanAt H' v h := by
  obtain ⟨p, d, t, e, h1, h2, h3, h4⟩ := x
  obtain ⟨ds, hD⟩ := hD
  exact ⟨p, d, t, e, b _ _ (ne_of h1 hD (by intro z; cases z)) h1, h2.mono (b.kt hD), b _ _ (ne_of h3 hD (by intro z; cases z)) h3, h4⟩
theorem PlanAt.mono {H H' : Hp} {v : V} {h : HallD} (s : Same H H') (x : PlanAt H v h) : PlanAt H' v h := by
  obtain ⟨p, d, t, e, h1, h2, h3, h4⟩ := x
  exact ⟨p, d, t, e, s _ _ h1, h2.mono (Kt.of s), s _ _ h3, h4⟩
/-- ('..', ..)[_law_take(draws, n)] -/
theorem pick_tup {K : PySem.W.Frag} {σ : L2.St} {H : Hp} {Q : VK} {D : Addr} (zs : List Str) {n : Int} (hz : zs.length ≤ sizeLine) (hn : n = (zs.length : Nat)) (h0 : 0 < zs.length)
    (hd : σ[0]? = some (some (.ref D))) (hD : DrawsAt H D) (h : ∀ H' z, But D H H' → DrawsAt H' D → z ∈ zs → Q (.str z) H') :
    (zs.map V.str).length ≤ sizeLine ∧ ∀ q, H q = none → ∃ v, σ[0]? = some (some v) ∧ spTake [v, .int n] (upd H q (.tup (zs.map V.str))) (fun y H2 => rIxT K (.ref q) y H2 Q) E0 := by
  refine ⟨by rw [List.length_map]; exact hz, fun q hq => ?_⟩
  have b1 : But D H (upd H q (.tup (zs.map V.str))) := But.of (Same.new hq)
  have hqD : q ≠ D := by
    obtain ⟨ds, hD⟩ := hD
    exact fun z => by rw [z, hD] at hq; cases hq
  refine ⟨_, hd, D, n, rfl, hD.new hq, by omega, fun H2 r b2 d2 r0 r1 => ?_⟩
  obtain ⟨j, rfl⟩ := Int.eq_ofNat_of_zero_le r0
  have hj : j < zs.length := by omega
  refine ⟨_, _, _, _, rfl, rfl, SqT.of (b2 _ _ hqD upd_same), atI_nat (by rw [List.getElem?_map, List.getElem?_eq_getElem hj] <;> rfl), ?_⟩
  exact h _ _ (b1.trans b2) d2 (List.getElem_mem hj)
theorem But.updN {D d : Addr} {H H' : Hp} {o : HO} (b : But D H H') (hd : H d = none) : But D H (upd H' d o) := fun c u n h => by
  rw [upd_ne (ne_of_none h hd)]
  exact b c u n h
theorem DrawsAt.upd {H : Hp} {D d : Addr} {o : HO} (h : DrawsAt H D) (hd : d ≠ D) : DrawsAt (upd H d o) D := by
  obtain ⟨ds, h⟩ := h
  exact ⟨ds, by rw [upd_ne (Ne.symm hd), h]⟩
theorem DrawsAt.ne {H : Hp} {D d : Addr} (h : DrawsAt H D) (hd : H d = none) : d ≠ D := by
  obtain ⟨ds, h⟩ := h
  exact fun z => by rw [z, h] at hd; cases hd
theorem mem_of {z : Str} {l m : List Str} (h : z ∈ l) (e : (l.all fun x => decide (x ∈ m)) = true) : z ∈ m := of_decide_eq_true (List.all_eq_true.mp e z h)
theorem scPlan : FnScope ["_law_draws", "_law_most", "_law_events", "_law_many", "_law_kinds", "_law_kind", "_law_acts_here", "_law_rules", "_law_turn"] ["_law_draws", "_law_most"] (defScope sPlan) := ⟨rfl, rfl, rfl, by decide +kernel, rfl, by decide +kernel, by decide +kernel⟩
def spPlan : Sp := fun vs H Q _ => ∃ (D : Addr), vs = [.ref D, .int 3] ∧ DrawsAt H D ∧ ∀ H' v h, But D H H' → DrawsAt H' D → PlanAt H' v h → Q v H'
theorem cl_plan (T : Txt w K mg) (C__law_take : Cl P w K mg base CX0 1 "_law_take" spTake) (C__law_act : Cl P w K mg base CX0 2 "_law_act" spAct) : Cl P w K mg base CX0 3 "_law_plan" spPlan := by
  refine cl_def T (i := 46) (j := 31) rfl (by decide +kernel) scPlan (fun _ _ _ _ _ _ us hl => match us, hl with | [_, _], _ => rfl) (fun vs H Q E h => ?_) (fun cdv A outer s H vs Q E hr h => ?_)
  · obtain ⟨D, rfl, _⟩ := h
    rfl
  · obtain ⟨D, rfl, hD, kk⟩ := h
    have hu := hu_of hr
    refine ⟨_, (pss_cons (ps_asg (pe_tup (pa_cons (pe_op op_add pe_int (pe_cl C__law_take hr (by decide) pass0 rfl (pa_cons (pv 0) (pa_cons pe_int pa_nil)))) (pa_cons (pe_op op_add pe_int (pe_cl C__law_take hr (by decide) pass0 rfl (pa_cons (pv 0) (pa_cons (pv 1) pa_nil)))) pa_nil))) (pg_tup (by rfl) (pgs_cons (pg_name (i := 2) scPlan.nd rfl (by first | exact Or.inl rfl | exact Or.inr rfl)) (pgs_cons (pg_name (i := 3) scPlan.nd rfl (by first | exact Or.inl rfl | exact Or.inr rfl)) pgs_nil))))
      (pss_cons (ps_set (i := 4) scPlan.nd rfl (by first | exact Or.inl rfl | exact Or.inr rfl) (pe_lst pa_nil))
      (pss_cons (ps_for PassesOwn.never rfl (pi_range1 rfl (fr T "range") (pa_cons (pv 3) pa_nil)) (pg_name (i := 5) scPlan.nd rfl (by first | exact Or.inl rfl | exact Or.inr rfl)) (pss_cons (ps_set (i := 6) scPlan.nd rfl (by first | exact Or.inl rfl | exact Or.inr rfl) (pe_callTy call_tuple_of (by rfl) (fr T "tuple") PyProof.Rows.boot_tuple (pa_cons (pe_lc (own := [("_law_turn", 8)]) rfl scPlan.nd (pi_range1 rfl (fr T "range") (pa_cons (pe_cl C__law_take hr (by decide) pass0 rfl (pa_cons (pv 0) (pa_cons pe_int pa_nil))) pa_nil)) (blkOk_by (own := [("_law_turn", 8)]) (N := ["_law_draws", "_law_most", "_law_events", "_law_many", "_law_kinds", "_law_kind", "_law_acts_here", "_law_rules", "_law_turn"]) (sc := defScope sPlan) (by decide +kernel)) (fun _ _ _ _ _ => (pg_name (i := 8) scPlan.nd rfl (by first | exact Or.inl rfl | exact Or.inr rfl))) (fun _ _ _ _ _ => pts_nil) (fun _ _ _ _ _ => (pe_cl C__law_act hr (by decide) pass0 rfl (pa_cons (pv 0) (pa_cons (pv 2) (pa_cons (pv 3) pa_nil)))))) pa_nil)))
      (pss_one (ps_expr (pe_bm PySem.F.plainAttrs_list PySem.F.slot_list_append PySem.F.type_list_append mt_append (pv 4) (pa_cons (pe_tup (pa_cons (pe_cl C__law_take hr (by decide) pass0 rfl (pa_cons (pv 0) (pa_cons (pv 2) pa_nil))) (pa_cons (pe_cmpR op_eq (pe_cl C__law_take hr (by decide) pass0 rfl (pa_cons (pv 0) (pa_cons pe_int pa_nil))) pe_int (nomark _)) (pa_cons (pv 6) pa_nil)))) pa_nil))))))
      (pss_cons (ps_set (i := 7) scPlan.nd rfl (by first | exact Or.inl rfl | exact Or.inr rfl) (pe_callTy (call_dictP rfl) (by rfl) (fr T "dict") PyProof.Rows.boot_dict (pa_cons (pe_lst (pa_cons (pe_tup (pa_cons pe_str (pa_cons (pe_ix ix_tup (pe_tup (pa_cons pe_str (pa_cons pe_str (pa_cons pe_str pa_nil)))) (pe_cl C__law_take hr (by decide) pass0 rfl (pa_cons (pv 0) (pa_cons pe_int pa_nil))) (fun _ _ => rfl)) pa_nil))) (pa_cons (pe_tup (pa_cons pe_str (pa_cons (pe_cmpR op_eq (pe_cl C__law_take hr (by decide) pass0 rfl (pa_cons (pv 0) (pa_cons pe_int pa_nil))) pe_int (nomark _)) pa_nil))) pa_nil))) pa_nil)))
      (pss_cons (ps_dput hu (pv 7) pe_str (pe_ix ix_tup (pe_tup (pa_cons pe_str (pa_cons pe_str (pa_cons pe_str pa_nil)))) (pe_cl C__law_take hr (by decide) pass0 rfl (pa_cons (pv 0) (pa_cons pe_int pa_nil))) (fun _ _ => rfl)) rfl)
      (pss_cons (ps_dput hu (pv 7) pe_str (pe_ix ix_tup (pe_tup (pa_cons pe_str (pa_cons pe_str (pa_cons pe_str pa_nil)))) (pe_cl C__law_take hr (by decide) pass0 rfl (pa_cons (pv 0) (pa_cons pe_int pa_nil))) (fun _ _ => rfl)) rfl)
      (pss_cons (ps_dput hu (pv 7) pe_str (pe_ix ix_tup (pe_tup (pa_cons pe_str (pa_cons pe_str (pa_cons pe_str (pa_cons pe_str pa_nil))))) (pe_cl C__law_take hr (by decide) pass0 rfl (pa_cons (pv 0) (pa_cons pe_int pa_nil))) (fun _ _ => rfl)) rfl)
      (pss_cons (ps_asg (pe_tup (pa_cons (pe_ix ix_tup (pe_tup (pa_cons pe_str (pa_cons pe_str pa_nil))) (pe_cl C__law_take hr (by decide) pass0 rfl (pa_cons (pv 0) (pa_cons pe_int pa_nil))) (fun _ _ => rfl)) (pa_cons (pe_ix ix_tup (pe_tup (pa_cons pe_str (pa_cons pe_str pa_nil))) (pe_cl C__law_take hr (by decide) pass0 rfl (pa_cons (pv 0) (pa_cons pe_int pa_nil))) (fun _ _ => rfl)) pa_nil))) (pg_tup (by rfl) (pgs_cons (pg_sub (pv 7) pe_str (set_dict hu)) (pgs_cons (pg_sub (pv 7) pe_str (set_dict hu)) pgs_nil))))
      (pss_one (ps_ret (pe_tup (pa_cons (pv 2) (pa_cons (pe_callTy call_tuple_of (by rfl) (fr T "tuple") PyProof.Rows.boot_tuple (pa_cons (pv 4) pa_nil)) (pa_cons (pv 7) pa_nil)))))))))))))), ?_⟩
    have hsz : ∀ n, n ≤ 16 → n ≤ sizeLine := fun n h => Nat.le_trans h (by decide +kernel)
    refine ⟨_, rfl, D, _, rfl, hD, by decide, fun H1 e1 b1 d1 e10 e11 => ?_⟩
    obtain ⟨x1, rfl⟩ := Int.eq_ofNat_of_zero_le e10
    refine ⟨_, _, rfl, rfl, _, rfl, _, rfl, D, _, rfl, d1, by decide, fun H2 e2 b2 d2 e20 e21 => ?_⟩
    obtain ⟨x2, rfl⟩ := Int.eq_ofNat_of_zero_le e20
    refine ⟨_, _, rfl, rfl, hsz 2 (by decide), fun q hq => ?_⟩
    simp only [show (1 : Int) + (x1 : Int) = ((1 + x1 : Nat) : Int) by omega, show (1 : Int) + (x2 : Int) = ((1 + x2 : Nat) : Int) by omega]
    have hev0 : 1 ≤ 1 + x1 := by omega
    have hev3 : 1 + x1 ≤ 3 := by omega
    have hmn0 : 1 ≤ 1 + x2 := by omega
    have hmn4 : 1 + x2 ≤ 4 := by omega
    generalize 1 + x1 = ev at *
    generalize 1 + x2 = many at *
    refine ⟨q, _, rfl, SqT.of upd_same, rfl, _, _, rfl, _, _, rfl, rfl, ?_⟩
    have b3 : But D H (upd H2 q (.tup [.int ev, .int many])) := (b1.trans b2).new hq
    have d3 : DrawsAt (upd H2 q (.tup [.int ev, .int many])) D := d2.new hq
    generalize upd H2 q (.tup [.int ev, .int many]) = H3 at b3 d3 ⊢
    refine ⟨Nat.zero_le _, fun F hF => ?_⟩
    have hFD := d3.ne hF
    refine ⟨_, rfl, (many : Int), rfl, by omega, by omega, ?_⟩
    refine for_range (n := many) (fun i σ H' => ∃ (vs : List V) (ks : List Kind) (o5 o6 : Option V), σ = [some (.ref D), some (.int 3), some (.int ev), some (.int many), some (.ref F), o5, o6, none, none] ∧ But D H3 H' ∧ DrawsAt H' D ∧ H' F = some (.lst vs) ∧ Paired (KindAt H') vs ks ∧ ks.all (kindOk ev many) = true ∧ ks.length = i)
      ⟨[], [], none, none, rfl, But.of (Same.new hF), d3.new hF, upd_same, .nil, rfl, rfl⟩ (fun i σ H4 hi q => ?_) (fun σ H4 q => ?_)
    · obtain ⟨vs, ks, o5, o6, rfl, b4, d4, hF4, pr, hok, hlk⟩ := q
      refine ⟨_, rfl, D, _, rfl, d4, by decide, fun H5 r5 b5 d5 r50 r51 => ?_⟩
      obtain ⟨x5, rfl⟩ := Int.eq_ofNat_of_zero_le r50
      refine ⟨_, rfl, by omega, by omega, fun L hL => ?_⟩
      have hLD := d5.ne hL
      refine lc_range (n := x5) (fun j H' => But D H5 H' ∧ DrawsAt H' D ∧ ∃ (acc : List V) (as : List Act), H' L = some (.lst acc) ∧ Paired (ActAt H') acc as ∧ as.all (actOk ev many) = true ∧ as.length = j) ⟨But.of (Same.new hL), d5.new hL, [], [], upd_same, .nil, rfl, rfl⟩ (fun j H6 hj q => ?_) (fun H6 q => ?_)
      · obtain ⟨b6, d6, acc, as, hL6, pa, hoa, hla⟩ := q
        refine ⟨rfl, ?_⟩
        simp only [tYes, if_true]
        refine ⟨_, rfl, _, rfl, _, rfl, D, ev, many, rfl, d6, by omega, by omega, fun H7 v a b7 d7 ha hao => ?_⟩
        have hL7 := b7 _ _ hLD hL6
        have kt : Kt H7 (upd H7 L (.lst (acc ++ [v]))) := fun c xs hc => by
          rw [upd_ne (ne_of hc hL7 (by intro z; cases z))]
          exact hc
        have kt6 : Kt H6 H7 := by
          obtain ⟨ds, d6⟩ := d6
          exact b7.kt d6
        have hlen := Paired.length pa
        refine ⟨acc, hL7, ?_, (b6.trans b7).updN hL, d7.upd hLD, acc ++ [v], as ++ [a], upd_same, Paired.snoc (paired_mono (fun _ _ z => ActAt.mono (kt6.trans kt) z) pa) (ActAt.mono kt ha), ?_, by simp [hla]⟩
        · rw [hlen, hla]
          exact Nat.lt_of_lt_of_le (show j < 16 by omega) (hsz 16 (Nat.le_refl _))
        · rw [List.all_append, hoa]
          simp [hao]
      · obtain ⟨b6, d6, acc, as, hL6, pa, hoa, hla⟩ := q
        refine ⟨L, acc, rfl, .inl ⟨SqL.of hL6, fun tp htp => ?_⟩⟩
        have d7 := d6.new (o := .tup acc) htp
        have b47 : But D H4 (upd H6 tp (.tup acc)) := (b5.trans b6).new htp
        have ha7 : ActsAt (upd H6 tp (.tup acc)) (.ref tp) as := ⟨tp, acc, rfl, upd_same, paired_mono (fun _ _ z => ActAt.mono (Kt.of (Same.new htp)) z) pa⟩
        generalize upd H6 tp (.tup acc) = H7 at d7 b47 ha7 ⊢
        have hF7 := b47 _ _ hFD hF4
        refine ⟨_, rfl, .inl ⟨rfl, _, SqL.of hF7⟩, ?_⟩
        refine ⟨_, rfl, _, rfl, D, _, rfl, d7, by omega, fun H8 r8 b8 d8 r80 r81 => ?_⟩
        obtain ⟨ke, rfl⟩ := Int.eq_ofNat_of_zero_le r80
        refine ⟨_, rfl, D, _, rfl, d8, by decide, fun H9 r9 b9 d9 r90 r91 => ?_⟩
        refine ⟨rfl, _, rfl, hsz 3 (by decide), fun kp hkp => ?_⟩
        have kt79 : Kt H7 H9 := by
          obtain ⟨ds7, d7⟩ := d7
          exact (b8.trans b9).kt d7
        have b4a : But D H4 (upd H9 kp (.tup [.int ke, .bl (decide (V.int r9 = V.int 0)), .ref tp])) := (b47.trans (b8.trans b9)).new hkp
        have d10 := d9.new (o := .tup [.int ke, .bl (decide (V.int r9 = V.int 0)), .ref tp]) hkp
        have hk10 : KindAt (upd H9 kp (.tup [.int ke, .bl (decide (V.int r9 = V.int 0)), .ref tp])) (.ref kp) ⟨ke, decide (V.int r9 = V.int 0), as⟩ := ⟨kp, .ref tp, rfl, upd_same, ha7.mono (kt79.trans (Kt.of (Same.new hkp)))⟩
        generalize upd H9 kp (.tup [.int ke, .bl (decide (V.int r9 = V.int 0)), .ref tp]) = H10 at b4a d10 hk10 ⊢
        have hF10 := b4a _ _ hFD hF4
        have hlen := Paired.length pr
        refine ⟨_, _, _, rfl, rfl, hF10, ?_, ?_⟩
        · rw [hlen, hlk]
          exact Nat.lt_of_lt_of_le (show i < 16 by omega) (hsz 16 (Nat.le_refl _))
        · have kt : Kt H10 (upd H10 F (.lst (vs ++ [.ref kp]))) := fun c xs hc => by
            rw [upd_ne (ne_of hc hF10 (by intro z; cases z))]
            exact hc
          have kt4 : Kt H4 H10 := by
            obtain ⟨ds4, d4⟩ := d4
            exact b4a.kt d4
          refine ⟨vs ++ [.ref kp], ks ++ [⟨ke, decide (V.int r9 = V.int 0), as⟩], _, _, rfl, (b4.trans b4a).updN hF, d10.upd hFD, upd_same, Paired.snoc (paired_mono (fun _ _ z => KindAt.mono (kt4.trans kt) z) pr) (KindAt.mono kt hk10), ?_, by simp [hlk]⟩
          rw [List.all_append, hok]
          simp only [List.all_cons, List.all_nil, Bool.and_true, Bool.true_and]
          show (decide (ke < ev) && (decide (as.length ≤ 3) && as.all (actOk ev many))) = true
          rw [hoa, decide_eq_true (show ke < ev by omega), decide_eq_true (show as.length ≤ 3 by omega)] <;> rfl
    · obtain ⟨vs, ks, o5, o6, rfl, b4, d4, hF4, pr, hok, hlk⟩ := q
      have pick3 : ∀ {n : Nat}, n ≤ 16 → n ≤ sizeLine := fun h => hsz _ h
      refine pick_tup (D := D) ["live", "copy", "fixed"] (hsz 3 (by decide)) rfl (by decide) rfl d4 fun H5 z1 b5 d5 hz1 => ?_
      refine ⟨hsz 2 (by decide), fun p1 hp1 => ?_⟩
      have b6 : But D H4 (upd H5 p1 (.tup [.str "walk", V.str z1])) := b5.new hp1
      have d6 := d5.new (o := .tup [.str "walk", V.str z1]) hp1
      have t6 : (upd H5 p1 (.tup [.str "walk", V.str z1])) p1 = some (.tup [.str "walk", V.str z1]) := upd_same
      generalize upd H5 p1 (.tup [.str "walk", V.str z1]) = H6 at b6 d6 t6 ⊢
      have hp1D : p1 ≠ D := by
        obtain ⟨ds, d6⟩ := d6
        exact fun z => by rw [z, d6] at t6; cases t6
      refine ⟨_, rfl, D, _, rfl, d6, by decide, fun H7 r7 b7 d7 r70 r71 => ?_⟩
      refine ⟨rfl, hsz 2 (by decide), fun p2 hp2 => ?_⟩
      have t7 := b7 _ _ hp1D t6
      have b8 : But D H4 (upd H7 p2 (.tup [.str "check", .bl (decide (V.int r7 = V.int 0))])) := (b6.trans b7).new hp2
      have d8 := d7.new (o := .tup [.str "check", .bl (decide (V.int r7 = V.int 0))]) hp2
      have t8 : (upd H7 p2 (.tup [.str "check", .bl (decide (V.int r7 = V.int 0))])) p1 = some (.tup [.str "walk", V.str z1]) := Same.new hp2 _ _ t7
      have t8' : (upd H7 p2 (.tup [.str "check", .bl (decide (V.int r7 = V.int 0))])) p2 = some (.tup [.str "check", .bl (decide (V.int r7 = V.int 0))]) := upd_same
      generalize upd H7 p2 (.tup [.str "check", .bl (decide (V.int r7 = V.int 0))]) = H8 at b8 d8 t8 t8' ⊢
      generalize decide (V.int r7 = V.int 0) = cb at *
      refine ⟨hsz 2 (by decide), fun l hl => ?_⟩
      have b9 : But D H4 (upd H8 l (.lst [.ref p1, .ref p2])) := b8.new hl
      have d9 := d8.new (o := .lst [.ref p1, .ref p2]) hl
      have t9 : (upd H8 l (.lst [.ref p1, .ref p2])) p1 = some (.tup [.str "walk", V.str z1]) := Same.new hl _ _ t8
      have t9' : (upd H8 l (.lst [.ref p1, .ref p2])) p2 = some (.tup [.str "check", .bl cb]) := Same.new hl _ _ t8'
      have t9l : (upd H8 l (.lst [.ref p1, .ref p2])) l = some (.lst [.ref p1, .ref p2]) := upd_same
      generalize upd H8 l (.lst [.ref p1, .ref p2]) = H9 at b9 d9 t9 t9' t9l ⊢
      refine ⟨l, [p1, p2], [(Sum.inr "walk", V.str z1), (Sum.inr "check", V.bl cb)], rfl, SqL.of t9l, .cons (SqT.of t9) (.cons (SqT.of t9') .nil), fun d hd => ?_⟩
      have e2 : mergeK [] [((Sum.inr "walk" : Key), V.str z1), (Sum.inr "check", V.bl cb)] = [((Sum.inr "walk" : Key), V.str z1), (Sum.inr "check", V.bl cb)] := by rfl
      rw [e2]
      have hdD := d9.ne hd
      have hd4 : H4 d = none := by
        cases hx : H4 d with
        | none => rfl
        | some o => rw [b9 _ _ hdD hx] at hd; cases hd
      have b10 : But D H4 (upd H9 d (.dK [(Sum.inr "walk", V.str z1), (Sum.inr "check", V.bl cb)])) := b9.new hd
      have d10 := d9.new (o := .dK [(Sum.inr "walk", V.str z1), (Sum.inr "check", V.bl cb)]) hd
      have k10 : (upd H9 d (.dK [((Sum.inr "walk" : Key), V.str z1), (Sum.inr "check", V.bl cb)])) d = some (.dK [(Sum.inr "walk", V.str z1), (Sum.inr "check", V.bl cb)]) := upd_same
      generalize upd H9 d (.dK [((Sum.inr "walk" : Key), V.str z1), (Sum.inr "check", V.bl cb)]) = H10 at b10 d10 k10 ⊢
      refine pick_tup (D := D) ["stop", "go", "late"] (hsz 3 (by decide)) rfl (by decide) rfl d10 fun H11 z3 b11 d11' hz3 => ?_
      refine ⟨_, rfl, _, _, rfl, DPut.k (k := Sum.inr "errors") (b11 _ _ hdD k10) (Nat.lt_of_lt_of_le (show 2 < 16 by decide) (hsz 16 (by decide))), ?_⟩
      have d11 := d11'.upd (o := .dK (putK [((Sum.inr "walk" : Key), V.str z1), (Sum.inr "check", V.bl cb)] (Sum.inr "errors") (V.str z3))) hdD
      have e3 : putK [((Sum.inr "walk" : Key), V.str z1), (Sum.inr "check", V.bl cb)] (Sum.inr "errors") (V.str z3) = [((Sum.inr "walk" : Key), V.str z1), (Sum.inr "check", V.bl cb), (Sum.inr "errors", V.str z3)] := by rfl
      rw [e3] at d11 ⊢
      have b12 : But D H4 (upd H11 d (.dK [(Sum.inr "walk", V.str z1), (Sum.inr "check", V.bl cb), (Sum.inr "errors", V.str z3)])) := (b10.trans b11).updN hd4
      have k12 : (upd H11 d (.dK [((Sum.inr "walk" : Key), V.str z1), (Sum.inr "check", V.bl cb), (Sum.inr "errors", V.str z3)])) d = some (.dK [(Sum.inr "walk", V.str z1), (Sum.inr "check", V.bl cb), (Sum.inr "errors", V.str z3)]) := upd_same
      generalize upd H11 d (.dK [((Sum.inr "walk" : Key), V.str z1), (Sum.inr "check", V.bl cb), (Sum.inr "errors", V.str z3)]) = H12 at b12 d11 k12 ⊢
      refine pick_tup (D := D) ["before", "after", "end"] (hsz 3 (by decide)) rfl (by decide) rfl d11 fun H13 z4 b13 d13' hz4 => ?_
      refine ⟨_, rfl, _, _, rfl, DPut.k (k := Sum.inr "once") (b13 _ _ hdD k12) (Nat.lt_of_lt_of_le (show 3 < 16 by decide) (hsz 16 (by decide))), ?_⟩
      have d13 := d13'.upd (o := .dK (putK [((Sum.inr "walk" : Key), V.str z1), (Sum.inr "check", V.bl cb), (Sum.inr "errors", V.str z3)] (Sum.inr "once") (V.str z4))) hdD
      have e4 : putK [((Sum.inr "walk" : Key), V.str z1), (Sum.inr "check", V.bl cb), (Sum.inr "errors", V.str z3)] (Sum.inr "once") (V.str z4) = [((Sum.inr "walk" : Key), V.str z1), (Sum.inr "check", V.bl cb), (Sum.inr "errors", V.str z3), (Sum.inr "once", V.str z4)] := by rfl
      rw [e4] at d13 ⊢
      have b14 : But D H4 (upd H13 d (.dK [(Sum.inr "walk", V.str z1), (Sum.inr "check", V.bl cb), (Sum.inr "errors", V.str z3), (Sum.inr "once", V.str z4)])) := (b12.trans b13).updN hd4
      have k14 : (upd H13 d (.dK [((Sum.inr "walk" : Key), V.str z1), (Sum.inr "check", V.bl cb), (Sum.inr "errors", V.str z3), (Sum.inr "once", V.str z4)])) d = some (.dK [(Sum.inr "walk", V.str z1), (Sum.inr "check", V.bl cb), (Sum.inr "errors", V.str z3), (Sum.inr "once", V.str z4)]) := upd_same
      generalize upd H13 d (.dK [((Sum.inr "walk" : Key), V.str z1), (Sum.inr "check", V.bl cb), (Sum.inr "errors", V.str z3), (Sum.inr "once", V.str z4)]) = H14 at b14 d13 k14 ⊢
      refine pick_tup (D := D) ["again", "move", "skip", "again"] (hsz 4 (by decide)) rfl (by decide) rfl d13 fun H15 z5 b15 d15' hz5 => ?_
      refine ⟨_, rfl, _, _, rfl, DPut.k (k := Sum.inr "same") (b15 _ _ hdD k14) (Nat.lt_of_lt_of_le (show 4 < 16 by decide) (hsz 16 (by decide))), ?_⟩
      have d15 := d15'.upd (o := .dK (putK [((Sum.inr "walk" : Key), V.str z1), (Sum.inr "check", V.bl cb), (Sum.inr "errors", V.str z3), (Sum.inr "once", V.str z4)] (Sum.inr "same") (V.str z5))) hdD
      have e5 : putK [((Sum.inr "walk" : Key), V.str z1), (Sum.inr "check", V.bl cb), (Sum.inr "errors", V.str z3), (Sum.inr "once", V.str z4)] (Sum.inr "same") (V.str z5) = [((Sum.inr "walk" : Key), V.str z1), (Sum.inr "check", V.bl cb), (Sum.inr "errors", V.str z3), (Sum.inr "once", V.str z4), (Sum.inr "same", V.str z5)] := by rfl
      rw [e5] at d15 ⊢
      have b16 : But D H4 (upd H15 d (.dK [(Sum.inr "walk", V.str z1), (Sum.inr "check", V.bl cb), (Sum.inr "errors", V.str z3), (Sum.inr "once", V.str z4), (Sum.inr "same", V.str z5)])) := (b14.trans b15).updN hd4
      have k16 : (upd H15 d (.dK [((Sum.inr "walk" : Key), V.str z1), (Sum.inr "check", V.bl cb), (Sum.inr "errors", V.str z3), (Sum.inr "once", V.str z4), (Sum.inr "same", V.str z5)])) d = some (.dK [(Sum.inr "walk", V.str z1), (Sum.inr "check", V.bl cb), (Sum.inr "errors", V.str z3), (Sum.inr "once", V.str z4), (Sum.inr "same", V.str z5)]) := upd_same
      generalize upd H15 d (.dK [((Sum.inr "walk" : Key), V.str z1), (Sum.inr "check", V.bl cb), (Sum.inr "errors", V.str z3), (Sum.inr "once", V.str z4), (Sum.inr "same", V.str z5)]) = H16 at b16 d15 k16 ⊢
      refine pick_tup (D := D) ["last", "first"] (hsz 2 (by decide)) rfl (by decide) rfl d15 fun H17 z6 b17 d17 hz6 => ?_
      refine pick_tup (D := D) ["now", "later"] (hsz 2 (by decide)) rfl (by decide) rfl d17 fun H18 z7 b18 d18 hz7 => ?_
      refine ⟨hsz 2 (by decide), fun q2 hq2 => ?_⟩
      have b19 : But D H4 (upd H18 q2 (.tup [V.str z6, V.str z7])) := (b16.trans (b17.trans b18)).new hq2
      have d19 := d18.new (o := .tup [V.str z6, V.str z7]) hq2
      have k19 : (upd H18 q2 (.tup [V.str z6, V.str z7])) d = some (.dK [(Sum.inr "walk", V.str z1), (Sum.inr "check", V.bl cb), (Sum.inr "errors", V.str z3), (Sum.inr "once", V.str z4), (Sum.inr "same", V.str z5)]) := Same.new hq2 _ _ (b18 _ _ hdD (b17 _ _ hdD k16))
      refine ⟨q2, _, rfl, SqT.of upd_same, rfl, _, _, rfl, ?_⟩
      generalize upd H18 q2 (.tup [V.str z6, V.str z7]) = H19 at b19 d19 k19 ⊢
      refine ⟨_, rfl, _, _, rfl, DPut.k (k := Sum.inr "put") k19 (Nat.lt_of_lt_of_le (show 5 < 16 by decide) (hsz 16 (by decide))), ?_⟩
      refine ⟨_, _, rfl, _, rfl, _, _, rfl, DPut.k (k := Sum.inr "nest") upd_same (Nat.lt_of_le_of_lt (length_putK _ _ _) (Nat.lt_of_lt_of_le (show 6 < 16 by decide) (hsz 16 (by decide)))), rfl, ?_⟩
      have e7 : putK (putK [((Sum.inr "walk" : Key), V.str z1), (Sum.inr "check", V.bl cb), (Sum.inr "errors", V.str z3), (Sum.inr "once", V.str z4), (Sum.inr "same", V.str z5)] (Sum.inr "put") (V.str z6)) (Sum.inr "nest") (V.str z7) = kvsOf [z1, shownOf cb, z3, z4, z5, z6, z7] := by cases cb <;> rfl
      rw [e7]
      have b20 : But D H4 (upd (upd H19 d (.dK (putK [((Sum.inr "walk" : Key), V.str z1), (Sum.inr "check", V.bl cb), (Sum.inr "errors", V.str z3), (Sum.inr "once", V.str z4), (Sum.inr "same", V.str z5)] (Sum.inr "put") (V.str z6)))) d (.dK (kvsOf [z1, shownOf cb, z3, z4, z5, z6, z7]))) := (b19.updN hd4).updN hd4
      have d20 := (d19.upd (o := .dK (putK [((Sum.inr "walk" : Key), V.str z1), (Sum.inr "check", V.bl cb), (Sum.inr "errors", V.str z3), (Sum.inr "once", V.str z4), (Sum.inr "same", V.str z5)] (Sum.inr "put") (V.str z6))) hdD).upd (o := .dK (kvsOf [z1, shownOf cb, z3, z4, z5, z6, z7])) hdD
      have k20 : (upd (upd H19 d (.dK (putK [((Sum.inr "walk" : Key), V.str z1), (Sum.inr "check", V.bl cb), (Sum.inr "errors", V.str z3), (Sum.inr "once", V.str z4), (Sum.inr "same", V.str z5)] (Sum.inr "put") (V.str z6)))) d (.dK (kvsOf [z1, shownOf cb, z3, z4, z5, z6, z7]))) d = some (.dK (kvsOf [z1, shownOf cb, z3, z4, z5, z6, z7])) := upd_same
      generalize (upd (upd H19 d (.dK (putK [((Sum.inr "walk" : Key), V.str z1), (Sum.inr "check", V.bl cb), (Sum.inr "errors", V.str z3), (Sum.inr "once", V.str z4), (Sum.inr "same", V.str z5)] (Sum.inr "put") (V.str z6)))) d (.dK (kvsOf [z1, shownOf cb, z3, z4, z5, z6, z7]))) = H20 at b20 d20 k20 ⊢
      have hF20 := b20 _ _ hFD hF4
      refine ⟨_, rfl, _, rfl, F, vs, rfl, .inl ⟨SqL.of hF20, fun tp htp => ?_⟩⟩
      have d21 := d20.new (o := .tup vs) htp
      have s21 : Same H20 (upd H20 tp (.tup vs)) := Same.new htp
      have hk21 : KindsAt (upd H20 tp (.tup vs)) (.ref tp) ks := ⟨tp, vs, rfl, upd_same, paired_mono (fun _ _ z => KindAt.mono (by
        obtain ⟨ds4, d4⟩ := d4
        exact (b20.kt d4).trans (Kt.of s21)) z) pr⟩
      have k21 := s21 _ _ k20
      have b21 := (b3.trans (b4.trans b20)).trans (But.of s21)
      generalize upd H20 tp (.tup vs) = H21 at d21 hk21 k21 b21 ⊢
      refine ⟨_, rfl, hsz 3 (by decide), fun p hp => ?_⟩
      refine kk _ (.ref p) ⟨ev, ks, [z1, shownOf cb, z3, z4, z5, z6, z7]⟩ (b21.new hp) (d21.new hp) ⟨p, d, .ref tp, rfl, upd_same, hk21.mono (Kt.of (Same.new hp)), Same.new hp _ _ k21, ⟨hev0, hev3, ⟨rfl, fun i w hw => ?_⟩, ?_⟩⟩
      · match i, hw with
        | 0, hw =>
          cases hw
          exact mem_of hz1 (by decide +kernel)
        | 1, hw =>
          cases hw
          cases cb <;> decide +kernel
        | 2, hw => cases hw; exact mem_of hz3 (by decide +kernel)
        | 3, hw => cases hw; exact mem_of hz4 (by decide +kernel)
        | 4, hw => cases hw; exact mem_of hz5 (by decide +kernel)
        | 5, hw => cases hw; exact mem_of hz6 (by decide +kernel)
        | 6, hw => cases hw; exact mem_of hz7 (by decide +kernel)
      · show kindsOk ev ks = true
        unfold kindsOk
        rw [hlk, hok, decide_eq_true hmn0, decide_eq_true hmn4] <;> rfl
end K5
set_option Elab.async false
set_option linter.all false
set_option maxRecDepth 100000
set_option maxHeartbeats 4000000
namespace K5
open PySem PySem.Spec PyProof.Rows L2
variable {P : Program} {w : World} {K : PySem.W.Frag} {mg : Str → Option Value} {base : Heap}
/-! ### lines -/
def iOr (w1 w2 : TI) : TI := fun σ H R => w1 σ H R ∨ w2 σ H R
theorem pi_or {X : Cx} {tg it : Expr} {w1 w2 : TI} (h1 : PI X tg it w1) (h2 : PI X tg it w2) : PI X tg it (iOr w1 w2) :=
  ⟨fun pins s σ H R I h => h.elim (h1.run pins s σ H R I) (h2.run pins s σ H R I)⟩
def rowLine (zs : List Str) : Str := Txt.join SP zs ++ NL
theorem scLine : FnScope ["_law_words", "_law_word"] ["_law_words"] (defScope sLine) := ⟨rfl, rfl, rfl, by decide +kernel, rfl, by decide +kernel, by decide +kernel⟩
def spLine (K : PySem.W.Frag) : Sp := fun vs H Q _ => ∃ (p : Addr) (us : List V) (zs : List Str), vs = [.ref p] ∧ (SqT K H p us ∨ SqL K H p us) ∧ Paired WordV us zs ∧ (zs.length ≤ 40 ∧ ∀ z ∈ zs, z.length ≤ 40) ∧ ∀ H', Same H H' → Q (.str (rowLine zs)) H'
theorem word_str {v : V} {z : Str} {H : Hp} {Q : VK} (h : WordV v z) (k : Q (.str z) H) : (fun xs H Q => ∃ i : Int, xs = [V.int i] ∧ i.natAbs.log2 < 1920 ∧ Q (V.str (toString i)) H) [v] H Q ∨ (fun xs H Q => ∃ a, xs = [V.str a] ∧ Q (V.str a) H) [v] H Q := by
  rcases h with rfl | ⟨n, hn, rfl, rfl⟩
  · exact .inr ⟨_, rfl, k⟩
  · refine .inl ⟨_, rfl, ?_, k⟩
    have : n = 0 ∨ n = 1 ∨ n = 2 ∨ n = 3 ∨ n = 4 ∨ n = 5 ∨ n = 6 ∨ n = 7 ∨ n = 8 ∨ n = 9 := by omega
    rcases this with rfl | rfl | rfl | rfl | rfl | rfl | rfl | rfl | rfl | rfl <;> decide +kernel
theorem cl_line (T : Txt w K mg) : Cl P w K mg base CX0 1 "_law_line" (spLine K) := by
  refine cl_def T (i := 58) (j := 34) rfl (by decide +kernel) scLine (fun _ _ _ _ _ _ us hl => match us, hl with | [_], _ => rfl) (fun vs H Q E h => ?_) (fun cdv A outer s H vs Q E hr h => ?_)
  · obtain ⟨p, us, zs, rfl, _⟩ := h
    rfl
  · obtain ⟨p, us, zs, rfl, hp, pr, sh, k⟩ := h
    refine ⟨_, (pss_one (ps_ret (pe_op op_add_str (pJoin (K := K) rfl pe_str (pe_lc (own := [("_law_word", 1)]) rfl scLine.nd (pi_or (pTup (K := K) rfl (pv 0)) (pList (K := K) rfl (pv 0))) (blkOk_by (own := [("_law_word", 1)]) (N := ["_law_words", "_law_word"]) (sc := defScope sLine) (by decide +kernel)) (fun _ _ _ _ _ => (pg_name (i := 1) scLine.nd rfl (by first | exact Or.inl rfl | exact Or.inr rfl))) (fun _ _ _ _ _ => pts_nil) (fun _ _ _ _ _ => (pe_callTy (call_str_int.or SkE.call_str_str) (by rfl) (fr T "str") PyProof.Rows.boot_str (pa_cons (pv 1) pa_nil))))) pe_str))), ?_⟩
    have sep : SP.length = 1 := by decide +kernel
    have nl : NL.length = 1 := by decide +kernel
    have sl : sizeLine = 16777216 := sizeLine_eq
    have hl : zs.length < sizeLine := Nat.lt_of_le_of_lt sh.1 (by decide)
    refine ⟨⟨_, rfl⟩, ?_⟩
    have fin : ∀ (H2 : Hp) (D : Addr), Same H H2 → H2 D = some (.lst (zs.map V.str)) → rJoin K (.str SP) [.ref D] H2 (fun x H3 => ∃ i j, x = V.str i ∧ V.str NL = V.str j ∧ i.length + j.length ≤ sizeLine ∧ Q (.str (i ++ j)) H3) := by
      intro H2 D s2 hD2
      have e1 := sum_le sh.2
      have e2 : zs.length * 40 ≤ 40 * 40 := Nat.mul_le_mul_right 40 sh.1
      refine ⟨_, D, zs, rfl, rfl, .inl (.inl (.inl hD2)), by rw [sep]; omega, ?_⟩
      have e3 := row_len sh
      exact ⟨_, _, rfl, rfl, (by show (Txt.join SP zs).length + NL.length ≤ sizeLine; rw [nl]; omega), k _ s2⟩
    rcases hp with hp | hp
    · refine .inl ⟨_, rfl, _, rfl, ⟨_, hp⟩, fun D hD => ?_⟩
      refine lc_mapT (F := WordV) (fun z => .str z) hD hp pr hl (fun x z H2 f2 hz s2 Q2 k2 => ?_) (fun H2 s2 hD3 => ?_)
      · exact ⟨_, rfl, word_str f2 (k2 _ (Same.refl _))⟩
      · exact fin H2 D s2 hD3
    · refine .inr ⟨_, rfl, _, rfl, ⟨_, hp⟩, fun D hD => ?_⟩
      refine lc_mapL (F := WordV) (fun z => .str z) hD hp pr hl (fun x z H2 f2 hz s2 Q2 k2 => ?_) (fun H2 s2 hD3 => ?_)
      · exact ⟨_, rfl, word_str f2 (k2 _ (Same.refl _))⟩
      · exact fin H2 D s2 hD3
theorem scNames : FnScope [] [] (defScope sNames) := ⟨rfl, rfl, rfl, by decide +kernel, rfl, by decide +kernel, by decide +kernel⟩
def spNames : Sp := fun vs H Q _ => vs = [] ∧ ∀ H' p, Same H H' → H p = none → H' p = some (.lst (names.map V.str)) → Q (.ref p) H'
theorem cl_names (T : Txt w K mg) : Cl P w K mg base CX0 1 "_law_names" spNames := by
  refine cl_def T (i := 59) (j := 35) rfl (by decide +kernel) scNames (fun _ _ _ _ _ _ us hl => match us, hl with | [], _ => rfl) (fun vs H Q E h => ?_) (fun cdv A outer s H vs Q E hr h => ?_)
  · obtain ⟨rfl, _⟩ := h
    rfl
  · obtain ⟨rfl, k⟩ := h
    refine ⟨_, (pss_one (ps_ret (pe_lst (pa_cons pe_str (pa_cons pe_str (pa_cons pe_str (pa_cons pe_str (pa_cons pe_str (pa_cons pe_str (pa_cons pe_str pa_nil)))))))))), ?_⟩
    refine ⟨by show 7 ≤ sizeLine; decide +kernel, fun p hp => ?_⟩
    exact k _ _ (Same.new hp) hp upd_same
end K5
set_option Elab.async false
set_option linter.all false
set_option maxRecDepth 100000
set_option maxHeartbeats 4000000
namespace K5
open PySem PySem.Spec PyProof.Rows L2
variable {P : Program} {w : World} {K : PySem.W.Frag} {mg : Str → Option Value} {base : Heap}
/-! ### the lines of a plan -/
abbrev lineV (r : List Str) : V := .str (rowLine r)
theorem ite_tC {b : Bool} {x y : V} {σ : L2.St} {H : Hp} {k : VK} (h : k (if b = true then x else y) H) : if b = true then tC x σ H k else tC y σ H k := by cases b <;> exact h
theorem paired_app {α β : Type} {F : α → β → Prop} : ∀ {xs xs' : List α} {ys ys' : List β}, Paired F xs ys → Paired F xs' ys' → Paired F (xs ++ xs') (ys ++ ys')
  | _, _, _, _, .nil, h => h
  | _, _, _, _, .cons a b, h => .cons a (paired_app b h)
theorem scLines : FnScope ["_law_plan_here", "_law_found", "_law_name", "_law_value", "_law_event", "_law_is_once", "_law_acts_here", "_law_words", "_law_act_here"] ["_law_plan_here"] (defScope sLines) := ⟨rfl, rfl, rfl, by decide +kernel, rfl, by decide +kernel, by decide +kernel⟩
def spLines : Sp := fun vs H Q _ => ∃ (v : V) (h : HallD), vs = [v] ∧ PlanAt H v h ∧ ∀ H' p, Same H H' → H p = none → H' p = some (.lst ((hallRows h).map lineV)) → Q (.ref p) H'
theorem cl_lines (T : Txt w K mg) (C__law_line : Cl P w K mg base CX0 1 "_law_line" (spLine K)) (C__law_names : Cl P w K mg base CX0 1 "_law_names" spNames) : Cl P w K mg base CX0 2 "_law_lines" spLines := by
  refine cl_def T (i := 60) (j := 36) rfl (by decide +kernel) scLines (fun _ _ _ _ _ _ us hl => match us, hl with | [_], _ => rfl) (fun vs H Q E h => ?_) (fun cdv A outer s H vs Q E hr h => ?_)
  · obtain ⟨v, h, rfl, _⟩ := h
    rfl
  · obtain ⟨v, h, rfl, ha, k⟩ := h
    have hu := hu_of hr
    refine ⟨_, (pss_cons (ps_set (i := 1) scLines.nd rfl (by first | exact Or.inl rfl | exact Or.inr rfl) (pe_lst (pa_cons (pe_cl C__law_line hr (by decide) pass0 rfl (pa_cons (pe_tup (pa_cons pe_str (pa_cons (pe_ix ix_tup (pv 0) pe_int (fun _ _ => rfl)) pa_nil))) pa_nil)) pa_nil)))
      (pss_cons (ps_for PassesOwn.never rfl (pi_list (pe_cl0 C__law_names hr (by decide) pass0 rfl)) (pg_name (i := 2) scLines.nd rfl (by first | exact Or.inl rfl | exact Or.inr rfl)) (pss_cons (ps_set (i := 3) scLines.nd rfl (by first | exact Or.inl rfl | exact Or.inr rfl) (pe_dget hu (pe_ix ix_tup (pv 0) pe_int (fun _ _ => rfl)) (pv 2) (fun _ _ => rfl)))
      (pss_one (ps_expr (pe_bm PySem.F.plainAttrs_list PySem.F.slot_list_append PySem.F.type_list_append mt_append (pv 1) (pa_cons (pe_cl C__law_line hr (by decide) pass0 rfl (pa_cons (pe_tup (pa_cons (pv 2) (pa_cons (pe_ifExp (pt_cmpR op_ne (pv 2) pe_str (nomark _)) (pv 3) (pe_ifExp (pt_val (pv 3)) pe_str pe_str)) pa_nil))) pa_nil)) pa_nil))))))
      (pss_cons (ps_for PassesOwn.never rfl (pi_tup (pe_ix ix_tup (pv 0) pe_int (fun _ _ => rfl))) (pg_tup (by rfl) (pgs_cons (pg_name (i := 4) scLines.nd rfl (by first | exact Or.inl rfl | exact Or.inr rfl)) (pgs_cons (pg_name (i := 5) scLines.nd rfl (by first | exact Or.inl rfl | exact Or.inr rfl)) (pgs_cons (pg_name (i := 6) scLines.nd rfl (by first | exact Or.inl rfl | exact Or.inr rfl)) pgs_nil)))) (pss_cons (ps_set (i := 7) scLines.nd rfl (by first | exact Or.inl rfl | exact Or.inr rfl) (pe_lst (pa_cons pe_str (pa_cons (pv 4) (pa_cons (pe_ifExp (pt_val (pv 5)) pe_str pe_str) pa_nil)))))
      (pss_cons (ps_for PassesOwn.never rfl (pi_tup (pv 6)) (pg_name (i := 8) scLines.nd rfl (by first | exact Or.inl rfl | exact Or.inr rfl)) (pss_one (ps_set (i := 7) scLines.nd rfl (by first | exact Or.inl rfl | exact Or.inr rfl) (pe_op op_cat (pv 7) (pe_callTy call_list_of (by rfl) (fr T "list") PyProof.Rows.boot_list (pa_cons (pv 8) pa_nil))))))
      (pss_one (ps_expr (pe_bm PySem.F.plainAttrs_list PySem.F.slot_list_append PySem.F.type_list_append mt_append (pv 1) (pa_cons (pe_cl C__law_line hr (by decide) pass0 rfl (pa_cons (pv 7) pa_nil)) pa_nil)))))))
      (pss_one (ps_ret (pv 1)))))), ?_⟩
    obtain ⟨ev, ks, hs⟩ := h
    obtain ⟨p, d, tv, rfl, hp, hkk, hd, ok⟩ := id ha
    obtain ⟨tp, kvs, rfl, htp, pk⟩ := hkk
    have kp := kindsOk_iff ok.ks
    have he : ev ≤ 3 := ok.e3
    have h4 : ks.length ≤ 4 := kp.l4
    have h7 : hs.length = 7 := ok.hd.1
    have sl : sizeLine = 16777216 := sizeLine_eq
    have sh := hall_short ok
    have at_kvs : ∀ i < 7, ∃ n v : Str, names[i]? = some n ∧ hs[i]? = some v ∧ (ruleRows hs)[i]? = some [n, v] ∧ (n = "check" ↔ i = 1) := by
      obtain ⟨a, b, c, d, e, f, g, rfl⟩ := seven h7
      intro i hi
      match i, hi with
      | 0, _ => exact ⟨_, _, rfl, rfl, rfl, by decide +kernel⟩
      | 1, _ => exact ⟨_, _, rfl, rfl, rfl, by decide +kernel⟩
      | 2, _ => exact ⟨_, _, rfl, rfl, rfl, by decide +kernel⟩
      | 3, _ => exact ⟨_, _, rfl, rfl, rfl, by decide +kernel⟩
      | 4, _ => exact ⟨_, _, rfl, rfl, rfl, by decide +kernel⟩
      | 5, _ => exact ⟨_, _, rfl, rfl, rfl, by decide +kernel⟩
      | 6, _ => exact ⟨_, _, rfl, rfl, rfl, by decide +kernel⟩
    have len_rules : (ruleRows hs).length = 7 := by
      obtain ⟨a, b, c, d, e, f, g, rfl⟩ := seven h7
      rfl
    have e_rows : hallRows ⟨ev, ks, hs⟩ = [sEvents, dig ev] :: (ruleRows hs ++ ks.map kindRow) := rfl
    have len_rows : (hallRows ⟨ev, ks, hs⟩).length = 8 + ks.length := by
      rw [e_rows, List.length_cons, List.length_append, len_rules, List.length_map]
      omega
    have a0 : atI [V.int ev, V.ref tp, V.ref d] (0 : Int) = some (.int ev) := atI_nat (j := 0) rfl
    have a1 : atI [V.int ev, V.ref tp, V.ref d] (1 : Int) = some (.ref tp) := atI_nat (j := 1) rfl
    have a2 : atI [V.int ev, V.ref tp, V.ref d] (2 : Int) = some (.ref d) := atI_nat (j := 2) rfl
    have row0 : (hallRows ⟨ev, ks, hs⟩)[0]? = some [sEvents, dig ev] := rfl
    have shr : ∀ {i : Nat} {r : List Str}, (hallRows ⟨ev, ks, hs⟩)[i]? = some r → r.length ≤ 40 ∧ ∀ z ∈ r, z.length ≤ 40 := fun hr => sh.2 _ (List.mem_of_getElem? hr)
    refine ⟨_, rfl, _, _, _, _, rfl, rfl, SqT.of hp, a0, (by show 2 ≤ sizeLine; omega), fun q hq => ?_⟩
    refine ⟨q, _, [sEvents, dig ev], rfl, .inl (SqT.of upd_same), .cons (.inl rfl) (.cons (.inr ⟨ev, by omega, rfl, rfl⟩) .nil), shr row0, fun H1 s1 => ?_⟩
    refine ⟨(by show 1 ≤ sizeLine; omega), fun F hF => ?_⟩
    have s01 : Same H H1 := (Same.new hq).trans s1
    have hFH : H F = none := Same.none s01 hF
    refine ⟨rfl, fun H3 nl s3 nn hnl => ?_⟩
    have nlF : nl ≠ F := fun z => by rw [z, upd_same] at nn; cases nn
    refine ⟨nl, rfl, ⟨_, SqL.of hnl⟩, ?_⟩
    refine for_list (xs := names.map V.str) (fun i σ H' => ∃ o2 o3, σ = [some (.ref p), some (.ref F), o2, o3, none, none, none, none, none] ∧ Same H H' ∧ H' nl = some (.lst (names.map V.str)) ∧ H' F = some (.lst (((hallRows ⟨ev, ks, hs⟩).take (1 + i)).map lineV)))
      ⟨none, none, rfl, (Same.new' s01 hF).trans s3, hnl, s3 _ _ upd_same⟩ (fun i σ H' _ q => ?_) (fun i x σ H4 hx q => ?_) (fun σ H4 q => ?_)
    · obtain ⟨_, _, _, _, q, _⟩ := q
      exact SqL.of q
    · obtain ⟨o2, o3, rfl, s4, hnl4, hF4⟩ := q
      have hi : i < 7 := by
        have := (List.getElem?_eq_some_iff.mp hx).1
        simpa [names] using this
      obtain ⟨n, v, hn, hv, hr, hc⟩ := at_kvs i hi
      rw [List.getElem?_map, hn] at hx
      have hx' : x = .str n := (Option.some.inj hx).symm
      subst hx'
      have hri : (hallRows ⟨ev, ks, hs⟩)[1 + i]? = some [n, v] := by
        rw [e_rows, Nat.add_comm, List.getElem?_cons_succ, List.getElem?_append_left (by rw [len_rules]; exact hi)]
        exact hr
      have hg : DGet H4 d (.str n) (some (rv i v)) := by
        rw [← kvs_get h7 hn hv]
        exact DGet.k (k := Sum.inr n) (s4 _ _ hd)
      refine ⟨_, rfl, _, _, _, _, rfl, rfl, SqT.of (s4 _ _ hp), a2, _, rfl, _, _, rfl, hg, ?_⟩
      refine ⟨_, rfl, .inl ⟨rfl, _, SqL.of hF4⟩, ?_⟩
      have tail : ∀ (q5 : Addr), H4 q5 = none → spLine K [.ref q5] (upd H4 q5 (.tup [.str n, .str v])) (fun y H5 => ∃ l xs y', V.ref F = .ref l ∧ [y] = [y'] ∧ H5 l = some (.lst xs) ∧ xs.length < sizeLine ∧
          ∃ o2 o3, [some (V.ref p), some (.ref F), some (.str n), some (rv i v), none, none, none, none, none] = [some (.ref p), some (.ref F), o2, o3, none, none, none, none, none] ∧ Same H (upd H5 l (.lst (xs ++ [y']))) ∧ (upd H5 l (.lst (xs ++ [y']))) nl = some (.lst (names.map V.str)) ∧ (upd H5 l (.lst (xs ++ [y']))) F = some (.lst (((hallRows ⟨ev, ks, hs⟩).take (1 + (i + 1))).map lineV))) E0 := by
        intro q5 hq5
        refine ⟨q5, _, [n, v], rfl, .inl (SqT.of upd_same), .cons (.inl rfl) (.cons (.inl rfl) .nil), shr hri, fun H5 s5 => ?_⟩
        have s45 : Same H4 H5 := (Same.new hq5).trans s5
        have hF5 := s45 _ _ hF4
        refine ⟨F, _, _, rfl, rfl, hF5, ?_, _, _, rfl, ?_, ?_, ?_⟩
        · rw [List.length_map, List.length_take]
          omega
        · intro z o hz
          rw [upd_ne (ne_of_none hz hFH)]
          exact s45 _ _ (s4 _ _ hz)
        · rw [upd_ne nlF]
          exact s45 _ _ hnl4
        · rw [upd_same, ← Nat.add_assoc, List.take_add_one, hri, List.map_append]
          rfl
      refine ⟨_, rfl, _, rfl, rfl, _, rfl, ?_⟩
      by_cases h1 : i = 1
      · refine iteF' (by rw [decide_eq_true (show V.str n = V.str "check" by rw [hc.mpr h1])] <;> rfl) ?_
        subst h1
        have hv' := ok.hd.2 1 v hv
        refine ⟨_, rfl, _, rfl, ?_⟩
        have hb : v = "no" ∨ v = "yes" := by
          have h' : v ∈ (["no", "yes"] : List Str) := hv'
          simpa using h'
        rcases hb with rfl | rfl
        · refine iteF' (by decide +kernel) ?_
          exact ⟨(by show 2 ≤ sizeLine; omega), tail⟩
        · refine iteT' (by decide +kernel) ?_
          exact ⟨(by show 2 ≤ sizeLine; omega), tail⟩
      · refine iteT' (by rw [decide_eq_false (fun z => h1 (hc.mp (by injection z)))] <;> rfl) ?_
        have erv : rv i v = .str v := if_neg h1
        refine ⟨_, rfl, ?_⟩
        rw [erv] at tail ⊢
        exact ⟨(by show 2 ≤ sizeLine; omega), tail⟩
    · obtain ⟨o2, o3, rfl, s4, hnl4, hF4⟩ := q
      replace hF4 : H4 F = some (.lst (((hallRows ⟨ev, ks, hs⟩).take 8).map lineV)) := hF4
      refine ⟨_, rfl, _, _, _, _, rfl, rfl, SqT.of (s4 _ _ hp), a1, _, rfl, ⟨_, SqT.of (s4 _ _ htp)⟩, ?_⟩
      have lk : kvs.length = ks.length := Paired.length pk
      refine for_tup (xs := kvs) (fun i σ H' => ∃ o2 o3 o4 o5 o6 o7 o8, σ = [some (.ref p), some (.ref F), o2, o3, o4, o5, o6, o7, o8] ∧ Same H H' ∧ H' F = some (.lst (((hallRows ⟨ev, ks, hs⟩).take (8 + i)).map lineV))) ⟨_, _, _, _, _, _, _, rfl, s4, hF4⟩ (fun i σ H' _ q => ?_) (fun i x σ H5 hx q => ?_) (fun σ H5 q => ?_)
      · obtain ⟨_, _, _, _, _, _, _, _, s5, _⟩ := q
        exact SqT.of (s5 _ _ htp)
      · obtain ⟨o2, o3, o4, o5, o6, o7, o8, rfl, s5, hF5⟩ := q
        obtain ⟨kd, hkd, u, tk, rfl, hu, pa, as, rfl, hta, pra⟩ := paired_get pk hx
        have hmem : kd ∈ ks := List.mem_of_getElem? hkd
        have kok := kp.all kd hmem
        have ea : kd.acts.all actSmall = true := acts_small he h4 kok.a
        have hri : (hallRows ⟨ev, ks, hs⟩)[8 + i]? = some (kindRow kd) := by
          rw [e_rows, show 8 + i = (7 + i) + 1 by omega, List.getElem?_cons_succ, List.getElem?_append_right (by rw [len_rules]; omega), len_rules, show 7 + i - 7 = i by omega, List.getElem?_map, hkd] <;> rfl
        refine ⟨u, _, rfl, SqT.of (s5 _ _ hu), rfl, _, _, rfl, _, _, rfl, _, _, rfl, rfl, ?_⟩
        refine ⟨_, rfl, _, rfl, _, rfl, ite_tC ?_⟩
        rw [show (if kd.once = true then V.str "once" else V.str "always") = V.str (if kd.once = true then sOnce else sAlways) by cases kd.once <;> rfl]
        have hrow : kindRow kd = sKind :: dig kd.ev :: (if kd.once = true then sOnce else sAlways) :: kd.acts.flatMap actWords := rfl
        rw [hrow] at hri
        generalize (if kd.once = true then sOnce else sAlways) = z at hri ⊢
        refine ⟨(by show 3 ≤ sizeLine; omega), fun W hW => ?_⟩
        have s6 : Same H5 (upd H5 W (.lst [.str sKind, .int kd.ev, .str z])) := Same.new hW
        have shk := shr hri
        have hta5 := s5 _ _ hta
        refine ⟨_, rfl, pa, rfl, ⟨_, SqT.of (s6 _ _ hta5)⟩, ?_⟩
        refine for_tup (xs := as) (fun j σ H' => ∃ (W : Addr) (us : List V) (o8 : Option V), σ = [some (.ref p), some (.ref F), o2, o3, some (.int kd.ev), some (.bl kd.once), some (.ref pa), some (.ref W), o8] ∧ Same H5 H' ∧ H' W = some (.lst us) ∧ Paired WordV us (sKind :: dig kd.ev :: z :: (kd.acts.take j).flatMap actWords))
          ⟨W, _, _, rfl, s6, upd_same, .cons (.inl rfl) (.cons (.inr ⟨kd.ev, by have h9 : kd.ev < ev := kok.e; omega, rfl, rfl⟩) (.cons (.inl rfl) .nil))⟩ (fun j σ H' _ q => ?_) (fun j x σ H6 hx6 q => ?_) (fun σ H6 q => ?_)
        · obtain ⟨_, _, _, _, s7, _⟩ := q
          exact SqT.of (s7 _ _ hta5)
        · obtain ⟨W6, us6, o8', rfl, s6', hW6, pw⟩ := q
          obtain ⟨a, haj, ⟨qa, rfl, hqa⟩⟩ := paired_get pra hx6
          have hqa6 := s6' _ _ (s5 _ _ hqa)
          have pwa : Paired WordV (actV a) (actWords a) := by
            have := wordsV (as := [a]) (by
              have := List.all_eq_true.mp ea a (List.mem_of_getElem? haj)
              simp [this])
            simpa [actV2] using this
          have et : (kd.acts.take (j + 1)).flatMap actWords = (kd.acts.take j).flatMap actWords ++ actWords a := by
            rw [List.take_add_one, haj, List.flatMap_append]
            simp
          have pw2 : Paired WordV (us6 ++ actV a) (sKind :: dig kd.ev :: z :: (kd.acts.take (j + 1)).flatMap actWords) := by
            rw [et]
            exact paired_app pw pwa
          refine ⟨_, rfl, _, rfl, qa, _, rfl, .inr (SqT.of hqa6), fun l6 hl6 => ?_⟩
          have hlen : us6.length + (actV a).length ≤ sizeLine := by
            have h1 := Paired.length pw2
            rw [List.length_append] at h1
            have h2 : ((kd.acts.take (j + 1)).flatMap actWords).length ≤ (kd.acts.flatMap actWords).length := by
              have : kd.acts.flatMap actWords = (kd.acts.take (j + 1)).flatMap actWords ++ (kd.acts.drop (j + 1)).flatMap actWords := by rw [← List.flatMap_append, List.take_append_drop]
              rw [this, List.length_append]
              omega
            have h3 := shk.1
            simp only [List.length_cons] at h1 h3
            omega
          refine ⟨_, _, _, _, rfl, rfl, Same.new hl6 _ _ hW6, upd_same, hlen, fun n6 hn6 => ?_⟩
          exact ⟨n6, _, _, rfl, (s6'.trans (Same.new hl6)).trans (Same.new hn6), upd_same, pw2⟩
        · obtain ⟨W6, us6, o8', rfl, s6', hW6, pw⟩ := q
          have la : as.length = kd.acts.length := Paired.length pra
          rw [la, List.take_length] at pw
          have hF6 := s6' _ _ hF5
          refine ⟨_, rfl, .inl ⟨rfl, _, SqL.of hF6⟩, _, rfl, W6, us6, _, rfl, .inr (SqL.of hW6), pw, shk, fun H7 s7 => ?_⟩
          have s67 := s6'.trans s7
          have hF7 := s67 _ _ hF5
          refine ⟨F, _, _, rfl, rfl, hF7, ?_, _, _, _, _, _, _, _, rfl, ?_, ?_⟩
          · rw [List.length_map, List.length_take]
            omega
          · intro z' o hz
            rw [upd_ne (ne_of_none hz hFH)]
            exact s67 _ _ (s5 _ _ hz)
          · rw [upd_same, ← Nat.add_assoc, List.take_add_one, hri, List.map_append]
            rfl
      · obtain ⟨o2, o3, o4, o5, o6, o7, o8, rfl, s5, hF5⟩ := q
        refine ⟨_, rfl, k _ _ s5 hFH ?_⟩
        rw [hF5, ← lk.symm, List.take_of_length_le (by rw [len_rows]; omega)]
end K5
set_option Elab.async false
set_option linter.all false
set_option maxRecDepth 100000
set_option maxHeartbeats 4000000
namespace K5
open PySem PySem.Spec PyProof.Rows L2
variable {P : Program} {w : World} {K : PySem.W.Frag} {mg : Str → Option Value} {base : Heap}
/-! ### _law_hall, _law_deeds, _law_digit, _law_acts -/
theorem pass_no {X : Cx} : Passes (L2N.CX X.prog X.w) X (fun _ _ _ => False) := fun _ _ _ _ _ _ _ c => by
  obtain ⟨_, _, _, _, _, _, _, _, _, _, _, _, h⟩ := c
  exact h.elim
theorem scHall : FnScope ["_law_plan_here", "_law_rules"] ["_law_plan_here"] (defScope sHall) := ⟨rfl, rfl, rfl, by decide +kernel, rfl, by decide +kernel, by decide +kernel⟩
def spHallL (K : PySem.W.Frag) : Sp := fun vs H Q _ => ∃ (v : V) (h : HallD), vs = [v] ∧ PlanAt H v h ∧ ∀ H' u, Same H H' → HallAt K H' u h → Q u H'
theorem cl_hallL (T : Txt w K mg) {fdI : FuncData} (FI : FunD K "__init__" "Hall.__init__" (defArgs sHallInit) (defBody sHallInit) (defScope sHallInit) [] (hallKw.map fun p => (p.1, p.2.v K)) (He.ma K (cHall K) "__init__") fdI)
    (OI : FnOk P w K mg base (L2N.CX P w) 5 (He.ma K (cHall K) "__init__") fdI ["self", "events", "kinds", "walk", "check", "errors", "once", "same", "put", "nest"] (spHallInit K)) :
    Cl P w K mg base CX0 7 "_law_hall" (spHallL K) := by
  refine cl_def T (i := 47) (j := 32) rfl (by decide +kernel) scHall (fun _ _ _ _ _ _ us hl => match us, hl with | [_], _ => rfl) (fun vs H Q E h => ?_) (fun cdv A outer s H vs Q E hr h => ?_)
  · obtain ⟨v, h, rfl, _⟩ := h
    rfl
  · obtain ⟨v, h, rfl, ha, k⟩ := h
    have hu := hu_of hr
    have KB := kb_hall FI
    obtain ⟨ev, ks, hs⟩ := h
    obtain ⟨p, d, tv, rfl, hp, hkk, hd, ok⟩ := id ha
    obtain ⟨a, b, c, dd, e, f, g, rfl⟩ := seven ok.hd.1
    have a0 : atI [V.int ev, tv, V.ref d] (0 : Int) = some (.int ev) := atI_nat (j := 0) rfl
    have a1 : atI [V.int ev, tv, V.ref d] (1 : Int) = some tv := atI_nat (j := 1) rfl
    have a2 : atI [V.int ev, tv, V.ref d] (2 : Int) = some (.ref d) := atI_nat (j := 2) rfl
    have g0 : DGet H d (.str "walk") (some (rv 0 a)) := DGet.k (k := Sum.inr "walk") hd
    have g1 : DGet H d (.str "check") (some (rv 1 b)) := DGet.k (k := Sum.inr "check") hd
    have g2 : DGet H d (.str "errors") (some (rv 2 c)) := DGet.k (k := Sum.inr "errors") hd
    have g3 : DGet H d (.str "once") (some (rv 3 dd)) := DGet.k (k := Sum.inr "once") hd
    have g4 : DGet H d (.str "same") (some (rv 4 e)) := DGet.k (k := Sum.inr "same") hd
    have g5 : DGet H d (.str "put") (some (rv 5 f)) := DGet.k (k := Sum.inr "put") hd
    have g6 : DGet H d (.str "nest") (some (rv 6 g)) := DGet.k (k := Sum.inr "nest") hd
    refine ⟨_, (pss_cons (ps_set (i := 1) scHall.nd rfl (by first | exact Or.inl rfl | exact Or.inr rfl) (pe_ix ix_tup (pv 0) pe_int (fun _ _ => rfl)))
      (pss_one (ps_ret (pe_makeK (E := fun _ _ _ => False) T.mkH OI hr rfl (T.glo "Hall" (by decide +kernel)) KB pass_no (pa_cons (pe_ix ix_tup (pv 0) pe_int (fun _ _ => rfl)) (pa_cons (pe_ix ix_tup (pv 0) pe_int (fun _ _ => rfl)) pa_nil)) (pk_cons (pe_dget hu (pv 1) pe_str (fun _ _ => rfl)) (pk_cons (pe_dget hu (pv 1) pe_str (fun _ _ => rfl)) (pk_cons (pe_dget hu (pv 1) pe_str (fun _ _ => rfl)) (pk_cons (pe_dget hu (pv 1) pe_str (fun _ _ => rfl)) (pk_cons (pe_dget hu (pv 1) pe_str (fun _ _ => rfl)) (pk_cons (pe_dget hu (pv 1) pe_str (fun _ _ => rfl)) (pk_cons (pe_dget hu (pv 1) pe_str (fun _ _ => rfl)) pk_nil))))))))))), ?_⟩
    refine ⟨_, rfl, _, _, _, _, rfl, rfl, SqT.of hp, a2, ?_⟩
    refine ⟨_, rfl, _, _, _, _, rfl, rfl, SqT.of hp, a0, _, rfl, _, _, _, _, rfl, rfl, SqT.of hp, a1, ?_⟩
    refine ⟨_, rfl, _, _, rfl, g0, _, rfl, _, _, rfl, g1, _, rfl, _, _, rfl, g2, _, rfl, _, _, rfl, g3, _, rfl, _, _, rfl, g4, _, rfl, _, _, rfl, g5, _, rfl, _, _, rfl, g6, rfl, rfl, fun px dx hx hdx hne => ?_⟩
    have s5 : Same H (upd (upd H dx (.own px)) px (.ins (cHall K) dx [])) := Same.new' (Same.new hdx) (by rw [upd_ne (Ne.symm hne)]; exact hx)
    refine ⟨px, dx, ev, tv, ks, [a, b, c, dd, e, f, g], rfl, upd_same, ok.e1, ok.e3, hkk.mono (Kt.of s5), ok.hd, fun ek H6 k6 hp6 => ?_, fun ek => ?_⟩
    · have sH6 : Same H H6 := by
        intro z o hz
        have zx : z ≠ px := ne_of_none hz hx
        exact k6 z o zx (s5 _ _ hz)
      exact ⟨rfl, k _ _ sH6 ⟨px, dx, tv, rfl, hp6, hkk.mono (Kt.of sH6), ok⟩⟩
    · have := ok.ks
      rw [show kindsOk ev ks = false from ek] at this
      cases this
theorem scDigit : FnScope ["_law_word"] ["_law_word"] (defScope sDigit) := ⟨rfl, rfl, rfl, by decide +kernel, rfl, by decide +kernel, by decide +kernel⟩
def spDigit : Sp := fun vs H Q _ => ∃ z : Str, vs = [.str z] ∧ z.length ≤ sizeLine ∧ Q (.bl (numIn z).isSome) H
theorem cl_digit (T : Txt w K mg) : Cl P w K mg base CX0 1 "_law_digit" spDigit := by
  refine cl_def T (i := 61) (j := 37) rfl (by decide +kernel) scDigit (fun _ _ _ _ _ _ us hl => match us, hl with | [_], _ => rfl) (fun vs H Q E h => ?_) (fun cdv A outer s H vs Q E hr h => ?_)
  · obtain ⟨z, rfl, _⟩ := h
    rfl
  · obtain ⟨z, rfl, hz, k⟩ := h
    refine ⟨_, (pss_one (ps_ret (pe_and (pe_cmpR op_eq (pe_callB call_len (by rfl) (fr T "len") boot_len (pa_cons (pv 0) pa_nil)) pe_int (nomark _)) (pe_one (pe_cmpR op_in_sign (pv 0) pe_str (by rfl)))))), ?_⟩
    refine ⟨_, rfl, _, _, rfl, ⟨hz, rfl⟩, rfl, ?_⟩
    by_cases h1 : z.length = 1
    · obtain ⟨c, rfl⟩ := one_sign h1
      refine ⟨_, rfl, iteT' (decide_eq_true rfl) ⟨_, rfl, c, _, rfl, rfl, ?_⟩⟩
      rw [dig_mem]
      exact k
    · refine ⟨_, rfl, iteF' (decide_eq_false (fun q => h1 (by injection q with q; omega))) ?_⟩
      rw [numIn_len h1] at k
      exact k
def ActsLR (H0 H : Hp) (v : V) : Option (List Act) → Prop
  | some as => ∃ p vs, v = .ref p ∧ H0 p = none ∧ H p = some (.lst vs) ∧ Paired (ActAt H) vs as
  | none => v = .non
theorem scActs : FnScope ["_law_words", "_law_found", "_law_at_here"] ["_law_words"] (defScope sActs) := ⟨rfl, rfl, rfl, by decide +kernel, rfl, by decide +kernel, by decide +kernel⟩
def spActs (K : PySem.W.Frag) : Sp := fun vs H Q _ => ∃ (p : Addr) (ws : List Str), vs = [.ref p] ∧ SqL K H p (ws.map V.str) ∧ ws.length < 2 ^ 20 ∧ (∀ z ∈ ws, z.length ≤ sizeLine) ∧ ∀ H' v, Same H H' → ActsLR H H' v (actsIn ws) → Q v H'
theorem cl_acts (T : Txt w K mg) (C__law_digit : Cl P w K mg base CX0 1 "_law_digit" spDigit) : Cl P w K mg base CX0 2 "_law_acts" (spActs K) := by
  refine cl_def T (i := 62) (j := 38) rfl (by decide +kernel) scActs (fun _ _ _ _ _ _ us hl => match us, hl with | [_], _ => rfl) (fun vs H Q E h => ?_) (fun cdv A outer s H vs Q E hr h => ?_)
  · obtain ⟨p, ws, rfl, _⟩ := h
    rfl
  · obtain ⟨p, ws, rfl, hp, hn, hz, k⟩ := h
    refine ⟨_, (pss_cons (ps_par (i := 1) (j := 2) rfl scActs.nd rfl rfl (by decide) rfl rfl (pa_cons (pe_lst pa_nil) (pa_cons pe_int pa_nil)) (by rfl))
      (pss_cons (ps_while PassesOwn.never (pt_cmpR op_lt (pv 2) (pe_callB call_len_seq (by rfl) (fr T "len") boot_len (pa_cons (pv 0) pa_nil)) (nomark _)) (pss_one (ps_if (pt_cmpR op_eq (pe_ix ix_list (pv 0) (pv 2) (fun _ _ => rfl)) pe_str (nomark _)) (pss_cons (ps_expr (pe_bm PySem.F.plainAttrs_list PySem.F.slot_list_append PySem.F.type_list_append mt_append (pv 1) (pa_cons (pe_tup (pa_cons pe_str pa_nil)) pa_nil)))
      (pss_one (ps_set (i := 2) scActs.nd rfl (by first | exact Or.inl rfl | exact Or.inr rfl) (pe_op op_add (pv 2) pe_int)))) (pss_one (ps_if (PW.pt (pw_and (pt_cmpR op_in_seq (pe_ix ix_list (pv 0) (pv 2) (fun _ _ => rfl)) (pe_tup (pa_cons pe_str (pa_cons pe_str (pa_cons pe_str pa_nil)))) (by rfl)) (pw_and (pt_cmpR op_lt (pe_op op_add (pv 2) pe_int) (pe_callB call_len_seq (by rfl) (fr T "len") boot_len (pa_cons (pv 0) pa_nil)) (nomark _)) (pw_and1 (pt_val (pe_cl C__law_digit hr (by decide) pass0 rfl (pa_cons (pe_ix ix_list (pv 0) (pe_op op_add (pv 2) pe_int) (fun _ _ => rfl)) pa_nil))))))) (pss_cons (ps_expr (pe_bm PySem.F.plainAttrs_list PySem.F.slot_list_append PySem.F.type_list_append mt_append (pv 1) (pa_cons (pe_tup (pa_cons (pe_ix ix_list (pv 0) (pv 2) (fun _ _ => rfl)) (pa_cons (pe_callTy call_int_str (by rfl) (fr T "int") PyProof.Rows.boot_int (pa_cons (pe_ix ix_list (pv 0) (pe_op op_add (pv 2) pe_int) (fun _ _ => rfl)) pa_nil)) pa_nil))) pa_nil)))
      (pss_one (ps_set (i := 2) scActs.nd rfl (by first | exact Or.inl rfl | exact Or.inr rfl) (pe_op op_add (pv 2) pe_int)))) (pss_one (ps_ret pe_non)))))))
      (pss_one (ps_ret (pv 1))))), ?_⟩
    refine ⟨Nat.zero_le _, fun D hD => ⟨_, _, rfl, ?_⟩⟩
    refine ⟨fun m σ H1 => ∃ (j : Nat) (as : List Act) (vs : List V), m = ws.length - j ∧ σ = [some (.ref p), some (.ref D), some (.int j)] ∧ j ≤ ws.length ∧ Same H H1 ∧ H1 D = some (.lst vs) ∧ Paired (ActAt H1) vs as ∧ vs.length ≤ j ∧ actsIn ws = (actsIn (ws.drop j)).map (as ++ ·), ⟨_, 0, [], [], rfl, rfl, Nat.zero_le _, Same.new hD, upd_same, .nil, Nat.le_refl _, ?_⟩, ?_⟩
    · rw [List.drop_zero]
      cases actsIn ws <;> rfl
    rintro m σ H1 ⟨j, as, vs, rfl, rfl, hj, s1, hd, pr, hv, ea⟩
    refine ⟨_, rfl, _, rfl, _, _, rfl, .inl (s1.seq hp), _, _, rfl, rfl, _, rfl, ?_⟩
    rw [List.length_map]
    by_cases hlt : j < ws.length
    · rw [decide_eq_true (show (j : Int) < (ws.length : Int) by omega)]
      refine iteT ?_
      refine ⟨fun σ' H' => ∃ (j' : Nat) (as : List Act) (vs : List V), j < j' ∧ σ' = [some (.ref p), some (.ref D), some (.int j')] ∧ j' ≤ ws.length ∧ Same H H' ∧ H' D = some (.lst vs) ∧ Paired (ActAt H') vs as ∧ vs.length ≤ j' ∧ actsIn ws = (actsIn (ws.drop j')).map (as ++ ·), ?_, ?_⟩
      · rintro σ' H' ⟨j', as', vs', h1, h2, h3, h4⟩
        exact ⟨ws.length - j', by omega, j', as', vs', rfl, h2, h3, h4⟩
      · have e0 : ws[j]? = some ws[j] := List.getElem?_eq_getElem hlt
        have ed : ws.drop j = ws[j] :: ws.drop (j + 1) := List.drop_eq_getElem_cons hlt
        have sl : 2 ^ 20 < sizeLine := by decide +kernel
        have add : ∀ (H2 : Hp) (q : Addr) (a : Act), Same H1 H2 → H2 q = none → (upd H2 q (.tup (actV a))) D = some (.lst vs) ∧ Same H (upd (upd H2 q (.tup (actV a))) D (.lst (vs ++ [.ref q]))) ∧ Paired (ActAt (upd (upd H2 q (.tup (actV a))) D (.lst (vs ++ [.ref q])))) (vs ++ [.ref q]) (as ++ [a]) := by
          intro H2 q a s12 hq
          have hd' := s12 D _ hd
          have hne : q ≠ D := fun z => by rw [z, hd'] at hq; cases hq
          refine ⟨by rw [upd_ne (Ne.symm hne)]; exact hd', ?_, ?_⟩
          · intro b o hb
            have h1 := s12 b o (s1 b o hb)
            rw [upd_ne (ne_of_none hb hD), upd_ne (ne_of_none h1 hq)]
            exact h1
          · have kt : Kt H1 (upd (upd H2 q (.tup (actV a))) D (.lst (vs ++ [.ref q]))) := by
              intro b xs hb
              have hb' := s12 b _ hb
              rw [upd_ne (ne_of hb' hd' (by intro z; cases z)), upd_ne (ne_of_none hb' hq)]
              exact hb'
            exact Paired.snoc (paired_mono (fun _ _ f => f.mono kt) pr) ⟨q, rfl, by rw [upd_ne hne]; exact upd_same⟩
        have at0 : atI (ws.map V.str) (j : Int) = some (.str ws[j]) := atI_nat (by rw [List.getElem?_map, e0] <;> rfl)
        refine ⟨_, rfl, _, rfl, _, _, _, _, rfl, rfl, s1.seq hp, at0, rfl, _, rfl, ?_⟩
        by_cases hr1 : ws[j] = sRaise
        · have e : decide (V.str ws[j] = V.str "raise") = true := decide_eq_true (by rw [hr1])
          show if decide (V.str ws[j] = V.str "raise") = true then _ else _
          rw [e]
          refine iteT ?_
          refine ⟨_, rfl, .inl ⟨rfl, _, SqL.of hd⟩, by decide, fun q hq => ?_⟩
          obtain ⟨a1, a2, a3⟩ := add H1 q .raise (Same.refl _) hq
          refine ⟨_, _, _, rfl, rfl, a1, by omega, ?_⟩
          refine ⟨_, rfl, _, _, rfl, rfl, ?_⟩
          refine ⟨j + 1, as ++ [Act.raise], vs ++ [V.ref q], by omega, by rfl, by omega, a2, upd_same, a3, by simp; omega, ?_⟩
          rw [ea, ed, hr1, actsIn_raise, Option.map_map]
          congr 1
          funext x
          simp
        · have e : decide (V.str ws[j] = V.str "raise") = false := decide_eq_false (fun z => hr1 (by injection z))
          show if decide (V.str ws[j] = V.str "raise") = true then _ else _
          rw [e]
          refine iteF ?_
          refine ⟨_, rfl, _, rfl, _, _, _, _, rfl, rfl, s1.seq hp, at0, ?_⟩
          have none_of : ∀ H', Same H H' → actsIn (ws.drop j) = none → Q .non H' := by
            intro H' s' e1
            refine k H' .non s' ?_
            rw [ea, e1]
            rfl
          refine ⟨by decide, fun q hq => ?_⟩
          refine ⟨_, _, rfl, .inr (SqT.of upd_same), rfl, by decide +kernel, _, rfl, ?_⟩
          show if inV (.str ws[j]) [.str "add", .str "cut", .str "emit"] = true then _ else _
          rw [inV_w3]
          have s2 : Same H (upd H1 q (.tup [.str "add", .str "cut", .str "emit"])) := s1.trans (Same.new hq)
          have hd2 : (upd H1 q (.tup [.str "add", .str "cut", .str "emit"])) D = some (.lst vs) := Same.new hq D _ hd
          cases ew : w3 ws[j] with
          | none =>
            refine iteF ?_
            refine none_of _ s2 ?_
            rw [ed]
            exact actsIn_bad hr1 (.inl ew)
          | some wd =>
            refine iteT ?_
            refine ⟨_, rfl, _, _, rfl, rfl, _, rfl, _, _, rfl, .inl (s2.seq hp), _, _, rfl, rfl, _, rfl, ?_⟩
            rw [List.length_map]
            by_cases hlt2 : j + 1 < ws.length
            · rw [decide_eq_true (show (j : Int) + 1 < (ws.length : Int) by omega)]
              refine iteT ?_
              have e2 : ws[j + 1]? = some ws[j + 1] := List.getElem?_eq_getElem hlt2
              have ed2 : ws.drop (j + 1) = ws[j + 1] :: ws.drop (j + 2) := List.drop_eq_getElem_cons hlt2
              have at1 : atI (ws.map V.str) ((j : Int) + 1) = some (.str ws[j + 1]) := atI_nat (j := j + 1) (by rw [List.getElem?_map, e2] <;> rfl)
              refine ⟨_, rfl, _, rfl, _, _, rfl, rfl, _, _, _, _, rfl, rfl, s2.seq hp, at1, _, rfl, hz _ (List.getElem_mem hlt2), ?_⟩
              refine ⟨_, rfl, ?_⟩
              cases en : numIn ws[j + 1] with
              | none =>
                refine iteF ?_
                refine none_of _ s2 ?_
                rw [ed, ed2]
                exact actsIn_bad hr1 (.inr (.inr ⟨_, _, rfl, en⟩))
              | some n =>
                refine iteT ?_
                have hw1 : (ws[j + 1]).length = 1 := by
                  by_cases z : (ws[j + 1]).length = 1
                  · exact z
                  · rw [numIn_len z] at en
                    cases en
                have hit : PySem.intText? ws[j + 1] = some (n : Int) := by
                  obtain ⟨c, hc⟩ := one_sign hw1
                  rw [hc] at en ⊢
                  exact int_sign en
                refine ⟨_, rfl, .inl ⟨rfl, _, SqL.of hd2⟩, ?_⟩
                refine ⟨_, rfl, _, rfl, _, _, _, _, rfl, rfl, s2.seq hp, at0, _, rfl, _, rfl, _, _, rfl, rfl, _, _, _, _, rfl, rfl, s2.seq hp, at1, _, (n : Int), rfl, hit, by rw [hw1]; decide, ?_⟩
                refine ⟨(by show 2 ≤ sizeLine; decide), fun q2 hq2 => ?_⟩
                obtain ⟨a1, a2, a3⟩ := add _ q2 (.num wd n) (Same.new hq) hq2
                rw [w3_some ew]
                refine ⟨_, _, _, rfl, rfl, a1, by omega, ?_⟩
                refine ⟨_, rfl, _, _, rfl, rfl, ?_⟩
                refine ⟨j + 2, as ++ [Act.num wd n], vs ++ [V.ref q2], by omega, by rfl, by omega, a2, upd_same, a3, by simp; omega, ?_⟩
                rw [ea, ed, ed2, actsIn_num ew en, Option.map_map]
                congr 1
                funext x
                simp
            · rw [decide_eq_false (show ¬ (j : Int) + 1 < (ws.length : Int) by omega)]
              refine iteF ?_
              refine none_of _ s2 ?_
              rw [ed]
              exact actsIn_bad hr1 (.inr (.inl (List.drop_eq_nil_of_le (by omega))))
    · rw [decide_eq_false (show ¬ (j : Int) < (ws.length : Int) by omega)]
      refine iteF ?_
      have ej : j = ws.length := by omega
      subst ej
      rw [List.drop_length] at ea
      refine ⟨_, rfl, k _ _ s1 ?_⟩
      rw [ea]
      show ∃ p vs, _ ∧ _ ∧ _ ∧ Paired _ vs (as ++ [])
      rw [List.append_nil]
      exact ⟨D, vs, rfl, hD, hd, pr⟩
end K5
set_option Elab.async false
set_option linter.all false
set_option maxRecDepth 100000
set_option maxHeartbeats 4000000
namespace K5
open PySem PySem.Spec PyProof.Rows L2
variable {P : Program} {w : World} {K : PySem.W.Frag} {mg : Str → Option Value} {base : Heap}
/-! ### _law_deeds -/
def deedsOf (w : W3) (n : Nat) : List Deed := (List.range n).map fun i => (w, i)
theorem allDeeds_eq (ev many : Nat) : allDeeds ev many = (deedsOf .add many ++ deedsOf .cut many) ++ deedsOf .emit ev := rfl
theorem deeds_lc {w : W3} {s : Nat} {n : Nat} {σ : L2.St} {H1 : Hp} {D : Addr} {Qd : Hp → Prop} (hD : H1 D = none) (hn : n ≤ 100) (hs : s < σ.length) (h : ∀ H' xs, Same H1 H' → H' D = some (.lst xs) → Paired (DeedAt H') xs (deedsOf w n) → Qd H') :
    ∃ W : Nat → Nat → Hp → Prop, (∃ m, W 0 m (upd H1 D (.lst []))) ∧ ∀ i m H, W i m H →
      ((Itr 0 n).stop i H ∧ Qd H) ∨ ((Itr 0 n).go i H ∧ ∃ Nx : Hp → Prop, (∀ H', Nx H' → ∃ m', m' < m ∧ W (i + 1) m' H') ∧ ∀ x H', (Itr 0 n).yld i H x H' → gName s x (wipe σ [s]) H' fun σ2 H2 => wipe σ2 [s] = wipe σ [s] ∧ tYes σ2 H2 fun b H3 =>
        if b = true then tTup (tCons (tC (.str w.s)) (tCons (tVar s) tNil)) σ2 H3 fun y H4 => ∃ acc, H4 D = some (.lst acc) ∧ acc.length < sizeLine ∧ Nx (upd H4 D (.lst (acc ++ [y]))) else Nx H3) := by
  have sl : 200 ≤ sizeLine := by decide +kernel
  refine lc_range (n := n) (fun i H' => Same H1 H' ∧ ∃ xs, H' D = some (.lst xs) ∧ Paired (DeedAt H') xs (deedsOf w i)) ⟨Same.new hD, [], upd_same, .nil⟩ (fun i H hi q => ?_) (fun H q => ?_)
  · obtain ⟨s1, xs, hx, pr⟩ := q
    have hsl : s < (wipe σ [s]).length := by rw [wipe_length]; exact hs
    refine ⟨?_, ?_⟩
    · show ((σ.set s none).set s _).set s none = σ.set s none
      rw [List.set_set, List.set_set]
    · simp only [tYes, if_true]
      refine ⟨_, List.getElem?_set_self hsl, by show 2 ≤ sizeLine; omega, fun q hq => ?_⟩
      have hqD : q ≠ D := fun z => by rw [z, hx] at hq; cases hq
      have hl := Paired.length pr
      have hl2 : (deedsOf w i).length = i := by unfold deedsOf; simp
      refine ⟨xs, by rw [upd_ne (Ne.symm hqD)]; exact hx, by omega, ?_, xs ++ [.ref q], upd_same, ?_⟩
      · intro z o hz
        rw [upd_ne (ne_of_none hz hD), upd_ne (ne_of_none (s1 _ _ hz) hq)]
        exact s1 _ _ hz
      · have e : deedsOf w (i + 1) = deedsOf w i ++ [(w, i)] := by
          unfold deedsOf
          rw [List.range_succ, List.map_append]
          rfl
        have kt : Kt H (upd (upd H q (.tup [.str w.s, .int (0 + (i : Int))])) D (.lst (xs ++ [.ref q]))) := by
          intro b ys hb
          rw [upd_ne (ne_of hb hx (by intro z; cases z)), upd_ne (ne_of_none hb hq)]
          exact hb
        rw [e]
        refine Paired.snoc (paired_mono (fun _ _ f => DeedAt.mono kt f) pr) ⟨q, rfl, ?_⟩
        rw [upd_ne hqD, upd_same, Int.zero_add]
  · obtain ⟨s1, xs, hx, pr⟩ := q
    exact h _ _ s1 hx pr
theorem scDeeds : FnScope ["_law_plan_here", "_law_found", "_law_number", "_law_event"] ["_law_plan_here"] (defScope sDeeds) := ⟨rfl, rfl, rfl, by decide +kernel, rfl, by decide +kernel, by decide +kernel⟩
def spDeeds : Sp := fun vs H Q _ => ∃ (v : V) (h : HallD), vs = [v] ∧ PlanAt H v h ∧ ∀ H' p xs, Same H H' → H p = none → H' p = some (.lst xs) → Paired (DeedAt H') xs (allDeeds h.events h.kinds.length) → Q (.ref p) H'
theorem cl_deeds (T : Txt w K mg) : Cl P w K mg base CX0 1 "_law_deeds" spDeeds := by
  refine cl_def T (i := 56) (j := 33) rfl (by decide +kernel) scDeeds (fun _ _ _ _ _ _ us hl => match us, hl with | [_], _ => rfl) (fun vs H Q E h => ?_) (fun cdv A outer s H vs Q E hr h => ?_)
  · obtain ⟨v, h, rfl, _⟩ := h
    rfl
  · obtain ⟨v, h, rfl, ha, k⟩ := h
    refine ⟨_, (pss_cons (ps_set (i := 1) scDeeds.nd rfl (by first | exact Or.inl rfl | exact Or.inr rfl) (pe_op op_cat (pe_lc (own := [("_law_number", 2)]) rfl scDeeds.nd (pi_range1 rfl (fr T "range") (pa_cons (pe_callB call_len_seq (by rfl) (fr T "len") boot_len (pa_cons (pe_ix ix_tup (pv 0) pe_int (fun _ _ => rfl)) pa_nil)) pa_nil)) (blkOk_by (own := [("_law_number", 2)]) (N := ["_law_plan_here", "_law_found", "_law_number", "_law_event"]) (sc := defScope sDeeds) (by decide +kernel)) (fun _ _ _ _ _ => (pg_name (i := 2) scDeeds.nd rfl (by first | exact Or.inl rfl | exact Or.inr rfl))) (fun _ _ _ _ _ => pts_nil) (fun _ _ _ _ _ => (pe_tup (pa_cons pe_str (pa_cons (pv 2) pa_nil))))) (pe_lc (own := [("_law_number", 2)]) rfl scDeeds.nd (pi_range1 rfl (fr T "range") (pa_cons (pe_callB call_len_seq (by rfl) (fr T "len") boot_len (pa_cons (pe_ix ix_tup (pv 0) pe_int (fun _ _ => rfl)) pa_nil)) pa_nil)) (blkOk_by (own := [("_law_number", 2)]) (N := ["_law_plan_here", "_law_found", "_law_number", "_law_event"]) (sc := defScope sDeeds) (by decide +kernel)) (fun _ _ _ _ _ => (pg_name (i := 2) scDeeds.nd rfl (by first | exact Or.inl rfl | exact Or.inr rfl))) (fun _ _ _ _ _ => pts_nil) (fun _ _ _ _ _ => (pe_tup (pa_cons pe_str (pa_cons (pv 2) pa_nil)))))))
      (pss_one (ps_ret (pe_op op_cat (pv 1) (pe_lc (own := [("_law_event", 3)]) rfl scDeeds.nd (pi_range1 rfl (fr T "range") (pa_cons (pe_ix ix_tup (pv 0) pe_int (fun _ _ => rfl)) pa_nil)) (blkOk_by (own := [("_law_event", 3)]) (N := ["_law_plan_here", "_law_found", "_law_number", "_law_event"]) (sc := defScope sDeeds) (by decide +kernel)) (fun _ _ _ _ _ => (pg_name (i := 3) scDeeds.nd rfl (by first | exact Or.inl rfl | exact Or.inr rfl))) (fun _ _ _ _ _ => pts_nil) (fun _ _ _ _ _ => (pe_tup (pa_cons pe_str (pa_cons (pv 3) pa_nil))))))))), ?_⟩
    obtain ⟨ev, ks, hs⟩ := h
    obtain ⟨p, d, tv, rfl, hp, hkk, hd, ok⟩ := id ha
    obtain ⟨tp, kvs, rfl, htp, pk⟩ := hkk
    have lk : kvs.length = ks.length := Paired.length pk
    have h4 : ks.length ≤ 4 := (kindsOk_iff ok.ks).l4
    have he : ev ≤ 3 := ok.e3
    have sl : 200 ≤ sizeLine := by decide +kernel
    have a0 : atI [V.int ev, V.ref tp, V.ref d] (0 : Int) = some (.int ev) := atI_nat (j := 0) rfl
    have a1 : atI [V.int ev, V.ref tp, V.ref d] (1 : Int) = some (.ref tp) := atI_nat (j := 1) rfl
    have ld : ∀ w n, (deedsOf w n).length = n := fun w n => by unfold deedsOf; simp
    refine ⟨_, rfl, _, _, _, _, rfl, rfl, SqT.of hp, a1, _, _, rfl, .inr (SqT.of htp), _, rfl, by omega, by omega, fun D1 hD1 => ?_⟩
    rw [show ((kvs.length : Nat) : Int).toNat = ks.length by omega]
    refine deeds_lc (w := .add) hD1 (by omega) (show 2 < 4 by decide) fun H1 xs1 s1 hx1 pr1 => ?_
    refine ⟨_, rfl, _, _, _, _, rfl, rfl, SqT.of (s1 _ _ hp), a1, _, _, rfl, .inr (SqT.of (s1 _ _ htp)), _, rfl, by omega, by omega, fun D2 hD2 => ?_⟩
    rw [show ((kvs.length : Nat) : Int).toNat = ks.length by omega]
    refine deeds_lc (w := .cut) hD2 (by omega) (show 2 < 4 by decide) fun H2 xs2 s2 hx2 pr2 => ?_
    have l1 := Paired.length pr1
    have l2 := Paired.length pr2
    rw [ld] at l1 l2
    refine ⟨_, _, _, _, rfl, rfl, s2 _ _ hx1, hx2, by omega, fun D3 hD3 => ?_⟩
    have s3 : Same H (upd H2 D3 (.lst (xs1 ++ xs2))) := (s1.trans s2).trans (Same.new hD3)
    have pr3 : Paired (DeedAt (upd H2 D3 (.lst (xs1 ++ xs2)))) (xs1 ++ xs2) (deedsOf .add ks.length ++ deedsOf .cut ks.length) :=
      paired_app (paired_mono (fun _ _ f => DeedAt.mono (Kt.of (s2.trans (Same.new hD3))) f) pr1) (paired_mono (fun _ _ f => DeedAt.mono (Kt.of (Same.new hD3)) f) pr2)
    have hx3 : (upd H2 D3 (.lst (xs1 ++ xs2))) D3 = some (.lst (xs1 ++ xs2)) := upd_same
    generalize upd H2 D3 (.lst (xs1 ++ xs2)) = H3 at s3 pr3 hx3 ⊢
    refine ⟨_, rfl, _, rfl, _, _, _, _, rfl, rfl, SqT.of (s3 _ _ hp), a0, _, rfl, by omega, by omega, fun D4 hD4 => ?_⟩
    rw [show ((ev : Nat) : Int).toNat = ev by omega]
    refine deeds_lc (w := .emit) hD4 (by omega) (show 3 < 4 by decide) fun H4 xs4 s4 hx4 pr4 => ?_
    have l4 := Paired.length pr4
    rw [ld] at l4
    refine ⟨_, _, _, _, rfl, rfl, s4 _ _ hx3, hx4, by rw [List.length_append]; omega, fun D5 hD5 => ?_⟩
    have s5 := (s3.trans s4).trans (Same.new (o := .lst (xs1 ++ xs2 ++ xs4)) hD5)
    refine k _ D5 _ s5 (Same.none (s3.trans s4) hD5) upd_same ?_
    rw [show (HallD.mk ev ks hs).kinds = ks from rfl, show (HallD.mk ev ks hs).events = ev from rfl, allDeeds_eq]
    exact paired_app (paired_mono (fun _ _ f => DeedAt.mono (Kt.of (s4.trans (Same.new hD5))) f) pr3) (paired_mono (fun _ _ f => DeedAt.mono (Kt.of (Same.new hD5)) f) pr4)
end K5
set_option Elab.async false
set_option linter.all false
set_option pp.maxSteps 1500
set_option maxRecDepth 100000
set_option maxHeartbeats 4000000
namespace K5
open PySem PySem.Spec PyProof.Rows L2
variable {P : Program} {w : World} {K : PySem.W.Frag} {mg : Str → Option Value} {base : Heap}
/-! ### _law_read -/
def ValsAt (H : Hp) (d : Addr) : Prop := ∃ kvs, H d = some (.dK kvs) ∧ ∀ i < 7, ∃ l, valV kvs (Sum.inr (names.getD i NO)) = some (.ref l) ∧ H l = some (.lst ((vals.getD i []).map V.str))
theorem ValsAt.mono {H H' : Hp} {d : Addr} (s : Same H H') (h : ValsAt H d) : ValsAt H' d := by
  obtain ⟨kvs, h1, h2⟩ := h
  exact ⟨kvs, s _ _ h1, fun i hi => let ⟨l, a, b⟩ := h2 i hi; ⟨l, a, s _ _ b⟩⟩
def VE (H : Hp) (kv : Key × V) (p : Str × List Str) : Prop := kv.1 = Sum.inr p.1 ∧ ∃ l, kv.2 = .ref l ∧ H l = some (.lst (p.2.map V.str))
def VL (H : Hp) (d : Addr) (spec : List (Str × List Str)) : Prop := ∃ kvs, H d = some (.dK kvs) ∧ Paired (VE H) kvs spec
theorem paired_imp {α β : Type} {F G : α → β → Prop} (h : ∀ a b, F a b → G a b) : ∀ {xs : List α} {ys : List β}, Paired F xs ys → Paired G xs ys
  | _, _, .nil => .nil
  | _, _, .cons a b => .cons (h _ _ a) (paired_imp h b)
theorem VL.mono {H H' : Hp} {d : Addr} {spec : List (Str × List Str)} (s : Same H H') (h : VL H d spec) : VL H' d spec := by
  obtain ⟨kvs, h1, h2⟩ := h
  exact ⟨kvs, s _ _ h1, paired_imp (fun _ _ z => ⟨z.1, let ⟨l, a, b⟩ := z.2; ⟨l, a, s _ _ b⟩⟩) h2⟩
theorem VE.keys {H : Hp} : ∀ {kvs : List (Key × V)} {spec : List (Str × List Str)}, Paired (VE H) kvs spec → kvs.map (·.1) = spec.map fun p => Sum.inr p.1
  | _, _, .nil => rfl
  | _, _, .cons a b => by rw [List.map_cons, List.map_cons, a.1, VE.keys b]
/-- d[n] = a list -/
theorem VL.put {H : Hp} {d l : Addr} {spec : List (Str × List Str)} {n : Str} {ws : List Str} (h : VL H d spec) (hl : H l = some (.lst (ws.map V.str))) (hn : n ∉ spec.map (·.1)) (hz : spec.length < 16) :
    ∃ H', DPut H d (.str n) (.ref l) H' ∧ VL H' d (spec ++ [(n, ws)]) ∧ ∀ b o, b ≠ d → H b = some o → H' b = some o := by
  obtain ⟨kvs, h1, h2⟩ := h
  have sl : 16 ≤ sizeLine := by decide +kernel
  have hlen := Paired.length h2
  refine ⟨_, DPut.k (k := Sum.inr n) h1 (by omega), ⟨_, upd_same, ?_⟩, fun b o hb ho => by rw [upd_ne hb]; exact ho⟩
  have fresh : (Sum.inr n : Key) ∉ kvs.map (·.1) := by
    rw [VE.keys h2]
    intro hm
    obtain ⟨p, hp, e⟩ := List.mem_map.mp hm
    injection e with e
    exact hn (List.mem_map.mpr ⟨p, hp, e⟩)
  rw [putK_new _ (valV_fresh fresh)]
  have up : ∀ {b : Addr} {xs : List V}, H b = some (.lst xs) → (upd H d (.dK (kvs ++ [(Sum.inr n, .ref l)]))) b = some (.lst xs) := fun hb => by
    rw [upd_ne (ne_of hb h1 (by intro z; cases z))]
    exact hb
  exact paired_app (paired_imp (fun _ _ z => ⟨z.1, let ⟨l, a, b⟩ := z.2; ⟨l, a, up b⟩⟩) h2) (.cons ⟨rfl, l, rfl, up hl⟩ .nil)
theorem VL.vals {H : Hp} {d : Addr} (h : VL H d (names.zip vals)) : ValsAt H d := by
  obtain ⟨kvs, h1, h2⟩ := h
  refine ⟨kvs, h1, ?_⟩
  have h3 : Paired (VE H) kvs [(("walk" : Str), (["copy", "fixed", "live"] : List Str)), ("check", ["no", "yes"]), ("errors", ["go", "late", "stop"]), ("once", ["after", "before", "end"]), ("same", ["again", "move", "skip"]), ("put", ["first", "last"]), ("nest", ["later", "now"])] := h2
  cases h3 with
  | cons e0 r => cases r with
    | cons e1 r => cases r with
      | cons e2 r => cases r with
        | cons e3 r => cases r with
          | cons e4 r => cases r with
            | cons e5 r => cases r with
              | cons e6 r => cases r with
                | nil =>
                  rename_i k0 k1 k2 k3 k4 k5 k6
                  obtain ⟨a0, b0⟩ := k0
                  obtain ⟨a1, b1⟩ := k1
                  obtain ⟨a2, b2⟩ := k2
                  obtain ⟨a3, b3⟩ := k3
                  obtain ⟨a4, b4⟩ := k4
                  obtain ⟨a5, b5⟩ := k5
                  obtain ⟨a6, b6⟩ := k6
                  obtain ⟨f0, l0, g0, i0⟩ := e0
                  obtain ⟨f1, l1, g1, i1⟩ := e1
                  obtain ⟨f2, l2, g2, i2⟩ := e2
                  obtain ⟨f3, l3, g3, i3⟩ := e3
                  obtain ⟨f4, l4, g4, i4⟩ := e4
                  obtain ⟨f5, l5, g5, i5⟩ := e5
                  obtain ⟨f6, l6, g6, i6⟩ := e6
                  dsimp only at f0 f1 f2 f3 f4 f5 f6 g0 g1 g2 g3 g4 g5 g6
                  subst f0 f1 f2 f3 f4 f5 f6 g0 g1 g2 g3 g4 g5 g6
                  intro i hi
                  match i, hi with
                  | 0, _ => exact ⟨l0, rfl, i0⟩
                  | 1, _ => exact ⟨l1, rfl, i1⟩
                  | 2, _ => exact ⟨l2, rfl, i2⟩
                  | 3, _ => exact ⟨l3, rfl, i3⟩
                  | 4, _ => exact ⟨l4, rfl, i4⟩
                  | 5, _ => exact ⟨l5, rfl, i5⟩
                  | 6, _ => exact ⟨l6, rfl, i6⟩
/-- a list of acts, not the one at F -/
def ActsF (F : Addr) (H : Hp) (v : V) (as : List Act) : Prop := ∃ p vs, v = .ref p ∧ p ≠ F ∧ H p = some (.lst vs) ∧ Paired (ActAt H) vs as
theorem ActsF.but {F : Addr} {H H' : Hp} {v : V} {as : List Act} (b : But F H H') (k : Kt H H') (h : ActsF F H v as) : ActsF F H' v as := by
  obtain ⟨p, vs, e, n, h1, h2⟩ := h
  exact ⟨p, vs, e, n, b _ _ n h1, paired_mono (fun _ _ f => ActAt.mono k f) h2⟩
theorem lawRow_ne2 {ev i : Nat} {ws : List Str} (hi : i < 8) (h : ws.length ≠ 2) : lawRowOk ev i ws = false := by
  unfold lawRowOk
  by_cases h0 : i = 0
  · rw [if_pos h0]
    match ws, h with
    | [], _ => rfl
    | [_], _ => rfl
    | [_, _], h => exact absurd rfl h
    | _ :: _ :: _ :: _, _ => rfl
  · rw [if_neg h0, if_pos hi]
    match ws, h with
    | [], _ => rfl
    | [_], _ => rfl
    | [_, _], h => exact absurd rfl h
    | _ :: _ :: _ :: _, _ => rfl
theorem lawRow_ge {ev i : Nat} {ws : List Str} (hi : ¬ i < 8) : lawRowOk ev i ws = (match ws with
    | k :: e :: o :: r => (actsIn r).isSome && (decide (k = sKind) && (decide (o = sOnce ∨ o = sAlways) && (!decide (i = 12) && (match numIn e with | some n => decide (n < ev) | none => false))))
    | _ => false) := by
  unfold lawRowOk
  rw [if_neg (by omega), if_neg hi] <;> rfl
theorem two_of {ws : List Str} (h : ws.length = 2) : ∃ a b, ws = [a, b] := by
  match ws, h with
  | [a, b], _ => exact ⟨a, b, rfl⟩
theorem scRead : FnScope ["_law_text", "_law_lines_here", "_law_values", "_law_events", "_law_kinds", "_law_row", "_law_line_here", "_law_words", "_law_name", "_law_acts_here", "_law_act_here"] ["_law_text"] (defScope sRead) := ⟨rfl, rfl, rfl, by decide +kernel, rfl, by decide +kernel, by decide +kernel⟩
def spRead : Sp := fun vs H Q _ => ∃ (t : Str), vs = [.str t] ∧ t.length ≤ 1000000 ∧ ∀ H', Same H H' → Q (optI (lawRead t)) H'
theorem cl_read (T : Txt w K mg) (C__law_names : Cl P w K mg base CX0 1 "_law_names" spNames) (C__law_acts : Cl P w K mg base CX0 2 "_law_acts" (spActs K)) (C__law_digit : Cl P w K mg base CX0 1 "_law_digit" spDigit) : Cl P w K mg base CX0 3 "_law_read" spRead := by
  refine cl_def T (i := 63) (j := 39) rfl (by decide +kernel) scRead (fun _ _ _ _ _ _ us hl => match us, hl with | [_], _ => rfl) (fun vs H Q E h => ?_) (fun cdv A outer s H vs Q E hr h => ?_)
  · obtain ⟨t, rfl, _⟩ := h
    rfl
  · obtain ⟨t, rfl, ht, k⟩ := h
    have hu := hu_of hr
    refine ⟨_, (pss_cons (ps_par (i := 1) (j := 2) rfl scRead.nd rfl rfl (by decide) rfl rfl (pa_cons (pe_split (pv 0) pe_str) (pa_cons (pe_callTy (call_dictP rfl) (by rfl) (fr T "dict") PyProof.Rows.boot_dict (pa_cons (pe_lst (pa_cons (pe_tup (pa_cons pe_str (pa_cons (pe_lst (pa_cons pe_str (pa_cons pe_str (pa_cons pe_str pa_nil)))) pa_nil))) (pa_cons (pe_tup (pa_cons pe_str (pa_cons (pe_lst (pa_cons pe_str (pa_cons pe_str pa_nil))) pa_nil))) pa_nil))) pa_nil)) pa_nil)) (by rfl))
      (pss_cons (ps_asg (pe_tup (pa_cons (pe_lst (pa_cons pe_str (pa_cons pe_str (pa_cons pe_str pa_nil)))) (pa_cons (pe_lst (pa_cons pe_str (pa_cons pe_str (pa_cons pe_str pa_nil)))) pa_nil))) (pg_tup (by rfl) (pgs_cons (pg_sub (pv 2) pe_str (set_dict hu)) (pgs_cons (pg_sub (pv 2) pe_str (set_dict hu)) pgs_nil))))
      (pss_cons (ps_asg (pe_tup (pa_cons (pe_lst (pa_cons pe_str (pa_cons pe_str (pa_cons pe_str pa_nil)))) (pa_cons (pe_lst (pa_cons pe_str (pa_cons pe_str pa_nil))) (pa_cons (pe_lst (pa_cons pe_str (pa_cons pe_str pa_nil))) pa_nil)))) (pg_tup (by rfl) (pgs_cons (pg_sub (pv 2) pe_str (set_dict hu)) (pgs_cons (pg_sub (pv 2) pe_str (set_dict hu)) (pgs_cons (pg_sub (pv 2) pe_str (set_dict hu)) pgs_nil)))))
      (pss_cons (ps_par (i := 3) (j := 4) rfl scRead.nd rfl rfl (by decide) rfl rfl (pa_cons pe_int (pa_cons (pe_lst pa_nil) pa_nil)) (by rfl))
      (pss_cons (ps_for PassesOwn.never rfl (pi_enum (by rfl) (fr T "enumerate") (pa_cons (pe_slice sl_list (pv 1) po_none (po_some (pe_un un_neg pe_int))) pa_nil)) (pg_tup (by rfl) (pgs_cons (pg_name (i := 5) scRead.nd rfl (by first | exact Or.inl rfl | exact Or.inr rfl)) (pgs_cons (pg_name (i := 6) scRead.nd rfl (by first | exact Or.inl rfl | exact Or.inr rfl)) pgs_nil))) (pss_cons (ps_set (i := 7) scRead.nd rfl (by first | exact Or.inl rfl | exact Or.inr rfl) (pe_split (pv 6) pe_str))
      (pss_one (ps_if (pt_cmpR op_eq (pv 5) pe_int (nomark _)) (pss_cons (ps_if (PW.pt (pw_or (pt_cmpR op_ne (pe_callB call_len_seq (by rfl) (fr T "len") boot_len (pa_cons (pv 7) pa_nil)) pe_int (nomark _)) (pw_or (pt_cmpR op_ne (pe_ix ix_list (pv 7) pe_int (fun _ _ => rfl)) pe_str (nomark _)) (pw_or1 (pt_cmpR op_notIn_seq (pe_ix ix_list (pv 7) pe_int (fun _ _ => rfl)) (pe_tup (pa_cons pe_str (pa_cons pe_str (pa_cons pe_str pa_nil)))) (by rfl)))))) (pss_one (ps_ret (pv 5))) pss_nil)
      (pss_one (ps_set (i := 3) scRead.nd rfl (by first | exact Or.inl rfl | exact Or.inr rfl) (pe_callTy call_int_str (by rfl) (fr T "int") PyProof.Rows.boot_int (pa_cons (pe_ix ix_list (pv 7) pe_int (fun _ _ => rfl)) pa_nil))))) (pss_one (ps_if (pt_cmpR op_lt (pv 5) pe_int (nomark _)) (pss_cons (ps_set (i := 8) scRead.nd rfl (by first | exact Or.inl rfl | exact Or.inr rfl) (pe_ix ix_list (pe_cl0 C__law_names hr (by decide) pass0 rfl) (pe_op op_sub (pv 5) pe_int) (fun _ _ => rfl)))
      (pss_one (ps_if (PW.pt (pw_or (pt_cmpR op_ne (pe_callB call_len_seq (by rfl) (fr T "len") boot_len (pa_cons (pv 7) pa_nil)) pe_int (nomark _)) (pw_or (pt_cmpR op_ne (pe_ix ix_list (pv 7) pe_int (fun _ _ => rfl)) (pv 8) (nomark _)) (pw_or1 (pt_cmpR op_notIn_seq (pe_ix ix_list (pv 7) pe_int (fun _ _ => rfl)) (pe_dget hu (pv 2) (pv 8) (fun _ _ => rfl)) (by rfl)))))) (pss_one (ps_ret (pv 5))) pss_nil))) (pss_cons (ps_set (i := 9) scRead.nd rfl (by first | exact Or.inl rfl | exact Or.inr rfl) (pe_ifExp (pt_cmpR op_gt (pe_callB call_len_seq (by rfl) (fr T "len") boot_len (pa_cons (pv 7) pa_nil)) pe_int (nomark _)) (pe_cl C__law_acts hr (by decide) pass0 rfl (pa_cons (pe_slice sl_list (pv 7) (po_some pe_int) po_none) pa_nil)) pe_non))
      (pss_cons (ps_if (PW.pt (pw_or (pt_cmpR op_isN (pv 9) pe_non (nomark _)) (pw_or (pt_cmpR op_ne (pe_ix ix_list (pv 7) pe_int (fun _ _ => rfl)) pe_str (nomark _)) (pw_or (pt_cmpR op_notIn_seq (pe_ix ix_list (pv 7) pe_int (fun _ _ => rfl)) (pe_tup (pa_cons pe_str (pa_cons pe_str pa_nil))) (by rfl)) (pw_or1 (pt_cmpR op_eq (pe_callB call_len_seq (by rfl) (fr T "len") boot_len (pa_cons (pv 4) pa_nil)) pe_int (nomark _))))))) (pss_one (ps_ret (pv 5))) pss_nil)
      (pss_cons (ps_if (PW.pt (pw_or (pt_not (pt_val (pe_cl C__law_digit hr (by decide) pass0 rfl (pa_cons (pe_ix ix_list (pv 7) pe_int (fun _ _ => rfl)) pa_nil)))) (pw_or1 (pt_cmpR op_ge (pe_callTy call_int_str (by rfl) (fr T "int") PyProof.Rows.boot_int (pa_cons (pe_ix ix_list (pv 7) pe_int (fun _ _ => rfl)) pa_nil)) (pv 3) (nomark _))))) (pss_one (ps_ret (pv 5))) pss_nil)
      (pss_one (ps_expr (pe_bm PySem.F.plainAttrs_list PySem.F.slot_list_append PySem.F.type_list_append mt_append (pv 4) (pa_cons (pv 9) pa_nil)))))))))))))
      (pss_cons (ps_if (PW.pt (pw_or (pt_cmpR op_ne (pe_ix ix_list (pv 1) (pe_un un_neg pe_int) (fun _ _ => rfl)) pe_str (nomark _)) (pw_or1 (pt_cmpR op_lt (pe_callB call_len_seq (by rfl) (fr T "len") boot_len (pa_cons (pv 1) pa_nil)) pe_int (nomark _))))) (pss_one (ps_ret (pe_op op_sub (pe_callB call_len_seq (by rfl) (fr T "len") boot_len (pa_cons (pv 1) pa_nil)) pe_int))) pss_nil)
      (pss_cons (ps_for PassesOwn.never rfl (pi_list (pv 4)) (pg_name (i := 9) scRead.nd rfl (by first | exact Or.inl rfl | exact Or.inr rfl)) (pss_one (ps_for PassesOwn.never rfl (pi_list (pv 9)) (pg_name (i := 10) scRead.nd rfl (by first | exact Or.inl rfl | exact Or.inr rfl)) (pss_one (ps_if (PW.pt (pw_or (pt_cmpR op_gt (pe_callB call_len_seq (by rfl) (fr T "len") boot_len (pa_cons (pv 9) pa_nil)) pe_int (nomark _)) (pw_or1 (PW.pt (pw_and (pt_cmpR op_gt (pe_callB call_len_seq (by rfl) (fr T "len") boot_len (pa_cons (pv 10) pa_nil)) pe_int (nomark _)) (pw_and1 (pt_cmpR op_ge (pe_ix ix_tup (pv 10) pe_int (fun _ _ => rfl)) (pe_ifExp (pt_cmpR op_eq (pe_ix ix_tup (pv 10) pe_int (fun _ _ => rfl)) pe_str (nomark _)) (pv 3) (pe_callB call_len_seq (by rfl) (fr T "len") boot_len (pa_cons (pv 4) pa_nil))) (nomark _)))))))) (pss_one (ps_ret (pe_op op_sub (pe_callB call_len_seq (by rfl) (fr T "len") boot_len (pa_cons (pv 1) pa_nil)) pe_int))) pss_nil)))))
      (pss_one (ps_ret pe_non))))))))), ?_⟩
    have sl : sizeLine = 16777216 := sizeLine_eq
    have hsz : ∀ n, n ≤ 16 → n ≤ sizeLine := fun n h => Nat.le_trans h (by decide +kernel)
    refine ⟨_, rfl, ⟨_, rfl⟩, _, _, rfl, rfl, rfl, by omega, fun L hL => ?_⟩
    have s1 : Same H (upd H L (.lst ((Txt.split t NL).map V.str))) := Same.new hL
    have hL1 : (upd H L (.lst ((Txt.split t NL).map V.str))) L = some (.lst ((Txt.split t NL).map V.str)) := upd_same
    generalize upd H L (.lst ((Txt.split t NL).map V.str)) = H1 at s1 hL1 ⊢
    refine ⟨hsz 3 (by decide), fun l0 h0 => ?_⟩
    refine ⟨hsz 2 (by decide), fun p0 hp0 => ?_⟩
    refine ⟨hsz 2 (by decide), fun l1 h1 => ?_⟩
    refine ⟨hsz 2 (by decide), fun p1 hp1 => ?_⟩
    refine ⟨hsz 2 (by decide), fun l hl => ?_⟩
    have s2a : Same H1 (upd H1 l0 (.lst [.str "copy", .str "fixed", .str "live"])) := Same.new h0
    have x0 : (upd H1 l0 (.lst [.str "copy", .str "fixed", .str "live"])) l0 = some (.lst [.str "copy", .str "fixed", .str "live"]) := upd_same
    generalize upd H1 l0 (.lst [.str "copy", .str "fixed", .str "live"]) = G0 at *
    have s2b : Same G0 (upd G0 p0 (.tup [.str "walk", .ref l0])) := Same.new hp0
    have y0 : (upd G0 p0 (.tup [.str "walk", .ref l0])) p0 = some (.tup [.str "walk", .ref l0]) := upd_same
    generalize upd G0 p0 (.tup [.str "walk", .ref l0]) = G1 at *
    have s2c : Same G1 (upd G1 l1 (.lst [.str "no", .str "yes"])) := Same.new h1
    have x1 : (upd G1 l1 (.lst [.str "no", .str "yes"])) l1 = some (.lst [.str "no", .str "yes"]) := upd_same
    generalize upd G1 l1 (.lst [.str "no", .str "yes"]) = G2 at *
    have s2d : Same G2 (upd G2 p1 (.tup [.str "check", .ref l1])) := Same.new hp1
    have y1 : (upd G2 p1 (.tup [.str "check", .ref l1])) p1 = some (.tup [.str "check", .ref l1]) := upd_same
    generalize upd G2 p1 (.tup [.str "check", .ref l1]) = G3 at *
    have s2e : Same G3 (upd G3 l (.lst [.ref p0, .ref p1])) := Same.new hl
    have y2 : (upd G3 l (.lst [.ref p0, .ref p1])) l = some (.lst [.ref p0, .ref p1]) := upd_same
    generalize upd G3 l (.lst [.ref p0, .ref p1]) = G4 at *
    have sG : Same H1 G4 := s2a.trans (s2b.trans (s2c.trans (s2d.trans s2e)))
    refine ⟨l, [p0, p1], [(Sum.inr "walk", .ref l0), (Sum.inr "check", .ref l1)], rfl, SqL.of y2, .cons (SqT.of (s2e _ _ (s2d _ _ (s2c _ _ y0)))) (.cons (SqT.of (s2e _ _ y1)) .nil), fun d hd => ?_⟩
    have e2 : mergeK [] [((Sum.inr "walk" : Key), V.ref l0), (Sum.inr "check", V.ref l1)] = [((Sum.inr "walk" : Key), V.ref l0), (Sum.inr "check", V.ref l1)] := by rfl
    rw [e2]
    have hdH : H d = none := Same.none (s1.trans sG) hd
    have s5 : Same H (upd G4 d (.dK [(Sum.inr "walk", .ref l0), (Sum.inr "check", .ref l1)])) := (s1.trans sG).trans (Same.new hd)
    have hL5 : (upd G4 d (.dK [(Sum.inr "walk", .ref l0), (Sum.inr "check", .ref l1)])) L = some (.lst ((Txt.split t NL).map V.str)) := Same.new hd _ _ (sG _ _ hL1)
    have v5 : VL (upd G4 d (.dK [(Sum.inr "walk", .ref l0), (Sum.inr "check", .ref l1)])) d [("walk", ["copy", "fixed", "live"]), ("check", ["no", "yes"])] :=
      ⟨_, upd_same, .cons ⟨rfl, l0, rfl, Same.new hd _ _ (s2e _ _ (s2d _ _ (s2c _ _ (s2b _ _ x0))))⟩ (.cons ⟨rfl, l1, rfl, Same.new hd _ _ (s2e _ _ (s2d _ _ x1))⟩ .nil)⟩
    have dL : L ≠ d := fun z => by rw [← z, sG _ _ hL1] at hd; cases hd
    generalize upd G4 d (.dK [(Sum.inr "walk", .ref l0), (Sum.inr "check", .ref l1)]) = H5 at s5 hL5 v5 ⊢
    refine ⟨_, _, rfl, ?_⟩
    clear s2a s2b s2c s2d s2e x0 x1 y0 y1 y2 sG e2 h0 hp0 h1 hp1 hl hd
    -- errors, once
    refine ⟨hsz 3 (by decide), fun l2 h2 => ?_⟩
    have v6 := v5.mono (Same.new (o := .lst [.str "go", .str "late", .str "stop"]) h2)
    have s6 := s5.trans (Same.new (o := .lst [.str "go", .str "late", .str "stop"]) h2)
    have hL6 := Same.new (o := .lst [.str "go", .str "late", .str "stop"]) h2 _ _ hL5
    have x2 : (upd H5 l2 (.lst [.str "go", .str "late", .str "stop"])) l2 = some (.lst [.str "go", .str "late", .str "stop"]) := upd_same
    generalize upd H5 l2 (.lst [.str "go", .str "late", .str "stop"]) = H6 at v6 s6 hL6 x2 ⊢
    refine ⟨hsz 3 (by decide), fun l3 h3 => ?_⟩
    have sn7 := Same.new (o := .lst [.str "after", .str "before", .str "end"]) h3
    have x3 : (upd H6 l3 (.lst [.str "after", .str "before", .str "end"])) l3 = some (.lst [.str "after", .str "before", .str "end"]) := upd_same
    generalize upd H6 l3 (.lst [.str "after", .str "before", .str "end"]) = H7 at sn7 x3 ⊢
    refine ⟨hsz 2 (by decide), fun q1 hq1 => ?_⟩
    have sn8 := Same.new (o := .tup [.ref l2, .ref l3]) hq1
    have w8 : (upd H7 q1 (.tup [.ref l2, .ref l3])) q1 = some (.tup [.ref l2, .ref l3]) := upd_same
    generalize upd H7 q1 (.tup [.ref l2, .ref l3]) = H8 at sn8 w8 ⊢
    have sn68 := sn7.trans sn8
    obtain ⟨H9, put9, v9, k9⟩ := (v6.mono sn68).put (n := "errors") (ws := ["go", "late", "stop"]) (sn68 _ _ x2) (by decide +kernel) (by decide)
    obtain ⟨H10, put10, v10, k10⟩ := v9.put (n := "once") (ws := ["after", "before", "end"]) (k9 _ _ (by
      obtain ⟨kvs, h, _⟩ := v6
      exact ne_of (sn8 _ _ x3) (sn68 _ _ h) (by intro z; cases z)) (sn8 _ _ x3)) (by decide +kernel) (by decide)
    refine ⟨q1, _, rfl, SqT.of w8, rfl, _, _, rfl, _, rfl, _, _, rfl, put9, _, _, rfl, _, rfl, _, _, rfl, put10, rfl, ?_⟩
    have s10 : Same H H10 := fun z o hz => k10 _ _ (ne_of_none hz hdH) (k9 _ _ (ne_of_none hz hdH) (sn68 _ _ (s6 _ _ hz)))
    have hL10 := k10 _ _ dL (k9 _ _ dL (sn68 _ _ hL6))
    clear put9 put10 k9 k10 v9 sn68 sn8 sn7 x3 x2 w8 v6 s6 hL6 v5 s5 hL5 h2 h3 hq1
    -- same, put, nest
    refine ⟨hsz 3 (by decide), fun l4 h4 => ?_⟩
    have sn11 := Same.new (o := .lst [.str "again", .str "move", .str "skip"]) h4
    have x4 : (upd H10 l4 (.lst [.str "again", .str "move", .str "skip"])) l4 = some (.lst [.str "again", .str "move", .str "skip"]) := upd_same
    generalize upd H10 l4 (.lst [.str "again", .str "move", .str "skip"]) = H11 at sn11 x4 ⊢
    refine ⟨hsz 2 (by decide), fun l5 h5 => ?_⟩
    have sn12 := Same.new (o := .lst [.str "first", .str "last"]) h5
    have x5 : (upd H11 l5 (.lst [.str "first", .str "last"])) l5 = some (.lst [.str "first", .str "last"]) := upd_same
    generalize upd H11 l5 (.lst [.str "first", .str "last"]) = H12 at sn12 x5 ⊢
    refine ⟨hsz 2 (by decide), fun l6 h6 => ?_⟩
    have sn13 := Same.new (o := .lst [.str "later", .str "now"]) h6
    have x6 : (upd H12 l6 (.lst [.str "later", .str "now"])) l6 = some (.lst [.str "later", .str "now"]) := upd_same
    generalize upd H12 l6 (.lst [.str "later", .str "now"]) = H13 at sn13 x6 ⊢
    refine ⟨hsz 3 (by decide), fun q2 hq2 => ?_⟩
    have sn14 := Same.new (o := .tup [.ref l4, .ref l5, .ref l6]) hq2
    have w14 : (upd H13 q2 (.tup [.ref l4, .ref l5, .ref l6])) q2 = some (.tup [.ref l4, .ref l5, .ref l6]) := upd_same
    generalize upd H13 q2 (.tup [.ref l4, .ref l5, .ref l6]) = H14 at sn14 w14 ⊢
    have sn := (sn11.trans sn12).trans (sn13.trans sn14)
    have z4 : H14 l4 = some (.lst [.str "again", .str "move", .str "skip"]) := sn14 _ _ (sn13 _ _ (sn12 _ _ x4))
    have z5 : H14 l5 = some (.lst [.str "first", .str "last"]) := sn14 _ _ (sn13 _ _ x5)
    have z6 : H14 l6 = some (.lst [.str "later", .str "now"]) := sn14 _ _ x6
    have v14 := v10.mono sn
    have nd : ∀ {l : Addr} {xs : List V}, H14 l = some (.lst xs) → l ≠ d := fun h => by
      obtain ⟨kvs, h', _⟩ := v14
      exact ne_of h h' (by intro z; cases z)
    obtain ⟨H15, put15, v15, k15⟩ := v14.put (n := "same") (ws := ["again", "move", "skip"]) z4 (by decide +kernel) (by decide)
    obtain ⟨H16, put16, v16, k16⟩ := v15.put (n := "put") (ws := ["first", "last"]) (k15 _ _ (nd z5) z5) (by decide +kernel) (by decide)
    obtain ⟨H17, put17, v17, k17⟩ := v16.put (n := "nest") (ws := ["later", "now"]) (k16 _ _ (nd z6) (k15 _ _ (nd z6) z6)) (by decide +kernel) (by decide)
    refine ⟨q2, _, rfl, SqT.of w14, rfl, _, _, rfl, _, rfl, _, _, rfl, put15, _, _, rfl, _, rfl, _, _, rfl, put16, _, _, rfl, _, rfl, _, _, rfl, put17, rfl, ?_⟩
    have s17 : Same H H17 := fun z o hz => k17 _ _ (ne_of_none hz hdH) (k16 _ _ (ne_of_none hz hdH) (k15 _ _ (ne_of_none hz hdH) (sn _ _ (s10 _ _ hz))))
    have hL17 := k17 _ _ dL (k16 _ _ dL (k15 _ _ dL (sn _ _ hL10)))
    have va17 : ValsAt H17 d := v17.vals
    clear put15 put16 put17 k15 k16 k17 v14 v15 v16 v17 nd z4 z5 z6 sn sn11 sn12 sn13 sn14 w14 x4 x5 x6 v10 s10 hL10 h4 h5 h6 hq2
    refine ⟨Nat.zero_le _, fun F hF => ⟨_, _, rfl, ?_⟩⟩
    have hFH : H F = none := Same.none s17 hF
    have dF : d ≠ F := fun z => by
      obtain ⟨kvs, h, _⟩ := va17
      rw [← z, h] at hF
      cases hF
    have LF : L ≠ F := fun z => by rw [← z, hL17] at hF; cases hF
    have sF := Same.new (o := .lst []) hF
    have hlen : (rowsOf t).length = (Txt.split t NL).dropLast.length := by unfold rowsOf; rw [List.length_map]
    have hn : (Txt.split t NL).dropLast.length ≤ 1000001 := by
      rw [List.length_dropLast]
      have := sepN.len t
      omega
    refine ⟨_, rfl, _, rfl, _, rfl, _, _, rfl, SqL.of (sF _ _ hL17), fun S hS => ?_⟩
    have e1 : cutV ((Txt.split t NL).map V.str) none (some (-1)) = (Txt.split t NL).dropLast.map V.str := by rw [cut_init, List.map_dropLast]
    rw [e1]
    have sS := Same.new (o := .lst ((Txt.split t NL).dropLast.map V.str)) hS
    have SF : S ≠ F := fun z => by rw [z, upd_same] at hS; cases hS
    have hS0 : (upd (upd H17 F (.lst [])) S (.lst ((Txt.split t NL).dropLast.map V.str))) S = some (.lst ((Txt.split t NL).dropLast.map V.str)) := upd_same
    have hF0 : (upd (upd H17 F (.lst [])) S (.lst ((Txt.split t NL).dropLast.map V.str))) F = some (.lst []) := sS _ _ upd_same
    have b0 : But F H17 (upd (upd H17 F (.lst [])) S (.lst ((Txt.split t NL).dropLast.map V.str))) := But.of (sF.trans sS)
    generalize (upd (upd H17 F (.lst [])) S (.lst ((Txt.split t NL).dropLast.map V.str))) = H18 at hS0 hF0 b0 ⊢
    refine ⟨S, _, rfl, SqL.of hS0, ?_⟩
    refine for_it (walk_enum (xs := (Txt.split t NL).dropLast.map V.str)) (fun i σ H' => ∃ (vs : List V) (o5 o6 o7 o8 o9 o10 : Option V), σ = [some (.str t), some (.ref L), some (.ref d), some (.int (if i = 0 then 0 else evOf (rowsOf t) : Nat)), some (.ref F), o5, o6, o7, o8, o9, o10] ∧ But F H18 H' ∧ H' F = some (.lst vs) ∧ Paired (ActsF F H') vs ((((rowsOf t).take i).drop 8).map rowActs) ∧ ∀ j r', j < i → (rowsOf t)[j]? = some r' → lawRowOk (evOf (rowsOf t)) j r' = true)
      ⟨[], _, _, _, _, _, _, rfl, But.refl _ _, hF0, .nil, fun j r' hj => absurd hj (Nat.not_lt_zero j)⟩ (fun i σ H' _ q => ?_) (fun i x σ H3 H4 hi q y => ?_) (fun σ H3 q => ?_)
    · obtain ⟨_, _, _, _, _, _, _, _, b, _⟩ := q
      exact SqL.of (b _ _ SF hS0)
    · obtain ⟨vs, o5, o6, o7, o8, o9, o10, rfl, b3, hF3, pr, hok⟩ := q
      rw [List.length_map] at hi
      obtain ⟨T1, x1, x2, rfl, hT1, rfl, e1', e2⟩ := y
      replace e2 : ((Txt.split t NL).dropLast.map V.str)[i]? = some x2 := e2
      have z1 : x1 = .int (i : Nat) := (Option.some.inj e1').symm
      subst z1
      have el : (Txt.split t NL).dropLast[i]? = some (Txt.split t NL).dropLast[i] := List.getElem?_eq_getElem hi
      have hlm : (Txt.split t NL).dropLast[i] ∈ Txt.split t NL := List.dropLast_subset _ (List.getElem_mem hi)
      generalize (Txt.split t NL).dropLast[i] = line at el hlm
      rw [List.getElem?_map, el] at e2
      have z2 : x2 = .str line := (Option.some.inj e2).symm
      subst z2
      have hll := sepN.part t line hlm
      have er : (rowsOf t)[i]? = some (Txt.split line SP) := by
        unfold rowsOf
        rw [List.getElem?_map, el] <;> rfl
      have s4 : Same H3 (upd H3 T1 (.tup [.int (i : Nat), .str line])) := Same.new hT1
      refine ⟨T1, _, rfl, SqT.of upd_same, rfl, _, _, rfl, _, _, rfl, rfl, ?_⟩
      refine ⟨_, rfl, ⟨_, rfl⟩, _, _, rfl, rfl, rfl, by omega, fun W hW => ?_⟩
      have s5 : Same H3 (upd (upd H3 T1 (.tup [.int (i : Nat), .str line])) W (.lst ((Txt.split line SP).map V.str))) := Same.new' s4 hW
      have hwz : ∀ z ∈ Txt.split line SP, z.length ≤ sizeLine := fun z hz => by
        have := sepS.part line z hz
        omega
      have hwn : (Txt.split line SP).length < 2 ^ 20 := by
        have := sepS.len line
        omega
      generalize hws : Txt.split line SP = ws at er hwz hwn s5 ⊢
      have hWl : (upd (upd H3 T1 (.tup [.int (i : Nat), .str line])) W (.lst (ws.map V.str))) W = some (.lst (ws.map V.str)) := upd_same
      generalize (upd (upd H3 T1 (.tup [.int (i : Nat), .str line])) W (.lst (ws.map V.str))) = H5 at s5 hWl ⊢
      have b5 : But F H18 H5 := b3.trans (But.of s5)
      have sHB : ∀ {H' : Hp}, But F H18 H' → Same H H' := fun b z o hz => b _ _ (ne_of_none hz hFH) (b0 _ _ (ne_of_none hz hFH) (s17 _ _ hz))
      have bad : lawRowOk (evOf (rowsOf t)) i ws = false → ∀ H7, Same H5 H7 → Q (.int (i : Nat)) H7 := by
        intro hb H7 s7
        have hfb : fb (lawRowOk (evOf (rowsOf t))) 0 (rowsOf t) = some i := by
          have := fb_some (p := lawRowOk (evOf (rowsOf t))) (k := 0) er (by rw [Nat.zero_add]; exact hb) (fun j r' hj hr => by rw [Nat.zero_add]; exact hok j r' hj hr)
          rwa [Nat.zero_add] at this
        have hrh : lawRead t = some i := by
          unfold lawRead
          rw [hfb]
        have := k H7 (sHB (b5.trans (But.of s7)))
        rw [hrh] at this
        exact this
      have next : lawRowOk (evOf (rowsOf t)) i ws = true → ∀ j r', j < i + 1 → (rowsOf t)[j]? = some r' → lawRowOk (evOf (rowsOf t)) j r' = true := by
        intro hg j r' hj hr
        rcases Nat.lt_or_ge j i with hj' | hj'
        · exact hok j r' hj' hr
        · have : j = i := by omega
          subst this
          rw [er] at hr
          cases hr
          exact hg
      have hF5 := s5 _ _ hF3
      have prm : ∀ {H' : Hp}, Same H3 H' → Paired (ActsF F H') vs ((((rowsOf t).take i).drop 8).map rowActs) := fun s => paired_imp (fun _ _ f => ActsF.but (But.of s) (Kt.of s) f) pr
      refine ⟨_, rfl, rfl, _, rfl, ?_⟩
      by_cases h0 : i = 0
      · subst h0
        refine iteT' (decide_eq_true rfl) ?_
        refine ⟨_, rfl, _, _, rfl, .inl (SqL.of hWl), rfl, _, rfl, ?_⟩
        rw [List.length_map]
        by_cases h2 : ws.length = 2
        · obtain ⟨a, b, rfl⟩ := two_of h2
          have a0 : atI ([a, b].map V.str) (0 : Int) = some (.str a) := atI_nat (j := 0) rfl
          have a1 : atI ([a, b].map V.str) (1 : Int) = some (.str b) := atI_nat (j := 1) rfl
          have hrow : lawRowOk (evOf (rowsOf t)) 0 [a, b] = (decide (a = sEvents) && decide (b ∈ ([dig 1, dig 2, dig 3] : List Str))) := rfl
          refine iteF' (by rfl) ?_
          refine ⟨_, rfl, _, _, _, _, rfl, rfl, SqL.of hWl, a0, rfl, _, rfl, ?_⟩
          by_cases ha : a = sEvents
          · refine iteF' (by rw [decide_eq_true (show V.str a = V.str "events" by rw [ha])] <;> rfl) ?_
            refine ⟨_, rfl, _, _, _, _, rfl, rfl, SqL.of hWl, a1, hsz 3 (by decide), fun q hq => ?_⟩
            have sq := Same.new (o := .tup [.str "1", .str "2", .str "3"]) hq
            refine ⟨q, [.str "1", .str "2", .str "3"], rfl, .inr (SqT.of upd_same), rfl, by decide +kernel, _, rfl, ?_⟩
            have ein : inV (.str b) [.str "1", .str "2", .str "3"] = decide (b ∈ ([dig 1, dig 2, dig 3] : List Str)) := by
              have := inV_strs b [dig 1, dig 2, dig 3]
              rw [← this]
              congr 1
            have bq := bad
            have nq := next
            rw [hrow, decide_eq_true ha, Bool.true_and] at bq nq
            cases hb : decide (b ∈ ([dig 1, dig 2, dig 3] : List Str)) with
            | false =>
              refine iteT' (by rw [ein, hb] <;> rfl) ?_
              exact ⟨_, rfl, bq hb _ sq⟩
            | true =>
              refine iteF' (by rw [ein, hb] <;> rfl) ?_
              have hnum : ∃ n, numIn b = some n := by
                rw [num123] at hb
                cases e : numIn b with
                | none => rw [e] at hb; cases hb
                | some n => exact ⟨n, rfl⟩
              obtain ⟨n, hnb⟩ := hnum
              have hw1 : b.length = 1 := by
                by_cases z : b.length = 1
                · exact z
                · rw [numIn_len z] at hnb
                  cases hnb
              have hit : PySem.intText? b = some (n : Int) := by
                obtain ⟨c, hc⟩ := one_sign hw1
                rw [hc] at hnb ⊢
                exact int_sign hnb
              have hev : evOf (rowsOf t) = n := by
                unfold evOf List.getD
                rw [er]
                show (numIn b).getD 0 = n
                rw [hnb] <;> rfl
              refine ⟨_, rfl, _, _, _, _, rfl, rfl, SqL.of (sq _ _ hWl), a1, _, (n : Int), rfl, hit, by rw [hw1]; decide, ?_⟩
              have nx := nq hb
              refine ⟨vs, some (.int ((0 : Nat) : Int)), some (.str line), some (.ref W), o8, o9, o10, ?_, b5.trans (But.of sq), sq _ _ hF5, ?_, nx⟩
              · rw [if_neg (Nat.succ_ne_zero 0), hev]
                rfl
              · have e8 : ((rowsOf t).take (0 + 1)).drop 8 = ((rowsOf t).take 0).drop 8 := by
                  rw [List.drop_eq_nil_of_le (by rw [List.length_take]; omega), List.drop_eq_nil_of_le (by rw [List.length_take]; omega)]
                rw [e8]
                exact prm (s5.trans sq)
          · refine iteT' (by rw [decide_eq_false (fun z => ha (by injection z))] <;> rfl) (iteT ?_)
            exact ⟨_, rfl, bad (by rw [hrow, decide_eq_false ha] <;> rfl) _ (Same.refl _)⟩
        · refine iteT' (by rw [decide_eq_false (fun z => h2 (by injection z with z; omega))] <;> rfl) (iteT ?_)
          exact ⟨_, rfl, bad (lawRow_ne2 (by decide) h2) _ (Same.refl _)⟩
      · refine iteF' (decide_eq_false (fun z => by injection z with z; omega)) ?_
        refine ⟨_, rfl, _, _, rfl, rfl, _, rfl, ?_⟩
        by_cases h8 : i < 8
        · refine iteT' (decide_eq_true (by omega)) ?_
          obtain ⟨m, rfl⟩ : ∃ m, i = m + 1 := ⟨i - 1, by omega⟩
          have hm : m < 7 := by omega
          have hsub : ((m + 1 : Nat) : Int) - 1 = (m : Nat) := by omega
          refine ⟨rfl, fun H6 nl s6 n6 hnl => ?_⟩
          refine ⟨_, rfl, _, _, rfl, rfl, ?_⟩
          have hnm : (names.map V.str)[m]? = some (.str (names.getD m NO)) := by
            rw [List.getElem?_map]
            match m, hm with
            | 0, _ => rfl
            | 1, _ => rfl
            | 2, _ => rfl
            | 3, _ => rfl
            | 4, _ => rfl
            | 5, _ => rfl
            | 6, _ => rfl
          refine ⟨_, _, _, _, rfl, rfl, SqL.of hnl, by rw [hsub]; exact atI_nat hnm, ?_⟩
          have hW6 := s6 _ _ hWl
          refine ⟨_, rfl, _, _, rfl, .inl (SqL.of hW6), rfl, _, rfl, ?_⟩
          rw [List.length_map]
          by_cases h2 : ws.length = 2
          · obtain ⟨a, b, rfl⟩ := two_of h2
            have a0 : atI ([a, b].map V.str) (0 : Int) = some (.str a) := atI_nat (j := 0) rfl
            have a1 : atI ([a, b].map V.str) (1 : Int) = some (.str b) := atI_nat (j := 1) rfl
            have hrow : lawRowOk (evOf (rowsOf t)) (m + 1) [a, b] = (decide (a = names.getD m NO) && decide (b ∈ vals.getD m [])) := by
              unfold lawRowOk
              rw [if_neg h0, if_pos h8]
              rfl
            refine iteF' (by rfl) ?_
            refine ⟨_, rfl, _, _, _, _, rfl, rfl, SqL.of hW6, a0, _, rfl, rfl, _, rfl, ?_⟩
            by_cases ha : a = names.getD m NO
            · refine iteF' (by rw [decide_eq_true (show V.str a = V.str (names.getD m NO) by rw [ha])] <;> rfl) ?_
              have va6 : ValsAt H6 d := by
                obtain ⟨kvs, hk1, hk2⟩ := va17
                have hbb := b0.trans (b5.trans (But.of s6))
                refine ⟨kvs, hbb _ _ dF hk1, fun j hj => ?_⟩
                obtain ⟨lj, hl1, hl2⟩ := hk2 j hj
                exact ⟨lj, hl1, hbb _ _ (fun z => by rw [z, hF] at hl2; cases hl2) hl2⟩
              obtain ⟨kvs6, hk1, hk2⟩ := va6
              obtain ⟨lm, hlm1, hlm2⟩ := hk2 m hm
              have hg : DGet H6 d (.str (names.getD m NO)) (some (.ref lm)) := by
                rw [← hlm1]
                exact DGet.k (k := Sum.inr (names.getD m NO)) hk1
              refine ⟨_, rfl, _, _, _, _, rfl, rfl, SqL.of hW6, a1, _, rfl, _, rfl, _, _, rfl, hg, ?_⟩
              refine ⟨lm, _, rfl, .inl (SqL.of hlm2), rfl, flat_strs _, _, rfl, ?_⟩
              have bq := bad
              have nq := next
              rw [hrow, decide_eq_true ha, Bool.true_and] at bq nq
              rw [inV_strs]
              cases hb : decide (b ∈ vals.getD m []) with
              | false =>
                refine iteT ?_
                exact ⟨_, rfl, bq hb _ s6⟩
              | true =>
                refine iteF ?_
                have nx := nq hb
                refine ⟨vs, some (.int ((m + 1 : Nat) : Int)), some (.str line), some (.ref W), some (.str (names.getD m NO)), o9, o10, ?_, b5.trans (But.of s6), s6 _ _ hF5, ?_, nx⟩
                · rw [if_neg h0, if_neg (Nat.succ_ne_zero _)]
                  rfl
                · have e8 : ((rowsOf t).take (m + 1 + 1)).drop 8 = ((rowsOf t).take (m + 1)).drop 8 := by
                    rw [List.drop_eq_nil_of_le (by rw [List.length_take]; omega), List.drop_eq_nil_of_le (by rw [List.length_take]; omega)]
                  rw [e8]
                  exact prm (s5.trans s6)
            · refine iteT' (by rw [decide_eq_false (fun z => ha (by injection z))] <;> rfl) (iteT ?_)
              exact ⟨_, rfl, bad (by rw [hrow, decide_eq_false ha] <;> rfl) _ s6⟩
          · refine iteT' (by rw [decide_eq_false (fun z => h2 (by injection z with z; omega))] <;> rfl) (iteT ?_)
            exact ⟨_, rfl, bad (lawRow_ne2 h8 h2) _ s6⟩
        · refine iteF' (decide_eq_false (by omega)) ?_
          have hge := lawRow_ge (ev := evOf (rowsOf t)) (ws := ws) h8
          have hvl : vs.length = i - 8 := by
            have h1 := Paired.length pr
            rw [List.length_map, List.length_drop, List.length_take] at h1
            have h2 := (List.getElem?_eq_some_iff.mp er).1
            omega
          refine ⟨_, rfl, _, _, rfl, .inl (SqL.of hWl), _, _, rfl, rfl, _, rfl, ?_⟩
          rw [List.length_map]
          by_cases h3 : 2 < ws.length
          · refine iteT' (decide_eq_true (by omega)) ?_
            obtain ⟨kk, e, o, r, rfl⟩ : ∃ kk e o r, ws = kk :: e :: o :: r := by
              match ws, h3 with
              | kk :: e :: o :: r, _ => exact ⟨kk, e, o, r, rfl⟩
            have hrow : lawRowOk (evOf (rowsOf t)) i (kk :: e :: o :: r) = ((actsIn r).isSome && (decide (kk = sKind) && (decide (o = sOnce ∨ o = sAlways) && (!decide (i = 12) && (match numIn e with | some n => decide (n < evOf (rowsOf t)) | none => false))))) := hge
            have a0 : atI ((kk :: e :: o :: r).map V.str) (0 : Int) = some (.str kk) := atI_nat (j := 0) rfl
            have a1 : atI ((kk :: e :: o :: r).map V.str) (1 : Int) = some (.str e) := atI_nat (j := 1) rfl
            have a2 : atI ((kk :: e :: o :: r).map V.str) (2 : Int) = some (.str o) := atI_nat (j := 2) rfl
            refine ⟨_, rfl, _, rfl, _, _, rfl, SqL.of hWl, fun p hp => ?_⟩
            have ec : cutV ((kk :: e :: o :: r).map V.str) (some 3) none = r.map V.str := by
              rw [show (some 3 : Option Int) = some ((3 : Nat) : Int) from rfl, cut_from]
              rfl
            rw [ec]
            have s6 := Same.new (o := .lst (r.map V.str)) hp
            refine ⟨p, r, rfl, SqL.of upd_same, by simp only [List.length_cons] at hwn; omega, fun z hz => hwz z (by simp [hz]), fun H7 u s7 hu => ?_⟩
            have s57 := s6.trans s7
            have hF6 := s6 _ _ hF5
            generalize upd H5 p (.lst (r.map V.str)) = H6 at s6 s7 hu s57 hF6
            have hW7 := s57 _ _ hWl
            have hF7 := s57 _ _ hF5
            cases ha : actsIn r with
            | none =>
              rw [ha] at hu hrow
              replace hu : u = .non := hu
              subst hu
              refine ⟨_, rfl, rfl, _, rfl, iteT (iteT ?_)⟩
              exact ⟨_, rfl, bad hrow _ s57⟩
            | some as =>
              rw [ha] at hu hrow
              obtain ⟨pu, us, rfl, hpn, hpu, pra⟩ := hu
              refine ⟨_, rfl, rfl, _, rfl, iteF ?_⟩
              refine ⟨_, rfl, _, _, _, _, rfl, rfl, SqL.of hW7, a0, rfl, _, rfl, ?_⟩
              by_cases hk : kk = sKind
              · refine iteF' (by rw [decide_eq_true (show V.str kk = V.str "kind" by rw [hk])] <;> rfl) ?_
                refine ⟨_, rfl, _, _, _, _, rfl, rfl, SqL.of hW7, a2, hsz 2 (by decide), fun q hq => ?_⟩
                have sq := Same.new (o := .tup [.str "once", .str "always"]) hq
                refine ⟨q, [.str "once", .str "always"], rfl, .inr (SqT.of upd_same), rfl, by decide +kernel, _, rfl, ?_⟩
                have s58 := s57.trans sq
                have hW8 := sq _ _ hW7
                have hF8 := sq _ _ hF7
                have hpu8 := sq _ _ hpu
                have kt78 : Kt H7 _ := Kt.of sq
                generalize upd H7 q (.tup [.str "once", .str "always"]) = H8 at sq s58 hW8 hF8 hpu8 kt78 ⊢
                have e2 : inV (.str o) [.str "once", .str "always"] = decide (o = sOnce ∨ o = sAlways) := by
                  have := inV_strs o [sOnce, sAlways]
                  rw [show ([V.str "once", .str "always"] : List V) = ([sOnce, sAlways] : List Str).map V.str from rfl, this]
                  congr 1
                  simp
                rw [e2]
                rw [decide_eq_true hk] at hrow
                by_cases ho : o = sOnce ∨ o = sAlways
                · rw [decide_eq_true ho] at hrow ⊢
                  refine iteF ?_
                  refine ⟨_, rfl, _, _, rfl, .inl (SqL.of hF8), rfl, _, rfl, ?_⟩
                  rw [hvl]
                  by_cases h12 : i = 12
                  · subst h12
                    refine iteT ?_
                    exact ⟨_, rfl, bad (by rw [hrow] <;> rfl) _ s58⟩
                  · rw [decide_eq_false h12] at hrow
                    have e4 : decide (V.int ((i - 8 : Nat) : Int) = V.int 4) = false := decide_eq_false (fun z => by injection z with z; omega)
                    refine iteF' e4 ?_
                    refine ⟨_, rfl, _, _, _, _, rfl, rfl, SqL.of hW8, a1, e, rfl, hwz e (by simp), _, rfl, ?_⟩
                    cases hn1 : numIn e with
                    | none =>
                      rw [hn1] at hrow
                      refine iteT (iteT ?_)
                      exact ⟨_, rfl, bad (by rw [hrow] <;> rfl) _ s58⟩
                    | some n =>
                      rw [hn1] at hrow
                      replace hrow : lawRowOk (evOf (rowsOf t)) i (kk :: e :: o :: r) = decide (n < evOf (rowsOf t)) := hrow
                      refine iteF ?_
                      have hw1 : e.length = 1 := by
                        by_cases z : e.length = 1
                        · exact z
                        · rw [numIn_len z] at hn1
                          cases hn1
                      have hit : PySem.intText? e = some (n : Int) := by
                        obtain ⟨c, hc⟩ := one_sign hw1
                        rw [hc] at hn1 ⊢
                        exact int_sign hn1
                      refine ⟨_, rfl, _, _, _, _, rfl, rfl, SqL.of hW8, a1, _, (n : Int), rfl, hit, by rw [hw1]; decide, _, rfl, _, _, rfl, rfl, _, rfl, ?_⟩
                      rw [if_neg h0]
                      by_cases hlt : n < evOf (rowsOf t)
                      · rw [decide_eq_true hlt] at hrow
                        refine iteF' (decide_eq_false (by omega)) ?_
                        have nx := next (by rw [hrow] <;> rfl)
                        refine ⟨_, rfl, .inl ⟨rfl, _, SqL.of hF8⟩, _, rfl, _, _, _, rfl, rfl, hF8, by rw [hvl]; omega, ?_⟩
                        have hpF : pu ≠ F := fun z => by rw [z, hF6] at hpn; cases hpn
                        have kt : Kt H8 (upd H8 F (.lst (vs ++ [.ref pu]))) := fun b xs hb => by
                          rw [upd_ne (ne_of hb hF8 (by intro z; cases z))]
                          exact hb
                        refine ⟨vs ++ [.ref pu], some (.int (i : Nat)), some (.str line), some (.ref W), o8, some (.ref pu), o10, ?_, (b5.trans (But.of s58)).trans But.mut, upd_same, ?_, nx⟩
                        · rw [if_neg (Nat.succ_ne_zero _)]
                          rfl
                        · have et : (((rowsOf t).take (i + 1)).drop 8).map rowActs = (((rowsOf t).take i).drop 8).map rowActs ++ [as] := by
                            rw [List.take_add_one, er, List.drop_append, List.map_append]
                            have hl8 : 8 - ((rowsOf t).take i).length = 0 := by
                              rw [List.length_take]
                              have := (List.getElem?_eq_some_iff.mp er).1
                              omega
                            rw [hl8]
                            simp [rowActs, ha]
                          rw [et]
                          have p8 := prm (s5.trans s58)
                          refine Paired.snoc (paired_imp (fun _ _ f => ActsF.but But.mut kt f) p8) ⟨pu, us, rfl, hpF, ?_, paired_mono (fun _ _ f => ActAt.mono (kt78.trans kt) f) pra⟩
                          rw [upd_ne hpF]
                          exact hpu8
                      · rw [decide_eq_false hlt] at hrow
                        refine iteT' (decide_eq_true (by omega)) ?_
                        exact ⟨_, rfl, bad (by rw [hrow] <;> rfl) _ s58⟩
                · rw [decide_eq_false ho] at hrow ⊢
                  refine iteT (iteT ?_)
                  exact ⟨_, rfl, bad (by rw [hrow] <;> rfl) _ s58⟩
              · refine iteT' (by rw [decide_eq_false (fun z => hk (by injection z))] <;> rfl) (iteT ?_)
                exact ⟨_, rfl, bad (by rw [hrow, decide_eq_false hk] <;> rfl) _ s57⟩
          · refine iteF' (decide_eq_false (by omega)) ?_
            refine ⟨_, rfl, rfl, _, rfl, iteT (iteT ?_)⟩
            refine ⟨_, rfl, bad ?_ _ (Same.refl _)⟩
            rw [hge]
            match ws, h3 with
            | [], _ => rfl
            | [_], _ => rfl
            | [_, _], _ => rfl
            | _ :: _ :: _ :: _, h3 => exact absurd (show 2 < _ by simp) h3
    · obtain ⟨vs, o5, o6, o7, o8, o9, o10, rfl, b3, hF3, pr, hok⟩ := q
      have e0 : ((Txt.split t NL).dropLast.map V.str).length = (rowsOf t).length := by rw [List.length_map, hlen]
      rw [e0] at pr hok ⊢
      rw [List.take_length] at pr
      have hfb : fb (lawRowOk (evOf (rowsOf t))) 0 (rowsOf t) = none := fb_none fun j r' hr => by
        rw [Nat.zero_add]
        exact hok j r' (List.getElem?_eq_some_iff.mp hr).1 hr
      have hL3 : H3 L = some (.lst ((Txt.split t NL).map V.str)) := b3 _ _ LF (b0 _ _ LF hL17)
      have sH3 : Same H H3 := fun z o hz => b3 _ _ (ne_of_none hz hFH) (b0 _ _ (ne_of_none hz hFH) (s17 _ _ hz))
      have e2 : atI ((Txt.split t NL).map V.str) (-1) = some (.str (restOf t)) := by
        have h1 := split_parts t
        rw [h1, List.map_append]
        exact atI_last _ _
      have hl1 : ((Txt.split t NL).map V.str).length = (rowsOf t).length + 1 := by
        rw [List.length_map, hlen, List.length_dropLast]
        have := List.length_pos_iff.mpr (sepN.ne t)
        omega
      have ret : lawRead t = some (rowsOf t).length → Q (.int ((((Txt.split t NL).map V.str).length : Nat) - 1 : Int)) H3 := by
        intro e
        have := k H3 sH3
        rw [e] at this
        have e3 : ((((Txt.split t NL).map V.str).length : Nat) - 1 : Int) = ((rowsOf t).length : Nat) := by rw [hl1]; omega
        rw [e3]
        exact this
      have rd1 : (restOf t ≠ NO ∨ (rowsOf t).length < 9) → lawRead t = some (rowsOf t).length := by
        intro h
        unfold lawRead
        rw [hfb]
        exact if_pos h
      refine ⟨_, rfl, _, rfl, _, _, _, _, rfl, rfl, SqL.of hL3, e2, rfl, _, rfl, ?_⟩
      by_cases hr0 : restOf t = NO
      · refine iteF' (by rw [hr0]; decide +kernel) ?_
        refine ⟨_, rfl, _, _, rfl, .inl (SqL.of hL3), _, _, rfl, rfl, _, rfl, ?_⟩
        by_cases h9 : (rowsOf t).length < 9
        · refine iteT' (decide_eq_true (by omega)) ?_
          exact ⟨_, rfl, _, _, rfl, .inl (SqL.of hL3), _, _, rfl, rfl, ret (rd1 (.inr h9))⟩
        · refine iteF' (decide_eq_false (by omega)) ?_
          have hvl : vs.length = (rowsOf t).length - 8 := by
            rw [Paired.length pr, List.length_map, List.length_drop]
          have rd2 : lawRead t = if ((rowsOf t).drop 8).any (fun ws => lawActBad (evOf (rowsOf t)) ((rowsOf t).length - 8) (rowActs ws)) = true then some (rowsOf t).length else none := by
            unfold lawRead
            rw [hfb]
            exact if_neg (fun z => z.elim (fun z => z hr0) h9)
          rw [if_neg (show ¬ (rowsOf t).length = 0 by omega)]
          refine ⟨_, rfl, F, rfl, ⟨_, SqL.of hF3⟩, ?_⟩
          refine for_list (xs := vs) (fun j σ H' => ∃ (o9 o10 : Option V), σ = [some (.str t), some (.ref L), some (.ref d), some (.int (evOf (rowsOf t) : Nat)), some (.ref F), o5, o6, o7, o8, o9, o10] ∧ H' = H3 ∧ ∀ j' < j, ∀ ws, ((rowsOf t).drop 8)[j']? = some ws → lawActBad (evOf (rowsOf t)) ((rowsOf t).length - 8) (rowActs ws) = false)
            ⟨_, _, rfl, rfl, fun j' hj => absurd hj (Nat.not_lt_zero _)⟩ (fun j σ H' _ q => ?_) (fun j x σ H' hx q => ?_) (fun σ H' q => ?_)
          · obtain ⟨_, _, _, rfl, _⟩ := q
            exact SqL.of hF3
          · obtain ⟨o9, o10, rfl, rfl, hgood⟩ := q
            obtain ⟨as, has, pu, us, rfl, hpF, hpu, pra⟩ := paired_get pr hx
            rw [List.getElem?_map] at has
            obtain ⟨ws, hws, rfl⟩ := Option.map_eq_some_iff.mp has
            have la := Paired.length pra
            have hbad : ∀ a, a ∈ rowActs ws → (decide (3 < (rowActs ws).length) || !actOk (evOf (rowsOf t)) ((rowsOf t).length - 8) a) = true → lawRead t = some (rowsOf t).length := by
              intro a ha hb
              rw [rd2]
              refine if_pos (List.any_eq_true.mpr ⟨ws, List.mem_of_getElem? hws, List.any_eq_true.mpr ⟨a, ha, hb⟩⟩)
            refine ⟨_, rfl, pu, rfl, ⟨_, SqL.of hpu⟩, ?_⟩
            refine for_list (xs := us) (fun m σ H'' => ∃ (o10 : Option V), σ = [some (.str t), some (.ref L), some (.ref d), some (.int (evOf (rowsOf t) : Nat)), some (.ref F), o5, o6, o7, o8, some (.ref pu), o10] ∧ H'' = H' ∧ ∀ m' < m, ∀ a, (rowActs ws)[m']? = some a → (decide (3 < (rowActs ws).length) || !actOk (evOf (rowsOf t)) ((rowsOf t).length - 8) a) = false)
              ⟨_, rfl, rfl, fun m' hm => absurd hm (Nat.not_lt_zero _)⟩ (fun m σ H'' _ q => ?_) (fun m x σ H'' hx2 q => ?_) (fun σ H'' q => ?_)
            · obtain ⟨_, _, rfl, _⟩ := q
              exact SqL.of hpu
            · obtain ⟨o10, rfl, rfl, hg2⟩ := q
              obtain ⟨a, haa, qa, rfl, hqa⟩ := paired_get pra hx2
              have hbd := hbad a (List.mem_of_getElem? haa)
              have nxt : (decide (3 < (rowActs ws).length) || !actOk (evOf (rowsOf t)) ((rowsOf t).length - 8) a) = false → ∀ m' < m + 1, ∀ a, (rowActs ws)[m']? = some a → (decide (3 < (rowActs ws).length) || !actOk (evOf (rowsOf t)) ((rowsOf t).length - 8) a) = false := by
                intro hf m' hm' a' ha'
                rcases Nat.lt_or_ge m' m with h | h
                · exact hg2 m' h a' ha'
                · have : m' = m := by omega
                  subst this
                  rw [haa] at ha'
                  cases ha'
                  exact hf
              refine ⟨_, rfl, _, _, rfl, .inl (SqL.of hpu), _, _, rfl, rfl, _, rfl, ?_⟩
              by_cases h3 : 3 < (rowActs ws).length
              · refine iteT' (decide_eq_true (by omega)) (iteT ?_)
                exact ⟨_, rfl, _, _, rfl, .inl (SqL.of hL3), _, _, rfl, rfl, ret (hbd (by rw [decide_eq_true h3] <;> rfl))⟩
              · refine iteF' (decide_eq_false (by omega)) ?_
                rw [decide_eq_false h3, Bool.false_or] at hbd
                have nx2 : (!actOk (evOf (rowsOf t)) ((rowsOf t).length - 8) a) = false → _ := fun h => nxt (by rw [decide_eq_false h3, h] <;> rfl)
                cases a with
                | raise =>
                  refine ⟨_, rfl, _, _, rfl, .inr (SqT.of hqa), _, _, rfl, rfl, _, rfl, ?_⟩
                  refine iteF' (by rfl) (iteF ?_)
                  exact ⟨_, rfl, rfl, nx2 rfl⟩
                | num w3' n =>
                  have c0 : atI (actV (.num w3' n)) (0 : Int) = some (.str w3'.s) := atI_nat (j := 0) rfl
                  have c1 : atI (actV (.num w3' n)) (1 : Int) = some (.int n) := atI_nat (j := 1) rfl
                  refine ⟨_, rfl, _, _, rfl, .inr (SqT.of hqa), _, _, rfl, rfl, _, rfl, ?_⟩
                  refine iteT' (by rfl) ?_
                  refine ⟨_, rfl, _, _, _, _, rfl, rfl, SqT.of hqa, c1, _, rfl, _, _, _, _, rfl, rfl, SqT.of hqa, c0, rfl, _, rfl, ?_⟩
                  by_cases hw : w3' = .emit
                  · subst hw
                    refine iteT' (by decide +kernel) ?_
                    refine ⟨_, rfl, _, _, rfl, rfl, _, rfl, ?_⟩
                    by_cases hlt : n < evOf (rowsOf t)
                    · refine iteF' (decide_eq_false (by omega)) ?_
                      exact ⟨_, rfl, rfl, nx2 (by show (!decide (n < evOf (rowsOf t))) = false; rw [decide_eq_true hlt] <;> rfl)⟩
                    · refine iteT' (decide_eq_true (by omega)) ?_
                      exact ⟨_, rfl, _, _, rfl, .inl (SqL.of hL3), _, _, rfl, rfl, ret (hbd (by show (!decide (n < evOf (rowsOf t))) = true; rw [decide_eq_false hlt] <;> rfl))⟩
                  · have ew : decide (V.str w3'.s = V.str "emit") = false := by cases w3' <;> first | decide +kernel | exact absurd rfl hw
                    have ek : actOk (evOf (rowsOf t)) ((rowsOf t).length - 8) (.num w3' n) = decide (n < (rowsOf t).length - 8) := by cases w3' <;> first | rfl | exact absurd rfl hw
                    refine iteF' ew ?_
                    refine ⟨_, rfl, _, _, rfl, .inl (SqL.of hF3), _, _, rfl, rfl, _, rfl, ?_⟩
                    rw [hvl]
                    rw [ek] at hbd nx2
                    by_cases hlt : n < (rowsOf t).length - 8
                    · refine iteF' (decide_eq_false (by omega)) ?_
                      exact ⟨_, rfl, rfl, nx2 (by rw [decide_eq_true hlt] <;> rfl)⟩
                    · refine iteT' (decide_eq_true (by omega)) ?_
                      exact ⟨_, rfl, _, _, rfl, .inl (SqL.of hL3), _, _, rfl, rfl, ret (hbd (by rw [decide_eq_false hlt] <;> rfl))⟩
            · obtain ⟨o10, rfl, rfl, hg2⟩ := q
              refine ⟨_, _, rfl, rfl, fun j' hj' ws' hws' => ?_⟩
              rcases Nat.lt_or_ge j' j with h | h
              · exact hgood j' h ws' hws'
              · have : j' = j := by omega
                subst this
                rw [hws] at hws'
                cases hws'
                refine Bool.eq_false_iff.mpr fun hb => ?_
                obtain ⟨a, ha, hb⟩ := List.any_eq_true.mp hb
                obtain ⟨m, hm, rfl⟩ := List.mem_iff_getElem.mp ha
                have := hg2 m (by rw [la]; exact hm) _ (List.getElem?_eq_getElem hm)
                rw [hb] at this
                cases this
          · obtain ⟨o9, o10, rfl, rfl, hgood⟩ := q
            have hn0 : lawRead t = none := by
              rw [rd2]
              refine if_neg fun hb => ?_
              obtain ⟨ws, hws, hb⟩ := List.any_eq_true.mp hb
              obtain ⟨j, hj, rfl⟩ := List.mem_iff_getElem.mp hws
              have := hgood j (by rw [hvl]; rw [List.length_drop] at hj; exact hj) _ (List.getElem?_eq_getElem hj)
              rw [hb] at this
              cases this
            have := k H' sH3
            rw [hn0] at this
            exact this
      · refine iteT' (by rw [decide_eq_false (fun z => hr0 (by injection z))] <;> rfl) (iteT ?_)
        exact ⟨_, rfl, _, _, rfl, .inl (SqL.of hL3), _, _, rfl, rfl, ret (rd1 (.inl hr0))⟩
end K5
set_option Elab.async false
set_option linter.all false
set_option maxRecDepth 100000
set_option maxHeartbeats 4000000
/-! _law_at: what a lambda raises. -/
namespace K5
open PySem PySem.Spec PyProof.Rows L2
theorem takes_len {X : Cx} {W : WX} (tk : L2.Takes X W) : L2.Takes X (fun cls d σ H => σ.length = X.N.length → W cls d σ H) := fun u s' ⟨a, B, sI, pins, σ, H, cls, d, e, I, nb, up, sky, na, os, ag, w⟩ =>
  tk u s' ⟨a, B, sI, pins, σ, H, cls, d, e, I, nb, up, sky, na, os, ag, w I.len⟩
theorem scAt : FnScope ["_law_ask", "error"] ["_law_ask"] (defScope sAt) := ⟨rfl, rfl, rfl, by decide +kernel, rfl, by decide +kernel, by decide +kernel⟩
/-- what _law_at makes of a lambda's reading: the row of a BadText, None without one -/
def TRow (CS : Addr) : (XK → Hp → VK → Prop) → Hp → VK → Prop := fun tl H Q =>
  tl (fun cls d H' => ∃ (dd : Addr) (n : Int), cls = .ref CS ∧ d = some dd ∧ H' dd = some (.xd [(("row" : Str), .int n)]) ∧ Q (.int n) H') H (fun _ H' => Q .non H')
theorem at_gives {X : Cx} {q : Str} {g CS : Addr} {cdg : Value} (hme : X.mg "BadText" = some (.ref CS)) (XF : XfC X.K CS) (hno : PySem.W.findIn X.K (.ref CS) "row" = some none) (exm : PySem.W.exmOne X.K (.ref CS) (.ref CS) = some true) :
    LamX.GivesTo X ["_law_ask", "error"] "_law_at" (defScope sAt) g cdg (defBody sAt) "_law_ask" q (TRow CS) := by
  intro f c' s H Q tl act hc h
  refine ⟨_, pss_cons (L2.ps_try_as (i := 1) (X := (cxOf C8.CX0 X.prog X.w X.K X.mg X.base ["_law_ask", "error"] "_law_at" (defScope sAt) g cdg X.A X.stack s H C8.E0).nox) (c := .ref CS)
      (tb := fun W D σ H => ∃ Ech : XK, (∀ cls d σ' H', Ech cls d H' → σ'.length = 2 → W cls d σ' H') ∧ σ[0]? = some (some (.ref f)) ∧ H c' = some (LamX.CodeO c' q) ∧ tl Ech H (fun _ H' => D.nx σ H'))
      rfl rfl scAt.nd rfl rfl ⟨rfl, by decide, .inl hme⟩ LamX.takes0 (fun W pn xe tk _ => ?_) (fun a oe cls d pn hz hf => pss_one (ps_ret (pe_xf XF hno hz hf (pe_var (i := 1) rfl (.inl rfl)))))) (pss_one (ps_ret pe_non)), ?_⟩
  · refine ⟨fun pins s' σ H' D I h' => ?_⟩
    obtain ⟨Ech, hW, h1, h2, h3⟩ := h'
    exact (pss_one (ps_expr (act (fun cls d σ H => σ.length = 2 → W cls d σ H) pn xe Ech _ _ (takes_len tk) hW))).run pins s' σ H' D I ⟨h1, h2, h3⟩
  · refine ⟨fun cls d H' => ∃ (dd : Addr) (n : Int), cls = .ref CS ∧ d = some dd ∧ H' dd = some (.xd [(("row" : Str), .int n)]) ∧ Q (.int n) H', ?_, rfl, hc, h⟩
    rintro cls d σ' H' ⟨dd, n, rfl, rfl, hx, hq⟩ hl
    refine ⟨true, exm, fun _ a ha => ?_, fun z => by cases z⟩
    obtain ⟨x0, x1, rfl⟩ : ∃ x0 x1, σ' = [x0, x1] := by
      match σ', hl with
      | [x0, x1], _ => exact ⟨x0, x1, rfl⟩
    exact ⟨_, rfl, rfl, rfl, dd, _, .int n, rfl, hx, rfl, hq⟩
end K5
set_option Elab.async false
set_option linter.all false
set_option maxRecDepth 100000
set_option maxHeartbeats 4000000
/-! text.replace(' ', '  ', 1): a text, not much longer -/
namespace K5
open PySem PySem.Spec PyProof.Rows L2
open PySem.Builtin.Str
section
variable {prog : Program} {w : World} {A : Around} {E : Value → Shared → Prop} {s : Shared} {x y z : Str} {t u v k : Tok} {Q : Value → Shared → Prop}
theorem replace1 (hu : u ≠ 0) (hv : v ≠ 0) (huv : u ≠ v) (hyz : (y == z) = false) (hb : x.length + (x.length + 1) * z.length ≤ 16777216)
    (hq : ∀ r t' k, r.length ≤ x.length + (x.length + 1) * z.length → Q (.str r t') { s with toks := k }) : wpAny (model prog w) A (call (.builtin "str.replace") [.str x t, .str y u, .str z v, .int 1 k]) Q E s := by
  refine wpAny_call_entry F.slot_str_replace (typeIs_str _ _ _) F.entry_str_replace ?_ (F.args_str_replace_4 _ _ _ _)
  show wpAny _ _ (if ((occurrences x y 0 x.length 1).isEmpty || (y.length == 0 && z.length == 0)) = true then (do rule "str.replace.nothing"; ret (.str x t)) else
          (do let same ← isSame (.str y u) (.str z v)
              if same = true then (do rule "str.replace.old-is-new"; ret (.str x t)) else
              if tooLong (x.length + (occurrences x y 0 x.length 1).length * z.length) = true then unsupported "str.replace:memory" else
              retStr (glued z (partsBetween x (occurrences x y 0 x.length 1) y.length)))) _ _ _
  have h1 := StrLaws.occ_length_le x y 0 x.length 1
  have h2 : (occurrences x y 0 x.length 1).length * z.length ≤ (x.length + 1) * z.length := Nat.mul_le_mul_right _ (by omega)
  have hl : tooLong (x.length + (occurrences x y 0 x.length 1).length * z.length) = false := by
    unfold tooLong sizeLine
    exact decide_eq_false (by omega)
  have hg : (glued z (partsBetween x (occurrences x y 0 x.length 1) y.length)).length ≤ x.length + (x.length + 1) * z.length := by
    have hy : (glued y (partsBetween x (occurrences x y 0 x.length 1) y.length)).length = x.length := by rw [StrLaws.glued_between_self]
    rw [size_glued, length_partsBetween, Nat.add_sub_cancel] at hy
    rw [size_glued, length_partsBetween, Nat.add_sub_cancel]
    omega
  cases hc : ((occurrences x y 0 x.length 1).isEmpty || (y.length == 0 && z.length == 0))
  · rw [if_neg Bool.false_ne_true, isSame_str_other y z u v (by simp [hu, hv]) (by simp [huv]) hyz]
    refine wpAny_bind (wpAny_pure ?_)
    rw [if_neg Bool.false_ne_true, hl, if_neg Bool.false_ne_true]
    exact wpAny_bind (wpAny_mkStr (wpAny_pure ⟨_, rfl, hq _ _ _ hg⟩) (by rw [sizeLine_eq]; omega))
  · rw [if_pos rfl]
    exact wpAny_bind (wpAny_rule (wpAny_pure ⟨_, rfl, hq x t s.toks (by omega)⟩))
end
section
variable {X : Cx} {o : Expr} {to : TE} {y z : Str} {j k k3 : Nat} {c0 c1 c2 apos pos : Pos}
/-- e.replace('..', '..', 1): nothing but the length is told -/
def tRepl1 (to : TE) (z : Str) : TE := fun σ H Q => to σ H fun v H1 => ∃ x, v = .str x ∧ x.length + (x.length + 1) * z.length ≤ 16777216 ∧ ∀ r : Str, r.length ≤ x.length + (x.length + 1) * z.length → Q (.str r) H1
theorem pet_repl1 (ho : PE X o to) (hyz : (y == z) = false := by decide)
    (hst : starEach [.Constant (.str y) j c0, .Constant (.str z) k c1, .Constant (.int 1) k3 c2] X.env = [(false, eval (.Constant (.str y) j c0) X.env), (false, eval (.Constant (.str z) k c1) X.env), (false, eval (.Constant (.int 1) k3 c2) X.env)] := by rfl)
    (hbase : attributeBase o "replace" X.env (eval o X.env) = eval o X.env := by rfl) (hline : (apos.endLine == pos.line) = true := by rfl) :
    PET X (.Call (.Attribute o "replace" apos) [.Constant (.str y) j c0, .Constant (.str z) k c1, .Constant (.int 1) k3 c2] [] pos) (tRepl1 to z) := by
  intro pins s σ H Q h0 I h
  refine PySem.wpAny_Call_method (T := "str") (id := "str.replace") hbase (by rw [hst]; rfl) hline PySem.F.plainAttrs_str PySem.F.slot_str_replace PySem.F.type_str_replace (wpAny_mono (PySem.wpAny_toks (ho.run pins s σ H _ I h)) (fun v s1 q => ?_) fun _ _ z => z.2)
  obtain ⟨hk, v', H1, I1, r1, x, e1, hb, q⟩ := q
  subst e1
  obtain ⟨tx, e2⟩ := r1
  subst e2
  refine ⟨typeIs_str _ _ _, (fun _ e => nomatch e), ?_⟩
  rw [hst]
  refine Calls.callWith_builtin rfl (Calls.evalArgs_plain (Calls.spliced_cons ?_))
  refine Calls.Constant_str (k := j) (pos := c0) (Calls.spliced_cons (Calls.Constant_str (k := k) (pos := c1) (Calls.spliced_cons (wpAny_Constant_int (k := k3) (pos := c2) (Calls.spliced_nil ?_)))))
  exact replace1 (by show s1.toks ≠ 0; omega) (by show s1.toks + 1 ≠ 0; omega) (by show s1.toks ≠ s1.toks + 1; omega) hyz hb fun r t' k hr => ⟨.str r, H1, I1.tok k, ⟨t', rfl⟩, q r hr⟩
/-- a test against a written number: a token is out behind it -/
theorem pss_ifK {op : CmpOp} {r : R2} {a : Expr} {ta : TE} {i : Int} {jj : Nat} {pc p1 p2 : Pos} {body rest : List Stmt} {t u : TS} (hop : OpR X (compareOp op) r) (ha : PE X a ta) (hb : PSs X body t) (hr : PSsT X rest u) (hm : behindInMarks op (.Constant (.int i) jj pc) = false := by rfl) :
    PSs X (.If (.Compare a [op] [.Constant (.int i) jj pc] p1) body [] p2 :: rest) (tSeq (tIfS (tTest (tOp r ta (tC (.int i)))) t tNext) u) := by
  refine ⟨fun pins s σ H D I h => ?_⟩
  have key : wpAny (model X.prog X.w) X.A (isTrue (.Compare a [op] [.Constant (.int i) jj pc] p1) X.env (eval (.Compare a [op] [.Constant (.int i) jj pc] p1) X.env)) (fun d s1 => 1 ≤ s1.toks ∧ ∃ H1, Inv X pins σ H1 s1 ∧ (if d = true then t { D with nx := u D } σ H1 else u D σ H1)) X.xe s := by
    refine wpAny_isTrue_Compare1 (thn (ha.run pins s σ H _ I h) fun v s1 ⟨x, H1, I1, r1, q1⟩ => wpAny_Constant_int ?_) hm
    refine wpAny_mono (PySem.wpAny_toks_of (n := 1) (by show 1 ≤ s1.toks + 1; omega) (hop pins { s1 with toks := s1.toks + 1 } σ H1 x (.int i) v (.int i s1.toks) _ (I1.tok _) r1 ⟨_, rfl⟩ q1)) (fun c s3 q => ?_) fun _ _ z => z.2
    obtain ⟨hk, z, H3, I3, r3, k, e, q3⟩ := q
    subst e
    cases r3
    exact wpAny_truthy_bool ⟨hk, H3, I3, q3⟩
  refine wpAny_execs_cons (wpAny_If (wpAny_mono key (fun d s1 q => ?_) fun _ _ z => z))
  obtain ⟨hk, H1, I1, q1⟩ := q
  cases d with
  | true =>
    refine wpAny_mono (PySem.wpAny_toks (hb.run pins s1 σ H1 { D with nx := u D } I1 q1)) (fun f s2 q2 => ?_) fun _ _ z => z.2
    obtain ⟨hk2, q2⟩ := q2
    cases f with
    | next =>
      obtain ⟨σ', H', I', q3⟩ := q2
      exact hr pins s2 σ' H' D (Nat.le_trans hk hk2) I' q3
    | ret v => exact q2
    | brk => exact q2
    | cont => exact q2
  | false => exact wpAny_execs_nil (hr pins s1 σ H1 D hk I1 q1)
end
end K5
set_option Elab.async false
set_option linter.all false
set_option maxRecDepth 100000
set_option maxHeartbeats 4000000
namespace K5
open PySem PySem.Spec PyProof.Rows L2
variable {P : Program} {w : World} {K : PySem.W.Frag} {mg : Str → Option Value} {base : Heap}
/-! ### _law_spoilt -/
theorem len_tl (z : Str) : z.length = (TL.tl z).length := rfl
theorem join_le {M : Nat} : ∀ {ys : List Str}, (∀ z ∈ ys, z.length ≤ M) → (Txt.join NO ys).length ≤ ys.length * M := by
  intro ys h
  rw [len_tl, tl_cat]
  induction ys with
  | nil => simp
  | cons a r ih =>
    have h1 := h a (by simp)
    have h2 := ih fun z hz => h z (by simp [hz])
    rw [len_tl] at h1
    rw [List.map_cons, List.flatten_cons, List.length_append, List.length_cons, Nat.succ_mul]
    omega
theorem join_ge {ys : List Str} (hne : ys ≠ []) (h : ∀ z ∈ ys, 1 ≤ z.length) : 1 ≤ (Txt.join NO ys).length := by
  rw [len_tl, tl_cat]
  cases ys with
  | nil => exact absurd rfl hne
  | cons a r =>
    have := h a (by simp)
    rw [len_tl] at this
    rw [List.map_cons, List.flatten_cons, List.length_append]
    omega
theorem cut_strs (ls : List Str) (lo hi : Option Int) : ∃ ys : List Str, cutV (ls.map V.str) lo hi = ys.map V.str ∧ (∀ z ∈ ys, z ∈ ls) ∧ ys.length ≤ ls.length := by
  refine ⟨(ls.drop (HT.sIx (ls.map V.str).length 0 lo)).take (HT.sIx (ls.map V.str).length (ls.map V.str).length hi - HT.sIx (ls.map V.str).length 0 lo), ?_, fun z hz => List.mem_of_mem_drop (List.mem_of_mem_take hz), ?_⟩
  · unfold cutV
    rw [List.map_take, List.map_drop]
  · rw [List.length_take, List.length_drop]
    omega
theorem cut_len (z : Str) (lo hi : Option Int) : (cutS z lo hi).length ≤ z.length := by
  unfold cutS
  show (List.toArray _).size ≤ z.cps.size
  rw [List.size_toArray, List.length_take, List.length_drop, Array.length_toList]
  omega
theorem sum_len {M : Nat} : ∀ {ys : List Str}, (∀ z ∈ ys, z.length ≤ M) → (ys.map (·.length)).sum ≤ ys.length * M := by
  intro ys h
  induction ys with
  | nil => simp
  | cons a r ih =>
    have h1 := h a (by simp)
    have h2 := ih fun z hz => h z (by simp [hz])
    rw [List.map_cons, List.sum_cons, List.length_cons, Nat.succ_mul]
    omega
theorem scSpoilt : FnScope ["_law_draws", "_law_lines_here", "_law_sort", "_law_at_here", "_law_text", "_law_spot", "_law_sign", "_law_rest"] ["_law_draws", "_law_lines_here"] (defScope sSpoilt) := ⟨rfl, rfl, rfl, by decide +kernel, rfl, by decide +kernel, by decide +kernel⟩
def spSpoilt : Sp := fun vs H Q _ => ∃ (D l : Addr) (ls : List Str), vs = [.ref D, .ref l] ∧ DrawsAt H D ∧ H l = some (.lst (ls.map V.str)) ∧ l ≠ D ∧ ls.length ≤ 40 ∧ ls ≠ [] ∧ (∀ z ∈ ls, 1 ≤ z.length ∧ z.length ≤ 3000) ∧ ∀ H' z, But D H H' → DrawsAt H' D → z.length ≤ 1000000 → Q (.str z) H'
theorem cl_spoilt (T : Txt w K mg) (C__law_take : Cl P w K mg base CX0 1 "_law_take" spTake) (C__law_pick : Cl P w K mg base CX0 2 "_law_pick" spPick) : Cl P w K mg base CX0 3 "_law_spoilt" spSpoilt := by
  refine cl_def T (i := 65) (j := 41) rfl (by decide +kernel) scSpoilt (fun _ _ _ _ _ _ us hl => match us, hl with | [_, _], _ => rfl) (fun vs H Q E h => ?_) (fun cdv A outer s H vs Q E hr h => ?_)
  · obtain ⟨D, l, ls, rfl, _⟩ := h
    rfl
  · obtain ⟨D, l, ls, rfl, hD, hl, hlD, hn, hne, hb, kk⟩ := h
    refine ⟨_, (pss_cons (ps_par3 (i := 2) (j := 3) (l := 4) rfl scSpoilt.nd rfl rfl rfl (by decide) (by decide) (by decide) rfl rfl rfl (pa_cons (pe_cl C__law_take hr (by decide) pass0 rfl (pa_cons (pv 0) (pa_cons pe_int pa_nil))) (pa_cons (pe_cl C__law_take hr (by decide) pass0 rfl (pa_cons (pv 0) (pa_cons (pe_callB call_len_seq (by rfl) (fr T "len") boot_len (pa_cons (pv 1) pa_nil)) pa_nil))) (pa_cons (pJoin (K := K) rfl pe_str (pv 1)) pa_nil))) (by rfl))
      (pss_cons (ps_set (i := 5) scSpoilt.nd rfl (by first | exact Or.inl rfl | exact Or.inr rfl) (pe_cl C__law_take hr (by decide) pass0 rfl (pa_cons (pv 0) (pa_cons (pe_callB call_len (by rfl) (fr T "len") boot_len (pa_cons (pv 4) pa_nil)) pa_nil))))
      (pss_cons (ps_set (i := 6) scSpoilt.nd rfl (by first | exact Or.inl rfl | exact Or.inr rfl) (pe_cl C__law_pick hr (by decide) pass0 rfl (pa_cons (pv 0) (pa_cons (pe_lst (pa_cons pe_str (pa_cons pe_str (pa_cons pe_str (pa_cons pe_str (pa_cons pe_str (pa_cons pe_str (pa_cons pe_str (pa_cons pe_str (pa_cons pe_str (pa_cons pe_str (pa_cons pe_str pa_nil)))))))))))) pa_nil))))
      (pss_cons (ps_if (pt_cmpR op_eq (pv 2) pe_int (nomark _)) (pss_one (ps_ret (pe_op op_add_str (pe_op op_add_str (pe_slice sl_str (pv 4) po_none (po_some (pv 5))) (pv 6)) (pe_slice sl_str (pv 4) (po_some (pv 5)) po_none)))) pss_nil)
      (pss_cons (ps_if (pt_cmpR op_eq (pv 2) pe_int (nomark _)) (pss_one (ps_ret (pe_op op_add_str (pe_slice sl_str (pv 4) po_none (po_some (pv 5))) (pe_slice sl_str (pv 4) (po_some (pe_op op_add (pv 5) pe_int)) po_none)))) pss_nil)
      (pss_cons (ps_if (pt_cmpR op_eq (pv 2) pe_int (nomark _)) (pss_one (ps_ret (pJoin (K := K) rfl pe_str (pe_op op_cat (pe_slice sl_list (pv 1) po_none (po_some (pv 3))) (pe_slice sl_list (pv 1) (po_some (pe_op op_add (pv 3) pe_int)) po_none))))) pss_nil)
      (pss_cons (ps_if (pt_cmpR op_eq (pv 2) pe_int (nomark _)) (pss_cons (ps_set (i := 7) scSpoilt.nd rfl (by first | exact Or.inl rfl | exact Or.inr rfl) (pe_op op_cat (pe_slice sl_list (pv 1) (po_some (pv 3)) (po_some (pe_op op_add (pv 3) pe_int))) (pe_slice sl_list (pv 1) (po_some (pv 3)) po_none)))
      (pss_one (ps_ret (pJoin (K := K) rfl pe_str (pe_op op_cat (pe_slice sl_list (pv 1) po_none (po_some (pv 3))) (pv 7)))))) pss_nil)
      (pss_cons (ps_if (pt_cmpR op_eq (pv 2) pe_int (nomark _)) (pss_one (ps_ret (pe_slice sl_str (pv 4) po_none (po_some (pe_un un_neg pe_int))))) pss_nil)
      (pss_cons (ps_if (pt_cmpR op_eq (pv 2) pe_int (nomark _)) (pss_one (ps_ret (pe_op op_add_str (pv 4) (pe_cl C__law_pick hr (by decide) pass0 rfl (pa_cons (pv 0) (pa_cons (pe_lst (pa_cons pe_str (pa_cons pe_str (pa_cons pe_str (pa_cons pe_str (pa_cons pe_str pa_nil)))))) pa_nil)))))) pss_nil)
      (pss_cons (ps_if (pt_cmpR op_eq (pv 2) pe_int (nomark _)) (pss_cons (ps_set (i := 7) scSpoilt.nd rfl (by first | exact Or.inl rfl | exact Or.inr rfl) (pe_op op_cat (pe_lst (pa_cons (pe_op op_add_str (pe_op op_add_str (pe_op op_add_str (pe_slice sl_str (pe_ix ix_list (pv 1) (pv 3) (fun _ _ => rfl)) po_none (po_some (pe_un un_neg pe_int))) pe_str) (pv 6)) pe_str) pa_nil)) (pe_slice sl_list (pv 1) (po_some (pe_op op_add (pv 3) pe_int)) po_none)))
      (pss_one (ps_ret (pJoin (K := K) rfl pe_str (pe_op op_cat (pe_slice sl_list (pv 1) po_none (po_some (pv 3))) (pv 7)))))) pss_nil)
      (pss_ifK op_eq (pv 2) (pss_one (ps_ret (pJoin (K := K) rfl pe_str (pe_op op_cat (pe_slice sl_list (pv 1) po_none (po_some (pv 3))) (pe_revL (pe_slice sl_list (pv 1) (po_some (pv 3)) po_none)))))) (CwR.psst_one (CwR.pst_ret (pet_repl1 (pv 4))))))))))))))), ?_⟩
    have sl : sizeLine = 16777216 := sizeLine_eq
    have hls : ∀ ys : List Str, (∀ z ∈ ys, z ∈ ls) → ∀ z ∈ ys, z.length ≤ 3100 := fun ys h z hz => Nat.le_trans (hb z (h z hz)).2 (by decide)
    have e0 : NO.length = 0 := by decide +kernel
    have hne' : 0 < ls.length := List.length_pos_iff.mpr hne
    refine ⟨_, rfl, D, _, rfl, hD, by decide, fun H1 so b1 d1 so0 so1 => ?_⟩
    refine ⟨_, rfl, _, rfl, _, _, rfl, .inl (SqL.of (b1 _ _ hlD hl)), D, _, rfl, d1, by rw [List.length_map]; omega, fun H2 at2 b2 d2 at0 at1 => ?_⟩
    have b12 := b1.trans b2
    have hl2 := b12 _ _ hlD hl
    have hM := join_le (M := 3000) (fun z hz => (hb z hz).2)
    have hsum := sum_len (M := 3000) (fun z hz => (hb z hz).2)
    have h40 : ls.length * 3000 ≤ 40 * 3000 := Nat.mul_le_mul_right _ hn
    have hge := join_ge hne (fun z hz => (hb z hz).1)
    refine ⟨⟨_, rfl⟩, _, rfl, _, l, ls, rfl, rfl, .inl (.inl (.inl hl2)), by rw [show ("" : Str).length = 0 from e0]; omega, ?_⟩
    refine ⟨_, _, _, rfl, ?_⟩
    generalize htx : Txt.join NO ls = tx at hM hge ⊢
    have htl : tx.length ≤ 120000 := by omega
    refine ⟨_, rfl, _, rfl, _, _, rfl, ⟨by omega, rfl⟩, D, _, rfl, d2, by omega, fun H3 sp b3 d3 sp0 sp1 => ?_⟩
    have b13 := b12.trans b3
    refine ⟨_, rfl, (by show 11 ≤ sizeLine; omega), fun sl hsl => ?_⟩
    have slD := d3.ne hsl
    refine ⟨D, sl, _, rfl, d3.new hsl, upd_same, slD, by simp, fun H4 x b4 d4 hx => ?_⟩
    have b14 : But D H H4 := (b13.new hsl).trans b4
    obtain ⟨sg, rfl, hsg⟩ : ∃ sg : Str, x = .str sg ∧ sg.length ≤ 30 := by
      have hx' : x ∈ (["0", "1", "9", " ", "\n", "a", "yes", "once", "raise", "add 0", "-"] : List Str).map V.str := hx
      obtain ⟨z, hz, rfl⟩ := List.mem_map.mp hx'
      exact ⟨z, rfl, of_decide_eq_true (List.all_eq_true.mp (show (["0", "1", "9", " ", "\n", "a", "yes", "once", "raise", "add 0", "-"] : List Str).all (fun z => decide (z.length ≤ 30)) = true by decide +kernel) z hz)⟩
    have hl4 := b14 _ _ hlD hl
    clear hx b4 slD hsl b13 b3 d3
    have cl : ∀ lo hi, (cutS tx lo hi).length ≤ 120000 := fun lo hi => Nat.le_trans (cut_len tx lo hi) htl
    have fin : ∀ (H5 : Hp) (p : Addr) (ys : List Str), But D H H5 → DrawsAt H5 D → H5 p = some (.lst (ys.map V.str)) → ys.length ≤ 200 → (∀ z ∈ ys, z.length ≤ 3100) → rJoin K (.str NO) [.ref p] H5 Q := by
      intro H5 p ys b5 d5 hp hy hz
      have h1 := sum_len hz
      have h2 := join_le hz
      have h3 : ys.length * 3100 ≤ 200 * 3100 := Nat.mul_le_mul_right _ hy
      exact ⟨_, p, ys, rfl, rfl, .inl (.inl (.inl hp)), by rw [e0]; omega, kk _ _ b5 d5 (by omega)⟩
    have cat : ∀ (H5 : Hp) (p1 p2 : Addr) (ys1 ys2 : List Str), But D H H5 → DrawsAt H5 D → H5 p1 = some (.lst (ys1.map V.str)) → H5 p2 = some (.lst (ys2.map V.str)) → ys1.length + ys2.length ≤ 200 → (∀ z ∈ ys1, z.length ≤ 3100) → (∀ z ∈ ys2, z.length ≤ 3100) → rCat (.ref p1) (.ref p2) H5 (fun v H6 => rJoin K (.str NO) [v] H6 Q) := by
      intro H5 p1 p2 ys1 ys2 b5 d5 h1 h2 hy hz1 hz2
      refine ⟨_, _, _, _, rfl, rfl, h1, h2, by rw [List.length_map, List.length_map]; omega, fun n hn => ?_⟩
      refine fin _ n (ys1 ++ ys2) (b5.new hn) (d5.new hn) (by rw [upd_same, List.map_append]) (by rw [List.length_append]; omega) fun z hz => ?_
      rcases List.mem_append.mp hz with hz | hz
      · exact hz1 z hz
      · exact hz2 z hz
    refine ⟨_, rfl, rfl, _, rfl, ?_⟩
    by_cases c0 : so = 0
    · refine iteT' (decide_eq_true (by rw [c0])) ?_
      have h1 := cl none (some sp)
      have h2 := cl (some sp) none
      refine ⟨_, rfl, _, rfl, _, rfl, tx, rfl, by omega, _, rfl, _, _, rfl, rfl, by omega, ?_⟩
      refine ⟨_, rfl, _, rfl, _, rfl, tx, rfl, by omega, _, _, rfl, rfl, by rw [Str.length_append]; omega, ?_⟩
      exact kk _ _ b14 d4 (by rw [Str.length_append, Str.length_append]; omega)
    refine iteF' (decide_eq_false (fun z => c0 (by injection z))) ?_
    refine ⟨_, rfl, rfl, _, rfl, ?_⟩
    by_cases c1 : so = 1
    · refine iteT' (decide_eq_true (by rw [c1])) ?_
      have h1 := cl none (some sp)
      have h2 := cl (some (sp + 1)) none
      refine ⟨_, rfl, _, rfl, _, rfl, tx, rfl, by omega, ?_⟩
      refine ⟨_, rfl, _, rfl, _, _, rfl, rfl, _, rfl, tx, rfl, by omega, _, _, rfl, rfl, by omega, ?_⟩
      exact kk _ _ b14 d4 (by rw [Str.length_append]; omega)
    refine iteF' (decide_eq_false (fun z => c1 (by injection z))) ?_
    refine ⟨_, rfl, rfl, _, rfl, ?_⟩
    by_cases c2 : so = 2
    · refine iteT' (decide_eq_true (by rw [c2])) ?_
      obtain ⟨y1, e1, m1, n1⟩ := cut_strs ls none (some at2)
      obtain ⟨y2, e2, m2, n2⟩ := cut_strs ls (some (at2 + 1)) none
      refine ⟨⟨_, rfl⟩, _, rfl, _, rfl, _, rfl, _, _, rfl, SqL.of hl4, fun p1 hp1 => ?_⟩
      rw [e1]
      refine ⟨_, rfl, _, rfl, _, _, rfl, rfl, _, rfl, _, _, rfl, SqL.of (Same.new hp1 _ _ hl4), fun p2 hp2 => ?_⟩
      rw [e2]
      exact cat _ p1 p2 y1 y2 ((b14.new hp1).new hp2) ((d4.new hp1).new hp2) (Same.new hp2 _ _ upd_same) upd_same (by omega) (hls y1 m1) (hls y2 m2)
    refine iteF' (decide_eq_false (fun z => c2 (by injection z))) ?_
    refine ⟨_, rfl, rfl, _, rfl, ?_⟩
    by_cases c3 : so = 3
    · refine iteT' (decide_eq_true (by rw [c3])) ?_
      obtain ⟨y1, e1, m1, n1⟩ := cut_strs ls (some at2) (some (at2 + 1))
      obtain ⟨y2, e2, m2, n2⟩ := cut_strs ls (some at2) none
      obtain ⟨y3, e3, m3, n3⟩ := cut_strs ls none (some at2)
      refine ⟨_, rfl, _, rfl, _, rfl, _, rfl, _, _, rfl, rfl, _, rfl, _, _, rfl, SqL.of hl4, fun p1 hp1 => ?_⟩
      rw [e1]
      refine ⟨_, rfl, _, rfl, _, rfl, _, _, rfl, SqL.of (Same.new hp1 _ _ hl4), fun p2 hp2 => ?_⟩
      rw [e2]
      have b16 := (b14.new (o := .lst (y1.map V.str)) hp1).new (o := .lst (y2.map V.str)) hp2
      have d6 := (d4.new (o := .lst (y1.map V.str)) hp1).new (o := .lst (y2.map V.str)) hp2
      refine ⟨_, _, _, _, rfl, rfl, Same.new hp2 _ _ upd_same, upd_same, by rw [List.length_map, List.length_map]; omega, fun n7 hn7 => ?_⟩
      have b17 := b16.new (o := .lst (y1.map V.str ++ y2.map V.str)) hn7
      have d7 := d6.new (o := .lst (y1.map V.str ++ y2.map V.str)) hn7
      have hl7 := b17 _ _ hlD hl
      have hn7' : (upd (upd (upd H4 p1 (.lst (y1.map V.str))) p2 (.lst (y2.map V.str))) n7 (.lst (y1.map V.str ++ y2.map V.str))) n7 = some (.lst ((y1 ++ y2).map V.str)) := by rw [upd_same, List.map_append]
      generalize (upd (upd (upd H4 p1 (.lst (y1.map V.str))) p2 (.lst (y2.map V.str))) n7 (.lst (y1.map V.str ++ y2.map V.str))) = H7 at b17 d7 hl7 hn7' ⊢
      refine ⟨⟨_, rfl⟩, _, rfl, _, rfl, _, rfl, _, _, rfl, SqL.of hl7, fun p3 hp3 => ?_⟩
      rw [e3]
      refine ⟨_, rfl, ?_⟩
      refine cat _ p3 n7 y3 (y1 ++ y2) (b17.new hp3) (d7.new hp3) upd_same (Same.new hp3 _ _ hn7') (by rw [List.length_append]; omega) (hls y3 m3) fun z hz => ?_
      rcases List.mem_append.mp hz with hz | hz
      · exact hls y1 m1 z hz
      · exact hls y2 m2 z hz
    refine iteF' (decide_eq_false (fun z => c3 (by injection z))) ?_
    refine ⟨_, rfl, rfl, _, rfl, ?_⟩
    by_cases c4 : so = 4
    · refine iteT' (decide_eq_true (by rw [c4])) ?_
      refine ⟨_, rfl, _, rfl, _, rfl, tx, rfl, by omega, ?_⟩
      exact kk _ _ b14 d4 (by have := cl none (some (-1)); omega)
    refine iteF' (decide_eq_false (fun z => c4 (by injection z))) ?_
    refine ⟨_, rfl, rfl, _, rfl, ?_⟩
    by_cases c5 : so = 5
    · refine iteT' (decide_eq_true (by rw [c5])) ?_
      refine ⟨_, rfl, _, rfl, (by show 5 ≤ sizeLine; omega), fun s5 hs5 => ?_⟩
      have s5D := d4.ne hs5
      refine ⟨D, s5, _, rfl, d4.new hs5, upd_same, s5D, by simp, fun H5 x b5 d5 hx => ?_⟩
      obtain ⟨z5, rfl, hz5⟩ : ∃ z5 : Str, x = .str z5 ∧ z5.length ≤ 30 := by
        have hx' : x ∈ (["x", "\n", "kind 0 once\n", "kind 0 always add 9\n", " "] : List Str).map V.str := hx
        obtain ⟨z, hz, rfl⟩ := List.mem_map.mp hx'
        exact ⟨z, rfl, of_decide_eq_true (List.all_eq_true.mp (show (["x", "\n", "kind 0 once\n", "kind 0 always add 9\n", " "] : List Str).all (fun z => decide (z.length ≤ 30)) = true by decide +kernel) z hz)⟩
      refine ⟨_, _, rfl, rfl, by omega, ?_⟩
      exact kk _ _ ((b14.new hs5).trans b5) d5 (by rw [Str.length_append]; omega)
    refine iteF' (decide_eq_false (fun z => c5 (by injection z))) ?_
    refine ⟨_, rfl, rfl, _, rfl, ?_⟩
    by_cases c6 : so = 6
    · refine iteT' (decide_eq_true (by rw [c6])) ?_
      obtain ⟨j, rfl⟩ := Int.eq_ofNat_of_zero_le at0
      rw [List.length_map] at at1
      have hj : j < ls.length := by omega
      have hx : atI (ls.map V.str) (j : Int) = some (.str ls[j]) := atI_nat (by rw [List.getElem?_map, List.getElem?_eq_getElem hj] <;> rfl)
      obtain ⟨y2, e2, m2, n2⟩ := cut_strs ls (some ((j : Int) + 1)) none
      obtain ⟨y3, e3, m3, n3⟩ := cut_strs ls none (some (j : Int))
      have hlj := (hb ls[j] (List.getElem_mem hj)).2
      have hc := cut_len ls[j] none (some (-1))
      have esp : (" " : Str).length = 1 := by decide +kernel
      have enl : ("\n" : Str).length = 1 := by decide +kernel
      have el : (((cutS ls[j] none (some (-1)) ++ " ") ++ sg) ++ "\n").length ≤ 3100 := by
        rw [Str.length_append, Str.length_append, Str.length_append, esp, enl]
        omega
      refine ⟨_, rfl, _, rfl, _, _, _, _, rfl, rfl, SqL.of hl4, hx, _, rfl, _, rfl, ls[j], rfl, by omega, _, _, rfl, rfl, by rw [esp]; omega, _, rfl, _, _, rfl, rfl, by rw [Str.length_append, esp]; omega, _, _, rfl, rfl, by rw [Str.length_append, Str.length_append, esp, enl]; omega, (by show 1 ≤ sizeLine; omega), fun p1 hp1 => ?_⟩
      generalize hel : (((cutS ls[j] none (some (-1)) ++ " ") ++ sg) ++ "\n") = el1 at el
      refine ⟨_, rfl, _, rfl, _, _, rfl, rfl, _, rfl, _, _, rfl, SqL.of (Same.new hp1 _ _ hl4), fun p2 hp2 => ?_⟩
      rw [e2]
      have b16 := (b14.new (o := .lst [V.str el1]) hp1).new (o := .lst (y2.map V.str)) hp2
      have d6 := (d4.new (o := .lst [V.str el1]) hp1).new (o := .lst (y2.map V.str)) hp2
      refine ⟨_, _, _, _, rfl, rfl, Same.new hp2 _ _ upd_same, upd_same, by rw [List.length_map]; show 1 + _ ≤ _; omega, fun n7 hn7 => ?_⟩
      have b17 := b16.new (o := .lst ([V.str el1] ++ y2.map V.str)) hn7
      have d7 := d6.new (o := .lst ([V.str el1] ++ y2.map V.str)) hn7
      have hl7 := b17 _ _ hlD hl
      have hn7' : (upd (upd (upd H4 p1 (.lst [V.str el1])) p2 (.lst (y2.map V.str))) n7 (.lst ([V.str el1] ++ y2.map V.str))) n7 = some (.lst ((el1 :: y2).map V.str)) := by rw [upd_same, List.map_cons]; rfl
      generalize (upd (upd (upd H4 p1 (.lst [V.str el1])) p2 (.lst (y2.map V.str))) n7 (.lst ([V.str el1] ++ y2.map V.str))) = H7 at b17 d7 hl7 hn7' ⊢
      refine ⟨⟨_, rfl⟩, _, rfl, _, rfl, _, rfl, _, _, rfl, SqL.of hl7, fun p3 hp3 => ?_⟩
      rw [e3]
      refine ⟨_, rfl, ?_⟩
      refine cat _ p3 n7 y3 (el1 :: y2) (b17.new hp3) (d7.new hp3) upd_same (Same.new hp3 _ _ hn7') (by rw [List.length_cons]; omega) (hls y3 m3) fun z hz => ?_
      rcases List.mem_cons.mp hz with rfl | hz
      · exact el
      · exact hls y2 m2 z hz
    refine iteF' (decide_eq_false (fun z => c6 (by injection z))) ?_
    refine ⟨_, rfl, rfl, _, rfl, ?_⟩
    by_cases c7 : so = 7
    · refine iteT' (decide_eq_true (by rw [c7])) ?_
      obtain ⟨y1, e1, m1, n1⟩ := cut_strs ls none (some at2)
      obtain ⟨y2, e2, m2, n2⟩ := cut_strs ls (some at2) none
      refine ⟨⟨_, rfl⟩, _, rfl, _, rfl, _, rfl, _, _, rfl, SqL.of hl4, fun p1 hp1 => ?_⟩
      rw [e1]
      refine ⟨_, rfl, _, rfl, _, rfl, _, _, rfl, SqL.of (Same.new hp1 _ _ hl4), fun p2 hp2 => ?_⟩
      rw [e2]
      refine ⟨p2, _, rfl, SqL.of upd_same, fun p3 hp3 => ?_⟩
      refine cat _ p1 p3 y1 y2.reverse (((b14.new hp1).new hp2).new hp3) (((d4.new hp1).new hp2).new hp3) (Same.new hp3 _ _ (Same.new hp2 _ _ upd_same)) (by rw [upd_same, List.map_reverse]) (by rw [List.length_reverse]; omega) (hls y1 m1) fun z hz => hls y2 m2 z (List.mem_reverse.mp hz)
    refine iteF' (decide_eq_false (fun z => c7 (by injection z))) ?_
    have e2sp : ("  " : Str).length = 2 := by decide +kernel
    refine ⟨_, rfl, tx, rfl, ?_, fun r hr => kk _ _ b14 d4 ?_⟩
    · rw [e2sp]; omega
    · rw [e2sp] at hr; omega
end K5
set_option Elab.async false
set_option linter.all false
set_option maxRecDepth 100000
set_option maxHeartbeats 4000000
namespace K5
open PySem PySem.Spec PyProof.Rows L2
/-! ### all but the draws and the tables stay -/
def ButN (D : Addr) (H H' : Hp) : Prop := ∀ b o, b ≠ D → (∀ ps, o ≠ .tbl ps) → H b = some o → H' b = some o
theorem ButN.refl (D : Addr) (H : Hp) : ButN D H H := fun _ _ _ _ h => h
theorem ButN.trans {D : Addr} {H H1 H2 : Hp} (a : ButN D H H1) (b : ButN D H1 H2) : ButN D H H2 := fun c o n m h => b c o n m (a c o n m h)
theorem ButN.ofBut {D : Addr} {H H' : Hp} (b : But D H H') : ButN D H H' := fun c o n _ h => b c o n h
theorem ButN.of {D : Addr} {H H' : Hp} (s : Same H H') : ButN D H H' := fun c o _ _ h => s c o h
theorem ButN.ext {D : Addr} {H H' : Hp} (e : LamX.ExtN H H') : ButN D H H' := fun c o _ m h => e c o h m
theorem ButN.kt {D : Addr} {H H' : Hp} (b : ButN D H H') (hD : DrawsAt H D) : Kt H H' := fun c xs e => by
  obtain ⟨ds, hD⟩ := hD
  exact b c _ (ne_of e hD (by intro z; cases z)) (fun _ z => by cases z) e
theorem ButN.lst {D l : Addr} {H H' : Hp} {xs : List V} (b : ButN D H H') (h : H l = some (.lst xs)) (n : l ≠ D) : H' l = some (.lst xs) := b l _ n (fun _ z => by cases z) h
theorem DrawsAt.ext {D : Addr} {H H' : Hp} (e : LamX.ExtN H H') (h : DrawsAt H D) : DrawsAt H' D := by
  obtain ⟨ds, h⟩ := h
  exact ⟨ds, e _ _ h (fun _ z => by cases z)⟩
theorem DrawsAt.same {D : Addr} {H H' : Hp} (e : Same H H') (h : DrawsAt H D) : DrawsAt H' D := by
  obtain ⟨ds, h⟩ := h
  exact ⟨ds, e _ _ h⟩
theorem PlanAt.butN {D : Addr} {H H' : Hp} {v : V} {h : HallD} (b : ButN D H H') (hD : DrawsAt H D) (x : PlanAt H v h) : PlanAt H' v h := by
  obtain ⟨p, d, t, e, h1, h2, h3, h4⟩ := x
  have k := b.kt hD
  obtain ⟨ds, hD⟩ := hD
  exact ⟨p, d, t, e, k _ _ h1, h2.mono k, b _ _ (ne_of h3 hD (by intro z; cases z)) (fun _ z => by cases z) h3, h4⟩
theorem HallAt.butN {K : PySem.W.Frag} {D : Addr} {H H' : Hp} {v : V} {h : HallD} (b : ButN D H H') (hD : DrawsAt H D) (x : HallAt K H v h) : HallAt K H' v h := by
  obtain ⟨p, dx, t, e, h1, h2, h3⟩ := x
  have k := b.kt hD
  obtain ⟨ds, hD⟩ := hD
  exact ⟨p, dx, t, e, b _ _ (ne_of h1 hD (by intro z; cases z)) (fun _ z => by cases z) h1, h2.mono k, h3⟩
theorem tabs_but {T : List (Addr × Str)} {D : Addr} {H H' : Hp} (b : But D H H') (hD : DrawsAt H D) (t : LamX.Tabs T H) : LamX.Tabs T H' := by
  obtain ⟨ds, hD⟩ := hD
  intro p hp
  obtain ⟨ps, h1, h2, h3⟩ := t p hp
  refine ⟨ps, b _ _ (ne_of h1 hD (by intro z; cases z)) h1, h2, fun pos cv hc => ?_⟩
  obtain ⟨c, e1, e2⟩ := h3 pos cv hc
  exact ⟨c, e1, b _ _ (ne_of e2 hD (by intro z; unfold LamX.CodeO at z; cases z)) e2⟩
/-! ### _law_at(lambda: ..) -/
theorem pass_noL {X : Cx} : Passes (L2.CX X.prog X.w) X (fun _ _ _ => False) := fun _ _ _ _ _ _ _ c => by
  obtain ⟨_, _, _, _, _, _, _, _, _, _, _, _, h⟩ := c
  exact h.elim
def lamQ : Str := (("law" : Str) ++ ".<locals>.") ++ "<lambda>"
theorem pe_at {X : Cx} {c P : Addr} {k : Nat} {params : Arguments} {body : Expr} {scope : Scope} {t : XK → TE} {p lpos pos : Pos} (T : Txt X.w X.K X.mg) (TB : LamX.TabB X.base X.mg c P) (hcode : X.env.code = .ref c) (hq : X.env.qual = ("law" : Str) ++ ".<locals>.") (hr : Room (k + 2) X.A) (L : LamX.LamS X.env.scope scope) (hg : Gl X "_law_at" := by rfl)
    (hdef : defaultsOf params X.env = ([], []) := by rfl)
    (hbind : ∀ (q : Str) (cl : List (Str × Addr)) (pm cv ctv : Value), bindArgs (PySem.W.kla_fn "<lambda>" q params body scope cl pm cv ctv) ⟨[], []⟩ = pure [] := by exact fun _ _ _ _ _ => rfl)
    (hbody : ∀ (A : Around) (outer : List Env) (s : Shared) (H : Hp) (E : XK) (f c' : Addr), Room k (A.deeper (LamX.lamEnv X scope s.heap.objs.size f c')) → PE (LamX.lamCx X A outer s H E scope f c') body (t E)) :
    PE X (.Call (.Name "_law_at" p) [.Lambda params body scope lpos] [] pos) (LamX.tLam [(P, lamQ)] (TRow (He.ga X.K "BadText")) t) := by
  have hq2 : X.env.qual ++ "<lambda>" = lamQ := by
    rw [hq]
    rfl
  rw [← hq2]
  obtain ⟨fd, F⟩ := T.fnD 40 _ (show fn[40]? = some (dG 64 "_law_at") from rfl)
  have F' : FunD X.K "_law_at" "_law_at" (defArgs sAt) (defBody sAt) (defScope sAt) [] [] (He.ga X.K "_law_at") fd := F
  have hb := F'.bindsN (ps := ["_law_ask"]) fun _ _ _ _ _ _ us hl => match us, hl with | [_], _ => rfl
  obtain ⟨oc, od, dV, kV, doc, pm, an, cdv, ct, osl, rfl, lk, hcd, _, _⟩ := F'.ex
  exact LamX.pe_lamcall hg (T.glo "_law_at" (by decide +kernel)) F'.kp lk hcd hb scAt rfl (.inl rfl) (at_gives T.bt.mgC ⟨T.bt.ga, T.bt.gg, T.bt.oex.exC, T.bt.hd⟩ T.bt.noF T.bt.exm) TB hcode (List.mem_singleton.mpr rfl) (fun p hp _ => by rw [List.mem_singleton.mp hp]) hr L hdef hbind hbody
end K5
set_option Elab.async false
set_option linter.all false
set_option maxRecDepth 100000
set_option maxHeartbeats 4000000
/-! Histories: what law's second half asks, in plain words. -/
namespace K5
open PySem PySem.Spec PyProof.Rows L2
theorem hist_lines (ds : List Deed) : Txt.join NO (ds.map lineOf) = histText ds := by
  unfold histText rowsText lined
  rw [List.map_map, List.map_map]
  rfl
theorem deed_short {d : Deed} (h : d.2 < 10) : (deedRow d).length ≤ 40 ∧ ∀ z ∈ deedRow d, z.length ≤ 40 := by
  refine ⟨(by show 2 ≤ 40; decide), fun z hz => ?_⟩
  rcases List.mem_cons.mp hz with rfl | hz
  · cases d.1 <;> decide +kernel
  · rw [List.mem_singleton.mp hz, dig_len h]
    decide
theorem line_len {d : Deed} (h : d.2 < 10) : 1 ≤ (lineOf d).length ∧ (lineOf d).length ≤ 3000 := by
  have h1 := row_len (deed_short h)
  have nl : NL.length = 1 := by decide +kernel
  unfold lineOf
  rw [Str.length_append, nl]
  omega
theorem deed_words {H : Hp} {v : V} {d : Deed} (h : DeedAt H v d) (hd : d.2 < 10) : ∃ p us, v = .ref p ∧ H p = some (.tup us) ∧ Paired WordV us (deedRow d) := by
  obtain ⟨p, e, hp⟩ := h
  exact ⟨p, _, e, hp, .cons (.inl rfl) (.cons (.inr ⟨d.2, hd, rfl, rfl⟩) .nil)⟩
def deedD (d : Deed) : PyData := .tuple [.str d.1.s, .int d.2]
theorem deedsDp {K : PySem.W.Frag} {H : Hp} {v : V} {ds : List Deed} (h : DeedsAt H v ds) : Dp K H v (.list (ds.map deedD)) := by
  obtain ⟨p, vs, rfl, hp, pr⟩ := h
  refine .lst (SqL.of hp) (dpAll_map (F := DeedAt H) (f := deedD) (fun v d hd => ?_) pr)
  obtain ⟨q, rfl, hq⟩ := hd
  exact .tup (SqT.of hq) (.cons (.str _) (.cons (.int _) .nil))
theorem deedsD_plain (ds : List Deed) : PyData.plain (.list (ds.map deedD)) = true := plain_map (fun _ => rfl) ds
theorem deedsD_depth (ds : List Deed) : PyData.depth (.list (ds.map deedD)) ≤ 64 := by
  have h := depth_map (f := deedD) (n := 8) (fun d => by simp [deedD, PyData.depth, PyData.depthAll]) ds
  show PyData.depthAll (ds.map deedD) + 1 ≤ 64
  omega
theorem strsDp {K : PySem.W.Frag} {H : Hp} {p : Addr} {ls : List Str} (h : H p = some (.lst (ls.map V.str))) : Dp K H (.ref p) (.list (ls.map PyData.str)) := by
  refine .lst (SqL.of h) ?_
  clear h
  induction ls with
  | nil => exact .nil
  | cons a r ih => exact .cons (.str a) ih
theorem intsDp {K : PySem.W.Frag} {H : Hp} {p : Addr} {ls : List Nat} (h : H p = some (.lst (ls.map fun n => V.int (n : Nat)))) : Dp K H (.ref p) (.list (ls.map fun n => PyData.int (n : Nat))) := by
  refine .lst (SqL.of h) ?_
  clear h
  induction ls with
  | nil => exact .nil
  | cons a r ih => exact .cons (.int _) ih
theorem strs_plain (ls : List Str) : PyData.plain (.list (ls.map PyData.str)) = true := plain_map (fun _ => rfl) ls
theorem ints_plain (ls : List Nat) : PyData.plain (.list (ls.map fun n => PyData.int (n : Nat))) = true := plain_map (fun _ => rfl) ls
theorem nilDp {K : PySem.W.Frag} {H : Hp} {p : Addr} (h : H p = some (.lst [])) : Dp K H (.ref p) (.list []) := .lst (SqL.of h) .nil
theorem nil_depth : PyData.depth (.list []) ≤ 64 := by simp [PyData.depth, PyData.depthAll]
theorem bad_app (every : List Str) : ∀ (ls : List Str) (k : Nat) (x : Str), badOf every k (ls ++ [x]) = badOf every k ls ++ (if decide (x ++ NL ∈ every) = true then [] else [k + ls.length])
  | [], k, x => by
    show (if decide (x ++ NL ∈ every) = true then ([] : List Nat) else [k]) = _
    by_cases c : decide (x ++ NL ∈ every) = true
    · rw [if_pos c, if_pos c] <;> rfl
    · rw [if_neg c, if_neg c] <;> rfl
  | l :: r, k, x => by
    show (if decide (l ++ NL ∈ every) = true then badOf every (k + 1) (r ++ [x]) else k :: badOf every (k + 1) (r ++ [x])) = (if decide (l ++ NL ∈ every) = true then badOf every (k + 1) r else k :: badOf every (k + 1) r) ++ _
    have ih := bad_app every r (k + 1) x
    have e : k + 1 + r.length = k + (l :: r).length := by rw [List.length_cons]; omega
    rw [e] at ih
    by_cases c : decide (l ++ NL ∈ every) = true
    · rw [if_pos c, if_pos c, ih]
    · rw [if_neg c, if_neg c, ih, List.cons_append]
theorem bad_len (every : List Str) : ∀ (ls : List Str) (k : Nat), (badOf every k ls).length ≤ ls.length
  | [], _ => Nat.le_refl _
  | l :: r, k => by
    show (if decide (l ++ NL ∈ every) = true then badOf every (k + 1) r else k :: badOf every (k + 1) r).length ≤ _
    have ih := bad_len every r (k + 1)
    by_cases c : decide (l ++ NL ∈ every) = true
    · rw [if_pos c, List.length_cons]; omega
    · rw [if_neg c, List.length_cons, List.length_cons]; omega
/-- picks of deeds: the list of them so far -/
theorem pick_step {H H' : Hp} {vs : List V} {ds : List Deed} {L : Addr} {x : V} {d : Deed} (k : Kt H H') (n : H L = some (.lst vs)) (h : Paired (DeedAt H) vs ds) (hx : DeedAt H' x d) (hL : H' L = some (.lst vs)) :
    Paired (DeedAt (upd H' L (.lst (vs ++ [x])))) (vs ++ [x]) (ds ++ [d]) := by
  have k2 : Kt H' (upd H' L (.lst (vs ++ [x]))) := fun b ys e => by
    rw [upd_ne (ne_of e hL (by intro z; cases z))]
    exact e
  exact Paired.snoc (paired_mono (fun _ _ f => (f.mono k).mono k2) h) (hx.mono k2)
theorem paired_mem {α : Type} {F : V → α → Prop} : ∀ {vs : List V} {as : List α} {v : V}, Paired F vs as → v ∈ vs → ∃ a, a ∈ as ∧ F v a
  | _, _, _, .nil, e => by cases e
  | _, _, v, .cons r t, e => by
    rcases List.mem_cons.mp e with rfl | e
    · exact ⟨_, by simp, r⟩
    · obtain ⟨a, h1, h2⟩ := paired_mem t e
      exact ⟨a, by simp [h1], h2⟩
theorem allDeeds_ne {ev many : Nat} (h : 1 ≤ many) : allDeeds ev many ≠ [] := by
  intro z
  have : ((W3.add, 0) : Deed) ∈ allDeeds ev many := mem_allDeeds.mpr (decide_eq_true (by omega))
  rw [z] at this
  cases this
theorem lawHist_nil {ev many : Nat} {z : Str} (h : badOf ((allDeeds ev many).map lineOf) 0 (Txt.split z NL).dropLast = []) : lawHist ev many z = if restOf z = NO then none else some (Txt.split z NL).dropLast.length := by
  unfold lawHist
  rw [h]
theorem lawHist_cons {ev many a : Nat} {r : List Nat} {z : Str} (h : badOf ((allDeeds ev many).map lineOf) 0 (Txt.split z NL).dropLast = a :: r) : lawHist ev many z = some a := by
  unfold lawHist
  rw [h]
/-- an assignment whose value is told once -/
theorem asg_val {te : TE} {g : TG} {tb : TS} {D0 : Ends} {σ : L2.St} {H : Hp} {v : V} (h : ∀ Q : VK, (∀ H', Same H H' → Q v H') → te σ H Q) (k : ∀ H', Same H H' → g v σ H' fun σ2 H2 => tb D0 σ2 H2) :
    tSeq (tAsg te g) tb D0 σ H := h _ k
end K5
set_option Elab.async false
set_option linter.all false
set_option maxRecDepth 100000
set_option maxHeartbeats 20000000
namespace K5
open PySem PySem.Spec PyProof.Rows L2
variable {P : Program} {w : World} {K : PySem.W.Frag} {mg : Str → Option Value} {base : Heap}
/-! ### law -/
theorem pgTup {K : PySem.W.Frag} {X : Cx} {elts : List Expr} {kk : Nat} {tpos : Pos} {g : TGs} (hK : X.K = K) (hc : X.calm = true) (h : PGs X elts g) (hn : (assignEach elts X.env).length = elts.length := by rfl) (hst : (assignEach elts X.env).findIdx? (·.1) = none := by rfl) : PG X (.Tuple elts kk tpos) (gTup K elts.length g) := by
  subst hK
  exact pg_tup hc h hn hst
theorem opNotIn {K : PySem.W.Frag} {X : Cx} (hK : X.K = K) : OpR X (compareOp .NotIn) (rIn K true) := by
  subst hK
  exact op_notIn_seq
theorem scLaw : FnScope ["_law_script", "_law_draws", "_law_turn", "_law_plan_here", "_law_hall_here", "_law_lines_here", "_law_more", "_law_text", "_law_due", "_law_past", "_law_rows", "_law_every", "_law_some", "_law_bad", "_law_deed", "_law_row", "_law_line_here"] ["_law_script"] (defScope sLaw) := ⟨rfl, rfl, rfl, by decide +kernel, rfl, by decide +kernel, by decide +kernel⟩
def spLaw (K : PySem.W.Frag) (Pt : Addr) : Sp := fun vs H Q _ => ∃ (a : Addr) (ns : List Int), vs = [.ref a] ∧ SqL K H a (ns.map V.int) ∧ H Pt = some (.tbl #[]) ∧ ∀ H', Q (.bl true) H'
theorem fn_law (T : Txt w K mg) (M : HallM P w K mg base) (C_hall_text : Cl P w K mg base CX0 3 "hall_text" (spHallText K)) (C_history_text : Cl P w K mg base CX0 5 "history_text" (spHistoryText K)) (C_read_hall : Cl P w K mg base (L2.CX P w) 8 "read_hall" (spReadHall K)) (C_read_history : Cl P w K mg base (L2.CX P w) 4 "read_history" (spReadHistory K))
    (C__law_pool : Cl P w K mg base CX0 4 "_law_pool" (spPool K)) (C__law_plan : Cl P w K mg base CX0 3 "_law_plan" spPlan) (C__law_hall : Cl P w K mg base CX0 7 "_law_hall" (spHallL K)) (C__law_lines : Cl P w K mg base CX0 2 "_law_lines" spLines) (C__law_spoilt : Cl P w K mg base CX0 3 "_law_spoilt" spSpoilt)
    (C__law_read : Cl P w K mg base CX0 3 "_law_read" spRead) (C__law_pick : Cl P w K mg base CX0 2 "_law_pick" spPick) (C__law_deeds : Cl P w K mg base CX0 1 "_law_deeds" spDeeds) (C__law_take : Cl P w K mg base CX0 1 "_law_take" spTake) (C__law_line : Cl P w K mg base CX0 1 "_law_line" (spLine K))
    {c Pt : Addr} (TB : LamX.TabB base mg c Pt) {fd : FuncData} (F : FunD K "law" "law" (defArgs sLaw) (defBody sLaw) (defScope sLaw) [] [] (He.ga K "law") fd) (hc : He.codeOf K ("law", none) = c) : FnOk P w K mg base CX0 11 (He.ga K "law") fd ["_law_script"] (spLaw K Pt) := by
  obtain ⟨fe, FE, bE⟩ := M.eq
  obtain ⟨oc, od, dV, kV, doc, pm, an, cdv, ct, osl, rfl, lk, hcd, _, _⟩ := F.ex
  obtain ⟨c', rfl⟩ := He.codeIn_ref hcd
  have e : c' = c := (He.codeOf_eq (p := ("law", none)) lk rfl).symm.trans hc
  subst e
  refine fn_of lk hcd scLaw (fun vs H Q E h => ?_) (fun A outer s H vs Q E hr h => ?_)
  · obtain ⟨a, ns, rfl, _⟩ := h
    rfl
  suffices hh : ∃ t, PSs (cxOf CX0 P w K mg base ["_law_script", "_law_draws", "_law_turn", "_law_plan_here", "_law_hall_here", "_law_lines_here", "_law_more", "_law_text", "_law_due", "_law_past", "_law_rows", "_law_every", "_law_some", "_law_bad", "_law_deed", "_law_row", "_law_line_here"] "law" (defScope sLaw) (He.ga K "law") (.ref c') A outer s H E).nox (defBody sLaw) t ∧ t { nx := fun _ H' => Q .non H', rt := Q } (L2.start ["_law_script", "_law_draws", "_law_turn", "_law_plan_here", "_law_hall_here", "_law_lines_here", "_law_more", "_law_text", "_law_due", "_law_past", "_law_rows", "_law_every", "_law_some", "_law_bad", "_law_deed", "_law_row", "_law_line_here"] vs) H by
    obtain ⟨t, h1, h2⟩ := hh
    exact ⟨t, h1.nox, h2⟩
  obtain ⟨a, ns, rfl, ha, hP, kk⟩ := h
  refine ⟨_, (pss_cons (ps_set (i := 1) scLaw.nd rfl (by first | exact Or.inl rfl | exact Or.inr rfl) (pe_cl C__law_pool hr (by decide) pass0 rfl (pa_cons (pe_slice sl_list (pv 0) po_none (po_some pe_int)) (pa_cons (pe_tup (pa_cons pe_int (pa_cons pe_int (pa_cons pe_int (pa_cons pe_int pa_nil))))) pa_nil))))
      (pss_cons (ps_for PassesOwn.never rfl (pi_range1 rfl (fr T "range") (pa_cons pe_int pa_nil)) (pg_name (i := 2) scLaw.nd rfl (by first | exact Or.inl rfl | exact Or.inr rfl)) (pss_cons (ps_set (i := 3) scLaw.nd rfl (by first | exact Or.inl rfl | exact Or.inr rfl) (pe_cl C__law_plan hr (by decide) pass0 rfl (pa_cons (pv 1) (pa_cons pe_int pa_nil))))
      (pss_cons (ps_asg (pe_tup (pa_cons (pe_cl C__law_hall hr (by decide) pass0 rfl (pa_cons (pv 3) pa_nil)) (pa_cons (pe_cl C__law_lines hr (by decide) pass0 rfl (pa_cons (pv 3) pa_nil)) pa_nil))) (pg_tup (by rfl) (pgs_cons (pg_name (i := 4) scLaw.nd rfl (by first | exact Or.inl rfl | exact Or.inr rfl)) (pgs_cons (pg_name (i := 5) scLaw.nd rfl (by first | exact Or.inl rfl | exact Or.inr rfl)) pgs_nil))))
      (pss_cons (ps_if (PW.pt (pw_or (pt_cmpR op_ne (pe_cl C_hall_text hr (by decide) pass0 rfl (pa_cons (pv 4) pa_nil)) (pJoin (K := K) rfl pe_str (pv 5)) (nomark _)) (pw_or1 (pt_cmpR (op_neHall T FE bE (E := fun _ _ _ => False) pass0 (hr.mono (by decide))) (pe_cl C_read_hall hr (by decide) pass_noL rfl (pa_cons (pJoin (K := K) rfl pe_str (pv 5)) pa_nil)) (pv 4) (nomark _))))) (pss_one (ps_ret pe_bl)) pss_nil)
      (pss_cons (ps_for PassesOwn.never rfl (pi_range1 rfl (fr T "range") (pa_cons pe_int pa_nil)) (pg_name (i := 6) scLaw.nd rfl (by first | exact Or.inl rfl | exact Or.inr rfl)) (pss_cons (ps_set (i := 7) scLaw.nd rfl (by first | exact Or.inl rfl | exact Or.inr rfl) (pe_cl C__law_spoilt hr (by decide) pass0 rfl (pa_cons (pv 1) (pa_cons (pv 5) pa_nil))))
      (pss_cons (ps_set (i := 8) scLaw.nd rfl (by first | exact Or.inl rfl | exact Or.inr rfl) (pe_cl C__law_read hr (by decide) pass0 rfl (pa_cons (pv 7) pa_nil)))
      (pss_one (ps_if (PW.pt (pw_or (pt_cmpR op_ne (pe_at (k := 8) T TB rfl rfl (hr.mono (by decide)) (show LamX.LamS (defScope sLaw) _ from LamX.lamS_by (by decide +kernel)) (hbody := fun A outer s H E f c' hr2 => pe_cl C_read_hall hr2 (by decide) (passes_call (takes_of rfl rfl rfl rfl) (fun _ _ _ _ h => h)) rfl (pa_cons (pv 7) pa_nil))) (pv 8) (nomark _)) (pw_or1 (PW.pt (pw_and (pt_cmpR op_isN (pv 8) pe_non (nomark _)) (pw_and1 (pt_cmpR op_ne (pe_cl C_hall_text hr (by decide) pass0 rfl (pa_cons (pe_cl C_read_hall hr (by decide) pass_noL rfl (pa_cons (pv 7) pa_nil)) pa_nil)) (pv 7) (nomark _)))))))) (pss_one (ps_ret pe_bl)) pss_nil)))))
      (pss_cons (ps_setLc (i := 9) (own := [("_law_more", 6)]) rfl scLaw.nd rfl rfl (sw_true rfl rfl rfl (by decide +kernel)) (pi_range1 rfl (fr T "range") (pa_cons (pe_cl C__law_take hr (by decide) pass0 rfl (pa_cons (pv 1) (pa_cons pe_int pa_nil))) pa_nil)) (blkOk_by (own := [("_law_more", 6)]) (N := ["_law_script", "_law_draws", "_law_turn", "_law_plan_here", "_law_hall_here", "_law_lines_here", "_law_more", "_law_text", "_law_due", "_law_past", "_law_rows", "_law_every", "_law_some", "_law_bad", "_law_deed", "_law_row", "_law_line_here"]) (sc := defScope sLaw) (by decide +kernel)) (fun _ _ _ _ _ => (pg_name (i := 6) scLaw.nd rfl (by first | exact Or.inl rfl | exact Or.inr rfl))) (fun _ _ _ _ _ => pts_nil) (fun _ _ _ _ _ => (pe_cl C__law_pick hr (by decide) pass0 rfl (pa_cons (pv 1) (pa_cons (pe_cl C__law_deeds hr (by decide) pass0 rfl (pa_cons (pv 3) pa_nil)) pa_nil)))))
      (pss_cons (ps_setLc (i := 10) (own := [("_law_deed", 14)]) rfl scLaw.nd rfl rfl (sw_true rfl rfl rfl (by decide +kernel)) (pi_list (pv 9)) (blkOk_by (own := [("_law_deed", 14)]) (N := ["_law_script", "_law_draws", "_law_turn", "_law_plan_here", "_law_hall_here", "_law_lines_here", "_law_more", "_law_text", "_law_due", "_law_past", "_law_rows", "_law_every", "_law_some", "_law_bad", "_law_deed", "_law_row", "_law_line_here"]) (sc := defScope sLaw) (by decide +kernel)) (fun _ _ _ _ _ => (pg_name (i := 14) scLaw.nd rfl (by first | exact Or.inl rfl | exact Or.inr rfl))) (fun _ _ _ _ _ => pts_nil) (fun _ _ _ _ _ => (pe_cl C__law_line hr (by decide) pass0 rfl (pa_cons (pv 14) pa_nil))))
      (pss_cons (ps_if (PW.pt (pw_or (pt_cmpR op_ne (pe_cl C_history_text hr (by decide) pass0 rfl (pa_cons (pv 4) (pa_cons (pv 9) pa_nil))) (pJoin (K := K) rfl pe_str (pv 10)) (nomark _)) (pw_or1 (pt_cmpR (op_neP hr.units) (pe_cl C_read_history hr (by decide) pass_noL rfl (pa_cons (pv 4) (pa_cons (pJoin (K := K) rfl pe_str (pv 10)) pa_nil))) (pv 9) (nomark _))))) (pss_one (ps_ret pe_bl)) pss_nil)
      (pss_cons (ps_set (i := 11) scLaw.nd rfl (by first | exact Or.inl rfl | exact Or.inr rfl) (pe_lc (own := [("_law_deed", 14)]) rfl scLaw.nd (pi_list (pe_cl C__law_deeds hr (by decide) pass0 rfl (pa_cons (pv 3) pa_nil))) (blkOk_by (own := [("_law_deed", 14)]) (N := ["_law_script", "_law_draws", "_law_turn", "_law_plan_here", "_law_hall_here", "_law_lines_here", "_law_more", "_law_text", "_law_due", "_law_past", "_law_rows", "_law_every", "_law_some", "_law_bad", "_law_deed", "_law_row", "_law_line_here"]) (sc := defScope sLaw) (by decide +kernel)) (fun _ _ _ _ _ => (pg_name (i := 14) scLaw.nd rfl (by first | exact Or.inl rfl | exact Or.inr rfl))) (fun _ _ _ _ _ => pts_nil) (fun _ _ _ _ _ => (pe_cl C__law_line hr (by decide) pass0 rfl (pa_cons (pv 14) pa_nil)))))
      (pss_one (ps_for PassesOwn.never rfl (pi_range1 rfl (fr T "range") (pa_cons (pe_ifExp (pt_cmpR (op_neP hr.units) (pv 10) (pe_lst pa_nil) (nomark _)) pe_int pe_int) pa_nil)) (pg_name (i := 6) scLaw.nd rfl (by first | exact Or.inl rfl | exact Or.inr rfl)) (pss_cons (ps_set (i := 7) scLaw.nd rfl (by first | exact Or.inl rfl | exact Or.inr rfl) (pe_cl C__law_spoilt hr (by decide) pass0 rfl (pa_cons (pv 1) (pa_cons (pv 10) pa_nil))))
      (pss_cons (ps_set (i := 12) scLaw.nd rfl (by first | exact Or.inl rfl | exact Or.inr rfl) (pe_split (pv 7) pe_str))
      (pss_cons (ps_setLc (i := 13) (own := [("_law_row", 15), ("_law_line_here", 16)]) rfl scLaw.nd rfl rfl (sw_true rfl rfl rfl (by decide +kernel)) (pi_enum (by rfl) (fr T "enumerate") (pa_cons (pe_slice sl_list (pv 12) po_none (po_some (pe_un un_neg pe_int))) pa_nil)) (blkOk_by (own := [("_law_row", 15), ("_law_line_here", 16)]) (N := ["_law_script", "_law_draws", "_law_turn", "_law_plan_here", "_law_hall_here", "_law_lines_here", "_law_more", "_law_text", "_law_due", "_law_past", "_law_rows", "_law_every", "_law_some", "_law_bad", "_law_deed", "_law_row", "_law_line_here"]) (sc := defScope sLaw) (by decide +kernel)) (fun _ _ _ _ _ => (pgTup (K := K) rfl (by rfl) (pgs_cons (pg_name (i := 15) scLaw.nd rfl (by first | exact Or.inl rfl | exact Or.inr rfl)) (pgs_cons (pg_name (i := 16) scLaw.nd rfl (by first | exact Or.inl rfl | exact Or.inr rfl)) pgs_nil)))) (fun _ _ _ _ _ => (pts_one (pt_cmpR (opNotIn (K := K) rfl) (pe_op op_add_str (pv 16) pe_str) (pv 11) (by rfl)))) (fun _ _ _ _ _ => (pv 15)))
      (pss_cons (ps_set (i := 8) scLaw.nd rfl (by first | exact Or.inl rfl | exact Or.inr rfl) (pe_ifExp (pt_cmpR (op_neP hr.units) (pv 13) (pe_lst pa_nil) (nomark _)) (pe_ix ix_list (pv 13) pe_int (fun _ _ => rfl)) (pe_ifExp (pt_cmpR op_eq (pe_ix ix_list (pv 12) (pe_un un_neg pe_int) (fun _ _ => rfl)) pe_str (nomark _)) pe_non (pe_op op_sub (pe_callB call_len_seq (by rfl) (fr T "len") boot_len (pa_cons (pv 12) pa_nil)) pe_int))))
      (pss_one (ps_if (pt_cmpR op_ne (pe_at (k := 8) T TB rfl rfl (hr.mono (by decide)) (show LamX.LamS (defScope sLaw) _ from LamX.lamS_by (by decide +kernel)) (hbody := fun A outer s H E f c' hr2 => pe_cl C_read_history hr2 (by decide) (passes_call (takes_of rfl rfl rfl rfl) (fun _ _ _ _ h => h)) rfl (pa_cons (pv 4) (pa_cons (pv 7) pa_nil)))) (pv 8) (nomark _)) (pss_one (ps_ret pe_bl)) pss_nil)))))))))))))))))
      (pss_one (ps_ret pe_bl)))), ?_⟩
  have sl : sizeLine = 16777216 := sizeLine_eq
  have e0 : NO.length = 0 := by decide +kernel
  refine ⟨_, rfl, _, rfl, _, _, rfl, ha, fun p0 hp0 => ?_⟩
  have ec : ∃ ns' : List Int, cutV (ns.map V.int) none (some 63) = ns'.map V.int := ⟨_, by unfold cutV; rw [List.map_take, List.map_drop]⟩
  obtain ⟨ns', ec⟩ := ec
  rw [ec]
  have s1 := Same.new (o := .lst (ns'.map V.int)) hp0
  have hl1 : (upd H p0 (.lst (ns'.map V.int))) p0 = some (.lst (ns'.map V.int)) := upd_same
  generalize upd H p0 (.lst (ns'.map V.int)) = H1 at s1 hl1 ⊢
  refine ⟨(by show 4 ≤ sizeLine; omega), fun q0 hq0 => ?_⟩
  have s2 := Same.new (o := .tup (basesL.map V.int)) hq0
  refine ⟨p0, q0, rfl, ⟨ns', SqL.of (s2 _ _ hl1)⟩, SqT.of upd_same, fun H2 D s3 nD dD => ?_⟩
  have s03 := s1.trans (s2.trans s3)
  have tab0 : LamX.Tabs [(Pt, lamQ)] H2 := fun p hp => by
    rw [List.mem_singleton.mp hp]
    exact (LamX.TabS.nil hP).ext s03
  clear s03 s3 s2 s1 hl1 hp0 hq0 nD ec ha hP
  refine ⟨4, rfl, by decide, by decide, ?_⟩
  refine for_range (n := 4) (fun i σ H' => ∃ o0 o2 o3 o4 o5 o6 o7 o8 o9 o10 o11 o12 o13 o14 o15 o16 : Option V, σ = [o0, some (.ref D), o2, o3, o4, o5, o6, o7, o8, o9, o10, o11, o12, o13, o14, o15, o16] ∧ DrawsAt H' D ∧ LamX.Tabs [(Pt, lamQ)] H')
    ⟨_, _, _, _, _, _, _, _, _, _, _, _, _, _, _, _, rfl, dD, tab0⟩ (fun i σ H3 hi q => ?_) (fun σ H3 q => ?_)
  · obtain ⟨o0, o2, o3, o4, o5, o6, o7, o8, o9, o10, o11, o12, o13, o14, o15, o16, rfl, d3, t3⟩ := q
    refine ⟨_, rfl, D, rfl, d3, fun H4 pv h b4 d4 hp4 => ?_⟩
    have t4 := tabs_but b4 d3 t3
    refine ⟨_, rfl, pv, h, rfl, hp4, fun H5 hv s5 hh5 => ?_⟩
    have hp5 := hp4.mono s5
    have d5 := d4.same s5
    refine ⟨_, rfl, pv, h, rfl, hp5, fun H6 l s6 n6 hl6 => ?_⟩
    have lD := d5.ne n6
    have hh6 := hh5.mono s6
    have hp6 := hp5.mono s6
    have d6 := d5.same s6
    have t6 := (t4.ext s5).ext s6
    refine ⟨(by show 2 ≤ sizeLine; omega), fun q6 hq6 => ?_⟩
    have s7 := Same.new (o := .tup [hv, .ref l]) hq6
    refine ⟨q6, _, rfl, SqT.of upd_same, rfl, _, _, rfl, _, _, rfl, rfl, ?_⟩
    have hh7 := hh6.mono s7
    have hp7 := hp6.mono s7
    have d7 := d6.same s7
    have t7 := t6.ext s7
    have hl7 := s7 _ _ hl6
    generalize upd H6 q6 (.tup [hv, .ref l]) = H7 at hh7 hp7 d7 t7 hl7 ⊢
    have ok : HallOk h := by
      obtain ⟨_, _, _, _, _, _, z⟩ := hh7
      exact z
    have sh := hall_short ok
    have kp := kindsOk_iff ok.ks
    have elines : (hallRows h).map lineV = ((hallRows h).map rowLine).map V.str := by rw [List.map_map]; rfl
    rw [elines] at hl7
    have hlb : ∀ z ∈ (hallRows h).map rowLine, 1 ≤ z.length ∧ z.length ≤ 3000 := by
      intro z hz
      obtain ⟨r, hr, rfl⟩ := List.mem_map.mp hz
      have h1 := row_len (sh.2 r hr)
      have nl : NL.length = 1 := by decide +kernel
      unfold rowLine
      rw [Str.length_append, nl]
      omega
    have hln : ((hallRows h).map rowLine).length ≤ 40 := by rw [List.length_map]; exact sh.1
    have hlne : (hallRows h).map rowLine ≠ [] := by
      intro z
      have := congrArg List.length z
      unfold hallRows at this
      simp at this
    have ejoin : Txt.join NO ((hallRows h).map rowLine) = hallText h := by
      unfold hallText rowsText lined
      rw [List.map_map]
      rfl
    have hsum := sum_len (M := 3000) (fun z hz => (hlb z hz).2)
    have h40 : ((hallRows h).map rowLine).length * 3000 ≤ 40 * 3000 := Nat.mul_le_mul_right _ hln
    have htl : (hallText h).length ≤ 1000000 := by
      rw [← ejoin]
      have := join_le (M := 3000) (fun z hz => (hlb z hz).2)
      omega
    -- the hall's text
    refine ⟨_, rfl, hv, h, rfl, hh7, fun H8 s8 => ?_⟩
    refine ⟨⟨_, rfl⟩, _, rfl, _, l, _, rfl, rfl, .inl (.inl (.inl (s8 _ _ hl7))), by rw [show ("" : Str).length = 0 from e0]; omega, ?_⟩
    rw [show Txt.join "" ((hallRows h).map rowLine) = hallText h from ejoin]
    refine ⟨rfl, _, rfl, ?_⟩
    refine iteF' (by rw [decide_eq_true rfl] <;> rfl) ?_
    refine ⟨⟨_, rfl⟩, _, rfl, _, l, _, rfl, rfl, .inl (.inl (.inl (s8 _ _ hl7))), by rw [show ("" : Str).length = 0 from e0]; omega, ?_⟩
    rw [show Txt.join "" ((hallRows h).map rowLine) = hallText h from ejoin]
    refine ⟨hallText h, rfl, htl, ?_⟩
    rw [hall_back ok]
    intro H9 u9 s9 hu9
    have hh9 := (hh7.mono s8).mono s9
    obtain ⟨pa, dx1, t1', rfl, hpa⟩ := id hu9
    obtain ⟨pb, dx2, t2', rfl, hpb⟩ := id hh9
    refine ⟨_, rfl, pa, pb, rfl, rfl, ⟨h, hu9, hh9⟩, fun H10 s10 => ⟨_, rfl, iteF ?_⟩⟩
    have s710 := s8.trans (s9.trans s10)
    have d10 := d7.same s710
    have t10 := t7.ext s710
    have hp10 := hp7.mono s710
    have hh10 := hh7.mono s710
    have hl10 := s710 _ _ hl7
    have b310 : ButN D H7 H10 := ButN.of s710
    clear s8 s9 s10 hu9 hpa hpb hh9
    -- spoilt texts of the hall
    refine ⟨6, rfl, by decide, by decide, ?_⟩
    refine for_range (n := 6) (fun j σ H' => ∃ o6 o7 o8 : Option V, σ = [o0, some (.ref D), some (.int (0 + (i : Int))), some pv, some (.ref pb), some (.ref l), o6, o7, o8, o9, o10, o11, o12, o13, o14, o15, o16] ∧ DrawsAt H' D ∧ LamX.Tabs [(Pt, lamQ)] H' ∧ HallAt K H' (.ref pb) h ∧ PlanAt H' pv h ∧ H' l = some (.lst (((hallRows h).map rowLine).map V.str)))
      ⟨_, _, _, rfl, d10, t10, hh10, hp10, hl10⟩ (fun j σ H11 hj q => ?_) (fun σ H11 q => ?_)
    · obtain ⟨o6, o7, o8, rfl, d11, t11, hh11, hp11, hl11⟩ := q
      refine ⟨_, rfl, _, rfl, D, l, _, rfl, d11, hl11, lD, hln, hlne, hlb, fun H12 z b12 d12 hz => ?_⟩
      have t12 := tabs_but b12 d11 t11
      have n12 : ButN D H11 H12 := ButN.ofBut b12
      refine ⟨_, rfl, z, rfl, hz, fun H13 s13 => ?_⟩
      have d13 := d12.same s13
      have t13 := t12.ext s13
      have n13 := n12.trans (ButN.of s13)
      have hlaw := law_hall z
      have done : ∀ {H' : Hp}, ButN D H13 H' → DrawsAt H' D → LamX.Tabs [(Pt, lamQ)] H' → ∃ o6 o7 o8 : Option V, [o0, some (.ref D), some (.int (0 + (i : Int))), some pv, some (.ref pb), some (.ref l), some (.int (0 + (j : Int))), some (.str z), some (optI (lawRead z)), o9, o10, o11, o12, o13, o14, o15, o16] = [o0, some (.ref D), some (.int (0 + (i : Int))), some pv, some (.ref pb), some (.ref l), o6, o7, o8, o9, o10, o11, o12, o13, o14, o15, o16] ∧ DrawsAt H' D ∧ LamX.Tabs [(Pt, lamQ)] H' ∧ HallAt K H' (.ref pb) h ∧ PlanAt H' pv h ∧ H' l = some (.lst (((hallRows h).map rowLine).map V.str)) := by
        intro H' n' d' t'
        have n'' := n13.trans n'
        exact ⟨_, _, _, rfl, d', t', hh11.butN n'' d11, hp11.butN n'' d11, n''.lst hl11 lD⟩
      refine ⟨t13, fun H14 e14 t14 => ?_⟩
      have d14 := d13.ext e14
      have n14 : ButN D H13 H14 := ButN.ext e14
      refine ⟨_, rfl, z, rfl, hz, ?_⟩
      cases hr0 : readHall z with
      | error i0 =>
        rw [hr0] at hlaw
        replace hlaw : lawRead z = some i0 := hlaw
        intro H15 d15 s15 nd15 hx15
        refine ⟨d15, _, rfl, rfl, hx15, ?_⟩
        have n15 := n14.trans (ButN.of s15)
        have dd15 := d14.same s15
        have t15 := t14.ext s15
        rw [hlaw] at done ⊢
        refine ⟨_, rfl, rfl, _, rfl, ?_⟩
        refine iteF' (by rw [decide_eq_true (show V.int (i0 : Nat) = optI (some i0) from rfl)] <;> rfl) ?_
        refine ⟨_, rfl, rfl, _, rfl, iteF (iteF ?_)⟩
        exact done n15 dd15 t15
      | ok h' =>
        rw [hr0] at hlaw
        replace hlaw : lawRead z = none := hlaw
        intro H15 u15 s15 hu15
        have n15 := n14.trans (ButN.of s15)
        have dd15 := d14.same s15
        have t15 := t14.ext s15
        rw [hlaw] at done ⊢
        refine ⟨_, rfl, rfl, _, rfl, ?_⟩
        refine iteF' (by rfl) ?_
        refine ⟨_, rfl, rfl, _, rfl, iteT ?_⟩
        refine ⟨_, rfl, z, rfl, hz, ?_⟩
        rw [hr0]
        intro H16 u16 s16 hu16
        refine ⟨u16, h', rfl, hu16, fun H17 s17 => ?_⟩
        refine ⟨_, rfl, rfl, _, rfl, ?_⟩
        refine iteF' (by rw [(readHall_ok hr0).1, decide_eq_true rfl] <;> rfl) ?_
        exact done (n15.trans (ButN.of (s16.trans s17))) (dd15.same (s16.trans s17)) (t15.ext (s16.trans s17))
    · obtain ⟨o6, o7, o8, rfl, d11, t11, hh11, hp11, hl11⟩ := q
      clear hl10 hh10 hp10 t10 d10 hl7 hh7 hp7 d7 t7 elines hlb hln hlne ejoin hsum h40 htl
      have he := ok.e3
      have hm4 := kp.l4
      -- past
      refine ⟨_, rfl, D, _, rfl, d11, by decide, fun H12 r b12 d12 r0 r1 => ⟨r, rfl, by omega, by omega, fun D1 hD1 => ?_⟩⟩
      have D1D := d12.ne hD1
      refine lc_range (n := r.toNat) (fun i H' => But D H12 H' ∧ DrawsAt H' D ∧ ∃ vs ds, H' D1 = some (.lst vs) ∧ Paired (DeedAt H') vs ds ∧ ds.length = i ∧ ∀ d ∈ ds, deedOk h.events h.kinds.length d = true)
        ⟨But.of (Same.new hD1), d12.new hD1, [], [], upd_same, .nil, rfl, fun _ z => by cases z⟩ (fun j H13 hj q => ?_) (fun H13 q => ?_)
      · obtain ⟨b13, d13, vs, ds, hv13, pr13, hl13, ok13⟩ := q
        have hp13 := hp11.butN (ButN.ofBut (b12.trans b13)) d11
        refine ⟨rfl, ?_⟩
        simp only [tYes, if_true]
        refine ⟨_, rfl, _, rfl, pv, h, rfl, hp13, fun H14 p14 xs s14 n14 hx14 pr14 => ?_⟩
        have hne : xs ≠ [] := fun z => by
          have h1 := Paired.length pr14
          rw [z] at h1
          exact allDeeds_ne kp.l1 (List.eq_nil_of_length_eq_zero h1.symm)
        refine ⟨D, p14, xs, rfl, d13.same s14, hx14, d13.ne n14, hne, fun H15 x b15 d15 hx => ?_⟩
        obtain ⟨dd, hdm, hda⟩ := paired_mem pr14 hx
        have k145 : Kt H14 H15 := by
          obtain ⟨dq, hq⟩ := d13.same s14
          exact b15.kt hq
        have hv15 : H15 D1 = some (.lst vs) := b15 _ _ D1D (s14 _ _ hv13)
        have lv := Paired.length pr13
        refine ⟨vs, hv15, by omega, fun b o n e => ?_, ?_, vs ++ [x], ds ++ [dd], upd_same, pick_step ((Kt.of s14).trans k145) hv13 pr13 (hda.mono k145) hv15, by rw [List.length_append, hl13] <;> rfl, fun d hd => ?_⟩
        · rw [upd_ne (ne_of_none e hD1)]
          exact b15 _ _ n (s14 _ _ (b13 _ _ n e))
        · obtain ⟨dq, hq⟩ := d15
          exact ⟨dq, by rw [upd_ne (Ne.symm D1D)]; exact hq⟩
        · rcases List.mem_append.mp hd with hd | hd
          · exact ok13 d hd
          · rw [List.mem_singleton.mp hd]
            exact mem_allDeeds.mp hdm
      · obtain ⟨b13, d13, vs, ds, hv13, pr13, hl13, ok13⟩ := q
        have b113 := b12.trans b13
        have n113 : ButN D H11 H13 := ButN.ofBut b113
        have t13 := tabs_but b113 d11 t11
        have hh13 := hh11.butN n113 d11
        have hp13 := hp11.butN n113 d11
        have hds : DeedsAt H13 (.ref D1) ds := ⟨D1, vs, rfl, hv13, pr13⟩
        have hlds : ds.length ≤ 5 := by omega
        have lv := Paired.length pr13
        clear b113 n113 b13 b12 d12 hD1 D1D hl13 r0 r1 hh11 hp11 hl11 t11 d11
        have sml : ∀ d ∈ ds, d.2 < 10 := fun d hd => deed_small he hm4 (ok13 d hd)
        -- its lines
        refine ⟨_, rfl, D1, rfl, ⟨_, SqL.of hv13⟩, fun D2 hD2 => ?_⟩
        refine lc_mapL (F := DeedAt H13) (fun d => .str (lineOf d)) hD2 (SqL.of hv13) pr13 (by omega) (fun x d H14 fx hm s14 Q2 k2 => ?_) (fun H14 s14 hr14 => ?_)
        · obtain ⟨p, us, rfl, hp, pw⟩ := deed_words (fx.mono (Kt.of s14)) (sml d hm)
          exact ⟨_, rfl, p, us, deedRow d, rfl, .inl (SqT.of hp), pw, deed_short (sml d hm), fun H15 s15 => k2 _ s15⟩
        · have D2D := d13.ne hD2
          have el2 : ds.map (fun d => V.str (lineOf d)) = (ds.map lineOf).map V.str := by rw [List.map_map] <;> rfl
          rw [el2] at hr14
          have hlb2 : ∀ z ∈ ds.map lineOf, 1 ≤ z.length ∧ z.length ≤ 3000 := fun z hz => by
            obtain ⟨d, hd, rfl⟩ := List.mem_map.mp hz
            exact line_len (sml d hd)
          have hln2 : (ds.map lineOf).length ≤ 5 := by rw [List.length_map]; exact hlds
          have hsum2 := sum_len (M := 3000) (fun z hz => (hlb2 z hz).2)
          have h402 : (ds.map lineOf).length * 3000 ≤ 5 * 3000 := Nat.mul_le_mul_right _ hln2
          have htl2 : (histText ds).length ≤ 1000000 := by
            rw [← hist_lines]
            have := join_le (M := 3000) (fun z hz => (hlb2 z hz).2)
            omega
          have hh14 := hh13.mono s14
          have hds14 := hds.mono s14
          -- the history's text
          refine ⟨_, rfl, _, rfl, .ref pb, .ref D1, h, ds, rfl, hh14, hds14, by omega, ok13, fun H15 s15 => ?_⟩
          refine ⟨⟨_, rfl⟩, _, rfl, _, D2, _, rfl, rfl, .inl (.inl (.inl (s15 _ _ hr14))), by rw [show ("" : Str).length = 0 from e0]; omega, ?_⟩
          rw [show Txt.join "" (ds.map lineOf) = histText ds from hist_lines ds]
          refine ⟨rfl, _, rfl, ?_⟩
          refine iteF' (by rw [decide_eq_true rfl] <;> rfl) ?_
          refine ⟨_, rfl, ⟨_, rfl⟩, _, rfl, _, D2, _, rfl, rfl, .inl (.inl (.inl (s15 _ _ hr14))), by rw [show ("" : Str).length = 0 from e0]; omega, ?_⟩
          rw [show Txt.join "" (ds.map lineOf) = histText ds from hist_lines ds]
          refine ⟨.ref pb, histText ds, h, rfl, hh14.mono s15, htl2, ?_⟩
          rw [hist_back he hm4 ok13]
          intro H16 u s16 hu
          refine ⟨_, rfl, _, _, deedsDp hu, deedsDp ((hds14.mono s15).mono s16), deedsD_plain _, deedsD_plain _, Nat.le_trans (Nat.min_le_left _ _) (deedsD_depth _), ?_⟩
          rw [SeqAt.eqv_refl_plain _ (deedsD_plain _)]
          refine ⟨_, rfl, iteF ?_⟩
          have s1316 := (s14.trans s15).trans s16
          have hp16 := hp13.mono s1316
          have hh16 := hh13.mono s1316
          have d16 := d13.same s1316
          have t16 := t13.ext s1316
          have hr16 := s16 _ _ (s15 _ _ hr14)
          clear hu s15 s16 hds14 hh14 s14 hr14 htl2 h402 hsum2 s1316 hp13 hh13 d13 t13 hds hv13 pr13 lv
          -- every deed's line
          refine ⟨_, rfl, pv, h, rfl, hp16, fun H17 p17 xs17 s17 n17 hx17 pr17 => ⟨p17, rfl, ⟨_, SqL.of hx17⟩, fun D3 hD3 => ?_⟩⟩
          have lall : (allDeeds h.events h.kinds.length).length ≤ 11 := by
            simp [allDeeds]
            omega
          refine lc_mapL (F := DeedAt H17) (fun d => .str (lineOf d)) hD3 (SqL.of hx17) pr17 (by omega) (fun x d H18 fx hm s18 Q2 k2 => ?_) (fun H18 s18 hr18 => ?_)
          · have smd := deed_small he hm4 (mem_allDeeds.mp hm)
            obtain ⟨p, us, rfl, hp, pw⟩ := deed_words (fx.mono (Kt.of s18)) smd
            exact ⟨_, rfl, p, us, deedRow d, rfl, .inl (SqT.of hp), pw, deed_short smd, fun H19 s19 => k2 _ s19⟩
          · have s1618 := s17.trans s18
            have hh18 := hh16.mono s1618
            have d18 := d16.same s1618
            have t18 := t16.ext s1618
            have hp18 := hp16.mono s1618
            have hx18 := s1618 _ _ hr16
            have D3D := (d16.same s17).ne hD3
            have el3 : (allDeeds h.events h.kinds.length).map (fun d => V.str (lineOf d)) = ((allDeeds h.events h.kinds.length).map lineOf).map V.str := by rw [List.map_map] <;> rfl
            rw [el3] at hr18
            clear s1618 s17 s18 hD3 hx17 pr17 n17 hr16 hh16 d16 t16 hp16
            refine ⟨_, rfl, Nat.zero_le _, fun E hE => ?_⟩
            refine ⟨_, _, strsDp (Same.new hE _ _ hx18), nilDp upd_same, strs_plain _, rfl, Nat.le_trans (Nat.min_le_right _ _) nil_depth, ?_⟩
            rw [eqv_nilL]
            obtain ⟨n, hn, hn4, hn0⟩ : ∃ n : Nat, (if (!decide ((ds.map lineOf).map PyData.str = [])) = true then V.int 4 else V.int 0) = V.int (n : Nat) ∧ n ≤ 4 ∧ (0 < n → ds.map lineOf ≠ []) := by
              cases ds with
              | nil => exact ⟨0, rfl, by omega, fun z => by omega⟩
              | cons d r => exact ⟨4, rfl, by omega, fun _ z => by cases z⟩
            refine ⟨_, rfl, ite_tC ?_⟩
            rw [hn]
            refine ⟨_, rfl, by omega, by omega, ?_⟩
            rw [show ((n : Nat) : Int).toNat = n by omega]
            have s19 := Same.new (o := .lst []) hE
            have hh19 := hh18.mono s19
            have d19 := d18.same s19
            have t19 := t18.ext s19
            have hx19 := s19 _ _ hx18
            have hr19 := s19 _ _ hr18
            generalize upd H18 E (.lst []) = H19 at hh19 d19 t19 hx19 hr19 ⊢
            clear s19 hE hh18 d18 t18 hp18 hx18 hr18 hn hn4
            -- spoilt histories
            refine for_range (n := n) (fun j σ H' => ∃ o6 o7 o8 o12 o13 o14 o15 o16 : Option V, σ = [o0, some (.ref D), some (.int (0 + (i : Int))), some pv, some (.ref pb), some (.ref l), o6, o7, o8, some (.ref D1), some (.ref D2), some (.ref D3), o12, o13, o14, o15, o16] ∧ DrawsAt H' D ∧ LamX.Tabs [(Pt, lamQ)] H' ∧ HallAt K H' (.ref pb) h ∧ H' D2 = some (.lst ((ds.map lineOf).map V.str)) ∧ H' D3 = some (.lst (((allDeeds h.events h.kinds.length).map lineOf).map V.str)))
              ⟨_, _, _, _, _, _, _, _, rfl, d19, t19, hh19, hx19, hr19⟩ (fun j σ H20 hj q => ?_) (fun σ H20 q => ?_)
            · obtain ⟨o6, o7, o8, o12, o13, o14, o15, o16, rfl, d20, t20, hh20, hx20, hr20⟩ := q
              refine ⟨_, rfl, _, rfl, D, D2, ds.map lineOf, rfl, d20, hx20, D2D, by omega, hn0 (by omega), hlb2, fun H21 z b21 d21 hz => ?_⟩
              have n21 := ButN.ofBut b21
              have t21 := tabs_but b21 d20 t20
              have hh21 := hh20.butN n21 d20
              have hx21 := n21.lst hx20 D2D
              have hr21 := n21.lst hr20 D3D
              clear hh20 hx20 hr20 t20 n21 b21 d20
              -- its lines
              refine ⟨_, rfl, ⟨_, rfl⟩, z, NL, rfl, rfl, rfl, (by show z.length + 2 ≤ sizeLine; omega), fun D4 hD4 => ?_⟩
              have s22 := Same.new (o := .lst ((Txt.split z NL).map V.str)) hD4
              have hs22 : (upd H21 D4 (.lst ((Txt.split z NL).map V.str))) D4 = some (.lst ((Txt.split z NL).map V.str)) := upd_same
              refine ⟨_, rfl, _, rfl, _, rfl, _, _, rfl, SqL.of hs22, fun D5 hD5 => ?_⟩
              rw [show cutV ((Txt.split z NL).map V.str) none (some (-1)) = (Txt.split z NL).dropLast.map V.str by rw [cut_init, List.map_dropLast]]
              have s23 := s22.trans (Same.new (o := .lst ((Txt.split z NL).dropLast.map V.str)) hD5)
              have hs23 := (Same.new (o := .lst ((Txt.split z NL).dropLast.map V.str)) hD5) _ _ hs22
              have hq23 : (upd (upd H21 D4 (.lst ((Txt.split z NL).map V.str))) D5 (.lst ((Txt.split z NL).dropLast.map V.str))) D5 = some (.lst ((Txt.split z NL).dropLast.map V.str)) := upd_same
              generalize upd (upd H21 D4 (.lst ((Txt.split z NL).map V.str))) D5 (.lst ((Txt.split z NL).dropLast.map V.str)) = H23 at s23 hs23 hq23 ⊢
              have n2123 : ButN D H21 H23 := ButN.of s23
              have hr23 := s23 _ _ hr21
              have hlen : (Txt.split z NL).dropLast.length ≤ 1000001 := by
                rw [List.length_dropLast]
                have := sepN.len z
                omega
              generalize hls : (Txt.split z NL).dropLast = ls at hq23 hlen ⊢
              refine ⟨D5, _, rfl, SqL.of hq23, fun D6 hD6 => ?_⟩
              refine lc_it (walk_enum (xs := ls.map V.str)) (fun k H' => Same H23 H' ∧ H' D6 = some (.lst ((badOf ((allDeeds h.events h.kinds.length).map lineOf) 0 (ls.take k)).map fun n => V.int (n : Nat)))) ⟨Same.new hD6, upd_same⟩ (fun k H' _ q => SqL.of (q.1 _ _ hq23)) (fun k x H24 H25 hk q y => ?_) (fun H24 q => ?_)
              · obtain ⟨s24, hb24⟩ := q
                rw [List.length_map] at hk
                obtain ⟨T1, x1, x2, rfl, hT1, rfl, e1, e2⟩ := y
                replace e2 : (ls.map V.str)[k]? = some x2 := e2
                have z1 : x1 = .int (k : Nat) := (Option.some.inj e1).symm
                subst z1
                have el : ls[k]? = some ls[k] := List.getElem?_eq_getElem hk
                have hll : ls[k].length ≤ z.length := sepN.part z _ (List.dropLast_subset _ (by rw [hls]; exact List.getElem_mem hk))
                generalize ls[k] = line at el hll
                rw [List.getElem?_map, el] at e2
                have z2 : x2 = .str line := (Option.some.inj e2).symm
                subst z2
                have s25 : Same H24 (upd H24 T1 (.tup [.int (k : Nat), .str line])) := Same.new hT1
                refine ⟨T1, _, rfl, SqT.of upd_same, rfl, _, _, rfl, _, _, rfl, rfl, ?_⟩
                refine ⟨rfl, ?_⟩
                have enl : NL.length = 1 := by decide +kernel
                have hb25 := s25 _ _ hb24
                have hr25 := s25 _ _ (s24 _ _ hr23)
                have eb : badOf ((allDeeds h.events h.kinds.length).map lineOf) 0 (ls.take (k + 1)) = badOf ((allDeeds h.events h.kinds.length).map lineOf) 0 (ls.take k) ++ (if decide (line ++ NL ∈ (allDeeds h.events h.kinds.length).map lineOf) = true then [] else [k]) := by
                  rw [List.take_add_one, el]
                  show badOf _ 0 (ls.take k ++ [line]) = _
                  rw [bad_app, List.length_take, Nat.min_eq_left (Nat.le_of_lt hk), Nat.zero_add]
                have s2325 := s24.trans s25
                have bl := bad_len ((allDeeds h.events h.kinds.length).map lineOf) (ls.take k) 0
                rw [List.length_take] at bl
                refine ⟨_, rfl, _, _, rfl, rfl, (by show line.length + NL.length ≤ sizeLine; rw [enl]; omega), _, rfl, D3, _, rfl, .inl (SqL.of hr25), rfl, flat_strs _, ?_⟩
                rw [inV_strs]
                refine ⟨_, rfl, ?_⟩
                by_cases c : decide (line ++ NL ∈ (allDeeds h.events h.kinds.length).map lineOf) = true
                · rw [if_pos c, List.append_nil] at eb
                  refine iteF' (by show (!decide (line ++ NL ∈ (allDeeds h.events h.kinds.length).map lineOf)) = false; rw [c] <;> rfl) ?_
                  rw [eb]
                  exact ⟨s2325, hb25⟩
                · rw [if_neg c] at eb
                  refine iteT' (by show (!decide (line ++ NL ∈ (allDeeds h.events h.kinds.length).map lineOf)) = true; rw [Bool.not_eq_true _ |>.mp c] <;> rfl) ?_
                  refine ⟨_, rfl, _, hb25, by rw [List.length_map]; omega, fun b o e => ?_, ?_⟩
                  · rw [upd_ne (ne_of_none e hD6)]
                    exact s2325 _ _ e
                  · rw [upd_same, eb, List.map_append] <;> rfl
              · obtain ⟨s24, hb24⟩ := q
                rw [List.length_map, List.take_length] at hb24
                have hs24 := s24 _ _ hs23
                have n2124 := n2123.trans (ButN.of s24)
                have hlaw := law_hist he hm4 z
                have hln : ls.length + 1 = (Txt.split z NL).length := by
                  rw [← hls, List.length_dropLast]
                  have := List.length_pos_iff.mpr (sepN.ne z)
                  omega
                -- the row that is due
                have gN : ∀ (i0 : Nat) (v0 : V) (σ : L2.St) (H : Hp) (Q : L2.St → Hp → Prop), Q (σ.set i0 (some v0)) H → gName i0 v0 σ H Q := fun _ _ _ _ _ z => z
                refine gN _ _ _ _ _ ?_
                dsimp only
                refine asg_val (v := optI (lawHist h.events h.kinds.length z)) (fun Q2 k2 => ?_) (fun H25 s25 => ?_)
                · refine ⟨_, rfl, Nat.zero_le _, fun E2 hE2 => ?_⟩
                  refine ⟨_, _, intsDp (Same.new hE2 _ _ hb24), nilDp upd_same, ints_plain _, rfl, Nat.le_trans (Nat.min_le_right _ _) nil_depth, ?_⟩
                  rw [eqv_nilL]
                  have s25 : Same H24 (upd H24 E2 (.lst [])) := Same.new hE2
                  replace k2 := k2 _ s25
                  have ec : ∀ a r, badOf ((allDeeds h.events h.kinds.length).map lineOf) 0 ls = a :: r → lawHist h.events h.kinds.length z = some a := fun a r e => lawHist_cons (by rw [hls]; exact e)
                  have en : badOf ((allDeeds h.events h.kinds.length).map lineOf) 0 ls = [] → lawHist h.events h.kinds.length z = if restOf z = NO then none else some ls.length := fun e => (lawHist_nil (by rw [hls]; exact e)).trans (by rw [hls])
                  generalize badOf ((allDeeds h.events h.kinds.length).map lineOf) 0 ls = bad at hb24 ec en ⊢
                  cases bad with
                  | cons a r =>
                    rw [ec a r rfl] at k2
                    refine ⟨_, rfl, iteT' rfl ?_⟩
                    exact ⟨_, rfl, _, _, _, _, rfl, rfl, SqL.of (s25 _ _ hb24), atI_nat (j := 0) rfl, k2⟩
                  | nil =>
                    refine ⟨_, rfl, iteF' rfl ?_⟩
                    have e2 : atI ((Txt.split z NL).map V.str) (-1) = some (.str (restOf z)) := by
                      have h1 := split_parts z
                      rw [h1, List.map_append]
                      exact atI_last _ _
                    refine ⟨_, rfl, _, rfl, _, _, _, _, rfl, rfl, SqL.of (s25 _ _ hs24), e2, rfl, _, rfl, ?_⟩
                    rw [en rfl] at k2
                    by_cases c : restOf z = NO
                    · rw [if_pos c] at k2
                      exact iteT' (decide_eq_true (by rw [c])) k2
                    · rw [if_neg c] at k2
                      refine iteF' (decide_eq_false (fun z => c (by injection z))) ?_
                      refine ⟨_, rfl, D4, _, rfl, .inl (SqL.of (s25 _ _ hs24)), _, _, rfl, rfl, ?_⟩
                      refine qe (show V.int (((((Txt.split z NL).map V.str).length : Nat) : Int) - 1) = V.int (ls.length : Nat) from ?_) k2
                      rw [List.length_map, ← hln]
                      exact congrArg V.int (by omega)
                · have n2125 := n2124.trans (ButN.of s25)
                  have hh25 := hh21.butN n2125 d21
                  have hx25 := n2125.lst hx21 D2D
                  have hr25 := n2125.lst hr21 D3D
                  have s2125 := (s23.trans s24).trans s25
                  have d25 := d21.same s2125
                  have t25 := t21.ext s2125
                  clear n2125 n2124 s2125 s24 s25 hs24 hb24 hs23 hq23 hr23 n2123 s23 hh21 hx21 hr21 d21 t21
                  refine ⟨t25, fun H26 e26 t26 => ?_⟩
                  have d26 := d25.ext e26
                  have n26 : ButN D H25 H26 := ButN.ext e26
                  have hh26 := hh25.butN n26 d25
                  have hx26 := n26.lst hx25 D2D
                  have hr26 := n26.lst hr25 D3D
                  refine ⟨_, rfl, _, rfl, .ref pb, z, h, rfl, hh26, hz, ?_⟩
                  cases hr0 : readHist h.events h.kinds.length z with
                  | error i0 =>
                    rw [hr0] at hlaw
                    replace hlaw : lawHist h.events h.kinds.length z = some i0 := hlaw
                    intro H27 d27 s27 nd27 hx27
                    refine ⟨d27, _, rfl, rfl, hx27, ?_⟩
                    rw [hlaw]
                    refine ⟨_, rfl, rfl, _, rfl, ?_⟩
                    refine iteF' (by rw [decide_eq_true (show V.int (i0 : Nat) = optI (some i0) from rfl)] <;> rfl) ?_
                    exact ⟨_, _, _, _, _, _, _, _, rfl, d26.same s27, t26.ext s27, hh26.mono s27, s27 _ _ hx26, s27 _ _ hr26⟩
                  | ok ds' =>
                    rw [hr0] at hlaw
                    replace hlaw : lawHist h.events h.kinds.length z = none := hlaw
                    intro H27 u27 s27 hu27
                    rw [hlaw]
                    refine ⟨_, rfl, rfl, _, rfl, ?_⟩
                    refine iteF' (by rfl) ?_
                    exact ⟨_, _, _, _, _, _, _, _, rfl, d26.same s27, t26.ext s27, hh26.mono s27, s27 _ _ hx26, s27 _ _ hr26⟩
            · obtain ⟨o6, o7, o8, o12, o13, o14, o15, o16, rfl, d20, t20, hh20, hx20, hr20⟩ := q
              exact ⟨_, _, _, _, _, _, _, _, _, _, _, _, _, _, _, _, rfl, d20, t20⟩
  · exact kk _
end K5
set_option Elab.async false
set_option linter.all false
set_option maxRecDepth 100000
set_option maxHeartbeats 0
/-! The end: all defs joined, the head, the walk. -/
namespace K5
open PySem PySem.Spec PyProof.Rows L2
theorem prgOk : PrgOk (PySem.Challenge.rw_shoutrounds_k05_whole_texts).prog := ⟨rfl, by decide +kernel⟩
theorem law_ok {P : Program} {w : World} {K : PySem.W.Frag} {mg : Str → Option Value} {base : Heap} (T : Txt w K mg) (G : PrgOk P) {c Pt : Addr} (TB : LamX.TabB base mg c Pt) {fd : FuncData}
    (F : FunD K "law" "law" (defArgs sLaw) (defBody sLaw) (defScope sLaw) [] [] (He.ga K "law") fd) (hc : He.codeOf K ("law", none) = c) : FnOk P w K mg base CX0 11 (He.ga K "law") fd ["_law_script"] (spLaw K Pt) := by
  have num := cl_isNumber (P := P) (base := base) T
  have act := cl_isAct T num
  have kind := cl_isKind T num act
  have kinds := cl_areKinds T kind
  have val := cl_isValue (P := P) (base := base) T
  obtain ⟨fdI, FI, OI⟩ := fn_hallInit (P := P) (base := base) T G num kinds val
  have M := hallM (P := P) (base := base) T
  have ch := cl_checkHall (P := P) (base := base) T
  have deed := cl_isDeed T M num
  have chist := cl_checkHistory T ch deed
  have tof := cl_textOf (P := P) (base := base) T
  have flat := cl_flat (P := P) (base := base) T
  have ht := cl_hallText T M ch flat tof
  have hist := cl_historyText T chist tof
  have lin := cl_linesIn (P := P) (base := base) T
  have nin := cl_numberIn (P := P) (base := base) T
  have ain := cl_actsIn T nin
  have kin := cl_kindIn T nin ain
  have ish := cl_isHead T nin
  have made := cl_madeOf T G FI OI
  have rh := cl_readHall T G lin ish kin made
  have rhi := cl_readHistory T G ch lin nin deed
  have draw := cl_draw (P := P) (base := base) T
  have cell := cl_cellAt T draw
  have digs := cl_digits T draw cell
  have take := cl_take (P := P) (base := base) T
  have pool := cl_pool T digs
  have pick := cl_pick T take
  have actl := cl_act T take
  have plan := cl_plan T take actl
  have hall := cl_hallL T FI OI
  have line := cl_line (P := P) (base := base) T
  have nams := cl_names (P := P) (base := base) T
  have lines := cl_lines T line nams
  have digit := cl_digit (P := P) (base := base) T
  have acts := cl_acts T digit
  have read := cl_read T nams acts digit
  have spo := cl_spoilt T take pick
  have deeds := cl_deeds (P := P) (base := base) T
  exact fn_law T M ht hist rh rhi pool plan hall lines spo read pick deeds take line TB F hc
/-- what the end asks of the law -/
theorem law_at_head {w : World} {K : PySem.W.Frag} {mg : Str → Option Value} {fa : Addr} {h : Heap} (KX : K.In h) (c : SaysK w h K) (G : h.Ns mainGlobals mg) (hmg : mg ("law" : Str) = some (.ref fa)) :
    LamX.LawAtS PySem.Challenge.rw_shoutrounds_k05_whole_texts w K CX0 11 63 "_law_script" mg fa h := by
  have T := txt_of KX G c
  obtain ⟨fd, F⟩ := T.fnD 42 _ (show fn[42]? = some (dG 66 "law") from rfl)
  have F' : FunD K "law" "law" (defArgs sLaw) (defBody sLaw) (defScope sLaw) [] [] (He.ga K "law") fd := F
  have e := hmg.symm.trans (T.glo "law" (by decide +kernel))
  cases e
  have b := FunD.bindsA (ps := ["_law_script"]) F' fun _ _ _ _ _ _ us hl => match us, hl with | [_], _ => rfl
  have mem : ∀ {p : Addr × Addr}, p ∈ [He.cT K ("law", none)] → p = He.cT K ("law", none) := fun hp => List.mem_singleton.mp hp
  have mtf : (("law", none) : He.Defn) ∈ tf := List.mem_singleton.mpr rfl
  refine ⟨fd, [He.cT K ("law", none)], spLaw K (He.cT K ("law", none)).2, fun p hp => ?_, fun p hp => ?_, fun p hp => ?_, fun s u => b s [u] rfl, fun H a ns hl _ ht hS => ⟨a, ns, rfl, hS, ht _ (List.mem_singleton.mpr rfl), fun _ => rfl⟩, fun base _ _ TB => ?_⟩
  · rw [mem hp]
    exact c.x.empty _ mtf
  · rw [mem hp]
    exact c.x.out _ mtf
  · rw [mem hp]
    exact PySem.W.codeHd_of_K KX (c.x.hd _ mtf)
  · exact law_ok T prgOk (TB _ (List.mem_singleton.mpr rfl)) F' rfl
end K5
set_option Elab.async false
set_option linter.all false
set_option maxRecDepth 100000
set_option maxHeartbeats 0
open PySem PySem.W PySem.Calls PyProof.Rows
theorem PySem.Challenge.cw_shoutrounds_k05_whole_texts_holds : PySem.Challenge.rw_shoutrounds_k05_whole_texts.Holds := by
  w_on; o_law
  refine HandSHeadRun.head_any (r := OpenLaw.row PySem.Challenge.rw_shoutrounds_k05_whole_texts) (q := view (OpenLaw.row PySem.Challenge.rw_shoutrounds_k05_whole_texts).prog [66]) (H := K5.hookK) (ob := K5.ob) (M := 6000) (loose := K5.loose) (d := HandSHeadRun.topDef (OpenLaw.row PySem.Challenge.rw_shoutrounds_k05_whole_texts).prog 66) (kwd := []) K5.ob_eq
    (by kernel_rfl) (fun s => by kernel_rfl) K5.run (by kernel_rfl) (by kernel_rfl) (by kernel_rfl) (by rfl) (by first | assumption | decide +kernel) (by decide +kernel) ⟨rfl, rfl, rfl, rfl, rfl, by decide +kernel⟩ ?hw ?hc
  case hw => w_witness2
  case hc =>
    refine LamX.walk_ofTsE (l := PySem.Challenge.rw_shoutrounds_k05_whole_texts) (n := 63) (k := 11) (x := "_law_script") (CX := fun _ => L2.CX0) rfl (by decide) (by kernel_rfl) ⟨rfl, by decide, by decide⟩ ?F (fun _ _ _ _ _ z => z)
    intro w mg fa h Y G hmg0
    obtain ⟨K, KX, c⟩ := Y
    have hmg : mg ("law" : PySem.Str) = some (.ref fa) := by
      have e : (HandSHeadRun.topDef (OpenLaw.row PySem.Challenge.rw_shoutrounds_k05_whole_texts).prog 66).name = ("law" : PySem.Str) := by kernel_rfl
      rw [← e]
      exact hmg0
    exact ⟨K, KX, K5.law_at_head KX c G hmg⟩
