import PyProof.Rows.All
import Wide.All
import OpenK.AllK
import Wide.FinOn
import KE.KStateDown
import HandS.ForMost
import HandS.More
import HandS.Defaults
import HandS.Head0
import HandS.Head1
import HandS.Head2
import HandS.HeadEnd
import HandS.HeadHook1
import HandS.HeadHook2
import HandS.HeadHook4
import HandS.Property
import HandS.Exc
import HandS.ExcInit
import HandS.ExcOwn
import HandS.TryOnly
import HandS.ExcField
import KE.KExcInit
import OpenK.KCls
import PySem.Challenge.RW_exitstacks_k75_events_and_logs_checked
import HandS.Wide
import HandS.EndBits
import HandS.TupAny
import HandS.TupMul
import HandS.IsInst
import HandS.Deep
import HandS.Style
import HandS.Remove
import KE.KUnpackStar
import HandS.Walk
import HandS.SortInts
import HandS.SortRule
import HandS.SetFor
import HandS.Star
import PyProof.ReprRoads
import PyProof.ReprBulk
import PyProof.Rows.ReprShort
import KE.GoesEnum
import KE.KIndexOf
import PyProof.IsInstance
import HandS.MakeKwOnly
import HandS.WordsExc
import HandS.Lambda
import KE.KDflt
import KE.KExcIs
import HandS.Steps
import HandS.GenList
import KE.GoesMore
import PyProof.RangeIter
import PyProof.InstEq
import HandS.EndTab
import HandS.NestedK
set_option Elab.async false
set_option linter.all false
set_option maxRecDepth 100000
set_option maxHeartbeats 4000000
namespace L75
open PySem PySem.Spec PyProof.Rows L2
def top (i : Nat) : Stmt := PySem.Challenge.pw_exitstacks_k75_events_and_logs_checked.main.body.getD i (.Pass ⟨0, 0, 0, 0⟩)
def dG (x : Str) (i : Nat) : He.DefD := ⟨(x, none), x, x, defArgs (top i), defBody (top i), defScope (top i), [], []⟩
def dM (c x q : Str) (i j : Nat) : He.DefD := ⟨(c, some x), x, q, defArgs (inClass (top i) j), defBody (inClass (top i) j), defScope (inClass (top i) j), [], []⟩
def dGk (x : Str) (i : Nat) (ds : List He.Dv) (ks : List (Str × He.Dv)) : He.DefD := ⟨(x, none), x, x, defArgs (top i), defBody (top i), defScope (top i), ds, ks⟩
def dMk (c x q : Str) (i j : Nat) (ds : List He.Dv) (ks : List (Str × He.Dv)) : He.DefD := ⟨(c, some x), x, q, defArgs (inClass (top i) j), defBody (inClass (top i) j), defScope (inClass (top i) j), ds, ks⟩
def fn : List He.DefD := ([dG "_wall" 0, dM "BadKind" "__init__" "BadKind.__init__" 3 0, dM "BadLabel" "__init__" "BadLabel.__init__" 4 0, dM "BadNumber" "__init__" "BadNumber.__init__" 5 0, dM "BadFault" "__init__" "BadFault.__init__" 6 0, dM "BadName" "__init__" "BadName.__init__" 7 0, dM "BadLog" "__init__" "BadLog.__init__" 8 0, dM "NoPlace" "__init__" "NoPlace.__init__" 10 0, dG "is_letter" 14, dG "is_kind" 15, dG "is_label" 16, dM "Fault" "__init__" "Fault.__init__" 18 0, dG "s7_is_number" 22, dG "s7_is_name" 23, dG "s7_is_plain" 24] : List He.DefD) ++ ([dG "s7_is_shown" 25, dG "s7_is_word" 26, dG "is_event" 27, dG "check_log" 28, dM "Watcher" "__init__" "Watcher.__init__" 29 0, dM "Watcher" "__call__" "Watcher.__call__" 29 1, dG "spans" 30, dG "never_shut" 31, dG "most_open" 32, dG "crossings" 33, dG "flaws" 34, dG "notes_within" 35, dG "s7_need_fault" 36, dGk "cycle_of" 37 [] [("link", .str "context")], dG "audit" 38] : List He.DefD) ++ ([dG "_law_mixed" 40, dG "_law_draw" 41, dG "_law_digit" 42, dG "_law_is_number" 43, dG "_law_is_text" 44, dG "_law_is_plain" 45, dG "_law_is_due" 46, dG "_law_event" 47, dG "_law_odd" 48, dG "_law_bent" 49, dG "_law_word" 50, dG "_law_log_right" 51, dG "_law_by_name" 52, dG "law" 53] : List He.DefD)
def fa : List He.Fa := ([.glo "_wall", .glo "ModelError", .glo "BadKind", .glo "BadLabel", .glo "BadNumber", .glo "BadFault", .glo "BadName", .glo "BadLog", .glo "Absent", .glo "NoPlace", .int "MOST_LETTERS" 12, .int "MOST_LABEL" 40, .glo "is_letter", .glo "is_kind", .glo "is_label"] : List He.Fa) ++ ([.glo "Fault", .cls "Fault", .mkr "Fault", .noat "Fault" "s1_context", .noat "Fault" "s1_cause", .noat "Fault" "s1_hides", .noat "Fault" "s1_kind", .noat "Fault" "s1_label", .noat "Fault" "s1_number", .meth "Fault" "__init__", .int "MOST_NAME" 8, .int "MOST_VALUE" 1000000000, .glo "s7_is_number", .glo "s7_is_name", .glo "s7_is_plain"] : List He.Fa) ++ ([.glo "s7_is_shown", .glo "s7_is_word", .glo "is_event", .glo "check_log", .glo "Watcher", .cls "Watcher", .mkr "Watcher", .noat "Watcher" "s7_seen", .noat "Watcher" "s7_opened", .noat "Watcher" "s7_made", .noat "Watcher" "s7_open", .noat "Watcher" "s7_most", .meth "Watcher" "__init__", .meth "Watcher" "__call__", .glo "spans"] : List He.Fa) ++ ([.glo "never_shut", .glo "most_open", .glo "crossings", .glo "flaws", .glo "notes_within", .glo "s7_need_fault", .glo "cycle_of", .glo "audit", .glo "_law_mixed", .glo "_law_draw", .glo "_law_digit", .glo "_law_is_number", .glo "_law_is_text", .glo "_law_is_plain", .glo "_law_is_due"] : List He.Fa) ++ ([.glo "_law_event", .glo "_law_odd", .glo "_law_bent", .glo "_law_word", .glo "_law_log_right", .glo "_law_by_name", .glo "law", .free "ValueError", .free "LookupError", .free "property", .free "all", .free "isinstance", .free "int", .free "enumerate", .free "bool"] : List He.Fa) ++ ([.free "tuple", .free "str", .free "range", .free "list", .free "len", .free "max", .free "repr", .free "sum", .free "ord", .free "sorted", .free "zip"] : List He.Fa)
abbrev R : PySem.W.OpenRow := PySem.W.OpenLaw.row PySem.Challenge.rw_exitstacks_k75_events_and_logs_checked
/-! the head's facts: properties and more -/
def pgA (K : PySem.W.Frag) (c f : Str) : Addr := match PySem.W.recIn K (He.ma K (He.ga K c) f) "property" with
  | some (.ref g :: _) => g
  | _ => 0
def fnWA (K : PySem.W.Frag) (a : Addr) : He.FnW := match K.lookup a with
  | some ⟨_, _, .func fd, _⟩ => some (fd.name, fd.qualname, fd.params, fd.body, fd.scope, fd.globals, fd.closure, fd.builtins)
  | _ => none
/-- a property of a class: its getter's text -/
structure PrD where
  c : Str
  f : Str
  d : He.DefD
def PrD.ok (K : PySem.W.Frag) (p : PrD) : Bool := He.eqO (PySem.W.findIn K (.ref (He.ga K p.c)) p.f) (some (some (.ref (He.ma K (He.ga K p.c) p.f)))) &&
  (He.eqO (PySem.W.specialIn K (.ref (He.ma K (He.ga K p.c) p.f)) "__get__") (some (some (.builtin "property.__get__"))) &&
  (decide (PySem.W.takesIn K (.ref (He.ma K (He.ga K p.c) p.f)) = some true) &&
  ((match PySem.W.recIn K (He.ma K (He.ga K p.c) p.f) "property" with | some (.ref _ :: _) => true | _ => false) &&
  (PySem.W.keepIn K (.ref (pgA K p.c p.f)) && (match K.lookup (pgA K p.c p.f) with
  | some ⟨_, _, .func fd, _⟩ => PySem.W.codeIn K fd.code p.d.qual && (He.dflB K fd.defaults (p.d.dvs K) && He.kwdB K fd.kwdefaults (p.d.kws K))
  | _ => false)))))
def PrD.val (p : PrD) : He.FnW := p.d.val
theorem funDA {K : PySem.W.Frag} {d : He.DefD} {a : Addr} (e : fnWA K a = d.val) (kp : PySem.W.keepIn K (.ref a) = true) (c2 : (match K.lookup a with
  | some ⟨_, _, .func fd, _⟩ => PySem.W.codeIn K fd.code d.qual && (He.dflB K fd.defaults (d.dvs K) && He.kwdB K fd.kwdefaults (d.kws K))
  | _ => false) = true) : ∃ fd, FunD K d.name d.qual d.params d.body d.scope (d.dvs K) (d.kws K) a fd := by
  unfold fnWA at e
  cases q : K.lookup a with
  | none =>
    rw [q] at c2
    cases c2
  | some o =>
    obtain ⟨oc, od, dt, osl⟩ := o
    rw [q] at c2 e
    cases dt with
    | func fd =>
      obtain ⟨n1, n2, n3, n4, n5, n6, n7, n8, n9, n10, n11, n12, n13, n14, n15⟩ := fd
      have e2 : (some (n1, n2, n3, n4, n5, n6, n7, n15) : He.FnW) = some (d.name, d.qual, d.params, .stmts d.body, d.scope, mainGlobals, [], builtinsNs) := e
      simp only [Option.some.injEq, Prod.mk.injEq] at e2
      obtain ⟨h1, h2, h3, h4, h5, h6, h7, h8⟩ := e2
      subst h1 h2 h3 h4 h5 h6 h7 h8
      obtain ⟨k1, k2⟩ := He.ba (show (PySem.W.codeIn K n13 d.qual && (He.dflB K n8 (d.dvs K) && He.kwdB K n9 (d.kws K))) = true from c2)
      obtain ⟨k3, k4⟩ := He.ba k2
      exact ⟨_, ⟨oc, od, n8, n9, n10, n11, n12, n13, n14, osl, rfl, q, k1, He.dflB_ok k3, He.kwdB_ok k4⟩, kp⟩
    | _ => cases c2
abbrev AlX : Type := He.AlD × (Bool × List He.FnW)
def obsX (fa : List He.Fa) (fn : List He.DefD) (pr : List PrD) (xb : PySem.W.Frag → Bool) (K : PySem.W.Frag) : AlX := (He.obsD fa fn K, ((pr.all fun p : PrD => p.ok K) && xb K, pr.map fun p : PrD => fnWA K (pgA K p.c p.f)))
def valX (fn : List He.DefD) (pr : List PrD) : AlX := (He.valD fn, (true, pr.map PrD.val))
/-- the code objects' tables of the defs tf: empty, and K tells nothing of them -/
structure TabC (tf : List He.Defn) (h : Heap) (K : PySem.W.Frag) : Prop where
  hd : ∀ p ∈ tf, PySem.W.codeHdIn K (He.cT K p).1 (He.cT K p).2 = true
  out : ∀ p ∈ tf, K.lookup (He.cT K p).2 = none
  empty : ∀ p ∈ tf, h.get? (He.cT K p).2 = some { cls := .none, data := .fields #[] }
def obsXG (n : Nat) (fa : List He.Fa) (fn : List He.DefD) (pr : List PrD) (tf : List He.Defn) (xb : PySem.W.Frag → Bool) (g : Addr → Option Obj) : AlX × Bool := (obsX fa fn pr xb (He.frT g (cStatics :: He.asD g n)), He.tabsB g tf (He.frT g (cStatics :: He.asD g n)))
theorem tabC_of {tf : List He.Defn} {h : Heap} {as : List Addr} (e : He.tabsB h.get? tf (He.frT h.get? as) = true) : TabC tf h (He.frT h.get? as) := by
  have key : ∀ p ∈ tf, PySem.W.codeHdIn (He.frT h.get? as) (He.cT (He.frT h.get? as) p).1 (He.cT (He.frT h.get? as) p).2 = true ∧ ∃ o, h.get? (He.cT (He.frT h.get? as) p).2 = some o ∧ He.emptyTab o = true := fun p hp => by
    obtain ⟨h3, h4⟩ := He.ba (List.all_eq_true.mp e p hp)
    refine ⟨h3, ?_⟩
    cases q : h.get? (He.cT (He.frT h.get? as) p).2 with
    | none => rw [q] at h4; cases h4
    | some o => rw [q] at h4; exact ⟨o, rfl, h4⟩
  exact ⟨fun p hp => (key p hp).1, fun p hp => (let ⟨_, o, q, z⟩ := key p hp; He.frT_none q z), fun p hp => (let ⟨_, o, q, z⟩ := key p hp; by rw [q, He.emptyTab_eq z])⟩
def hookX (n : Nat) (fa : List He.Fa) (fn : List He.DefD) (pr : List PrD) (tf : List He.Defn) (xb : PySem.W.Frag → Bool) : PySem.W.Hook where
  α := AlX × Bool
  obs := fun s => obsXG n fa fn pr tf xb s.heap.get?
  val := fun _ => (valX fn pr, true)
  says := fun _ h => ∃ K : PySem.W.Frag, K.In h ∧ obsX fa fn pr xb K = valX fn pr ∧ TabC tf h K
  of := fun _ _ e => ⟨_, He.frT_in, congrArg (fun z : AlX × Bool => z.1) e, tabC_of (congrArg (fun z : AlX × Bool => z.2) e)⟩
  keeps := fun _ _ _ ⟨K, hK, c, t⟩ k => ⟨K, PySem.W.Frag.In.keeps hK k, c, t.hd, t.out, fun p hp => k _ _ (t.empty p hp)⟩
theorem obsXG_eq {n : Nat} {fa : List He.Fa} {fn : List He.DefD} {pr : List PrD} {tf : List He.Defn} {xb : PySem.W.Frag → Bool} {g : Addr → Option Obj} {s : Shared} (h : ∀ a, g a = s.heap.get? a) : obsXG n fa fn pr tf xb g = (hookX n fa fn pr tf xb).obs s := by
  have e : g = s.heap.get? := funext h
  rw [e] <;> rfl
theorem saysX {fa : List He.Fa} {fn : List He.DefD} {pr : List PrD} {xb : PySem.W.Frag → Bool} {K : PySem.W.Frag} (c : obsX fa fn pr xb K = valX fn pr) : He.SaysD fa fn K ∧ xb K = true ∧
    ∀ (i : Nat) (p : PrD), pr[i]? = some p → PropOf K (He.ga K p.c) p.f (He.ma K (He.ga K p.c) p.f) (pgA K p.c p.f) ∧ ∃ fd, FunD K p.d.name p.d.qual p.d.params p.d.body p.d.scope (p.d.dvs K) (p.d.kws K) (pgA K p.c p.f) fd := by
  have c1 : He.obsD fa fn K = He.valD fn := congrArg (fun z : AlX => z.1) c
  have c2 : ((pr.all fun p : PrD => p.ok K) && xb K) = true := congrArg (fun z : AlX => z.2.1) c
  have c3 : (pr.map fun p : PrD => fnWA K (pgA K p.c p.f)) = pr.map PrD.val := congrArg (fun z : AlX => z.2.2) c
  obtain ⟨k1, k2⟩ := He.ba c2
  refine ⟨c1, k2, fun i p hp => ?_⟩
  have k := List.all_eq_true.mp k1 p (List.mem_of_getElem? hp)
  unfold PrD.ok at k
  obtain ⟨a1, k⟩ := He.ba k
  obtain ⟨a2, k⟩ := He.ba k
  obtain ⟨a3, k⟩ := He.ba k
  obtain ⟨a4, k⟩ := He.ba k
  obtain ⟨a5, a6⟩ := He.ba k
  have e2 : (pr.map fun p : PrD => fnWA K (pgA K p.c p.f))[i]? = (pr.map PrD.val)[i]? := by rw [c3]
  rw [List.getElem?_map, List.getElem?_map, hp] at e2
  refine ⟨⟨He.eqO_ok a1, He.eqO_ok a2, of_decide_eq_true a3, ?_⟩, funDA (Option.some.inj e2) a5 a6⟩
  unfold pgA
  split at a4
  · rename_i g rest hq
    rw [hq]
    exact ⟨rest, rfl⟩
  · cases a4
/-! own exceptions with an __init__ that calls its base's -/
/-- the class object at C is an exception's over ValueError -/
def oexB (K : PySem.W.Frag) (C : Addr) : Bool := match K.lookup C with
  | some ⟨.type "type", _, .cls cd, ⟨[_, _, _, _, some (.builtin n), _]⟩⟩ => (match cd.mro with
    | .ref C' :: bm => C' == C && (n == "ValueError.__new__" && (!cd.hasDel && (cd.hasDict && PySem.HandSPX.refsVE bm)))
    | _ => false)
  | _ => false
theorem oexB_ok {K : PySem.W.Frag} {C : Addr} (h : oexB K C = true) : ∃ nm q N bs bm sn sub ab col dd k0 k1 k2 k3 k5, K.lookup C = some (excClassObj nm q C N bs bm true sn sub ab col dd k0 k1 k2 k3 k5 "ValueError.__new__") ∧ PySem.HandSPX.refsVE bm = true := by
  unfold oexB at h
  split at h
  · rename_i dd cd k0 k1 k2 k3 n k5 ho
    split at h
    · rename_i C' bm hm
      simp only [Bool.and_eq_true, beq_iff_eq, Bool.not_eq_true'] at h
      obtain ⟨rfl, rfl, h1, h2, h3⟩ := h
      obtain ⟨nm, bs, mro, N, q, hd, sn, sub, ab, col, hdel⟩ := cd
      simp only at hm h1 h2
      subst hm h1 h2
      exact ⟨nm, q, N, bs, bm, sn, sub, ab, col, dd, k0, k1, k2, k3, k5, ho, h3⟩
    · cases h
  · cases h
/-- the facts of such a class, its attribute's name f -/
def exB (K : PySem.W.Frag) (c f : Str) : Bool := oexB K (He.ga K c) && (He.eqO (PySem.W.findIn K (.ref (He.ga K c)) "__setattr__") (some (some (.builtin "object.__setattr__"))) && (decide (PySem.W.subIn K (.ref (He.ga K c)) (.type "BaseException") = some true) &&
  (decide (PySem.W.typeIn K (.ref (He.ga K c)) = some (.type "type")) && (PySem.W.keepIn K (.ref (He.ga K c)) && (He.eqO (PySem.W.findIn K (.ref (He.ga K c)) "__init__") (some (some (.ref (He.ma K (He.ga K c) "__init__")))) &&
  (decide (PySem.W.typeIn K (.ref (He.ma K (He.ga K c) "__init__")) = some (.type "function")) && He.eqO (PySem.W.findIn K (.ref (He.ga K c)) f) (some none)))))))
structure ExC (K : PySem.W.Frag) (c f : Str) : Prop where
  o : OexC K (He.ga K c)
  i : PySem.W.findIn K (.ref (He.ga K c)) "__init__" = some (some (.ref (He.ma K (He.ga K c) "__init__")))
  t : PySem.W.typeIn K (.ref (He.ma K (He.ga K c) "__init__")) = some (.type "function")
  n : PySem.W.findIn K (.ref (He.ga K c)) f = some none
theorem exB_ok {K : PySem.W.Frag} {c f : Str} (h : exB K c f = true) : ExC K c f := by
  unfold exB at h
  obtain ⟨a1, h⟩ := He.ba h
  obtain ⟨a2, h⟩ := He.ba h
  obtain ⟨a3, h⟩ := He.ba h
  obtain ⟨a4, h⟩ := He.ba h
  obtain ⟨a5, h⟩ := He.ba h
  obtain ⟨a6, h⟩ := He.ba h
  obtain ⟨a7, a8⟩ := He.ba h
  exact ⟨⟨oexB_ok a1, He.eqO_ok a2, of_decide_eq_true a3, of_decide_eq_true a4, a5⟩, He.eqO_ok a6, of_decide_eq_true a7, He.eqO_ok a8⟩
/-- the class named m has ValueError's __init__ -/
def viB (K : PySem.W.Frag) (m : Str) : Bool := decide (PySem.W.specialIn K (.ref (He.ga K m)) "__getattribute__" = some (some (.builtin "type.__getattribute__"))) && (PySem.W.readsIn K (He.ga K m) (.type "type") &&
  (match PySem.W.findCls K (.ref (He.ga K m)) (.type "type") "__init__" with | some (.val (.builtin n)) => n == "ValueError.__init__" | _ => false))
structure ViC (K : PySem.W.Frag) (m : Str) : Prop where
  g : PySem.W.specialIn K (.ref (He.ga K m)) "__getattribute__" = some (some (.builtin "type.__getattribute__"))
  r : PySem.W.readsIn K (He.ga K m) (.type "type") = true
  f : PySem.W.findCls K (.ref (He.ga K m)) (.type "type") "__init__" = some (.val (.builtin "ValueError.__init__"))
theorem viB_ok {K : PySem.W.Frag} {m : Str} (h : viB K m = true) : ViC K m := by
  unfold viB at h
  obtain ⟨a1, h⟩ := He.ba h
  obtain ⟨a2, a3⟩ := He.ba h
  refine ⟨of_decide_eq_true a1, a2, ?_⟩
  split at a3
  · rename_i n hn
    rw [hn, beq_iff_eq.mp a3]
  · cases a3
/-- what the written part says of such a class -/
structure OexT (K : PySem.W.Frag) (C : Addr) (B newId initId : String) (bmB : List Value) : Prop where
  F : ExcBaseFacts B newId initId bmB
  SF : StoreFacts B bmB "object.__setattr__" "object"
  q : PySem.W.excInitIn K C bmB newId = true
  ov : PySem.W.excOver K C bmB = true
  hd : PySem.W.hasDictIn K C = true
  sa : PySem.W.findIn K (.ref C) "__setattr__" = some (some (.builtin "object.__setattr__"))
  exC : PySem.W.subIn K (.ref C) (.type "BaseException") = some true
  tyC : PySem.W.typeIn K (.ref C) = some (.type "type")
  kC : PySem.W.keepIn K (.ref C) = true
/-- M.__init__(self, ..), M over the base -/
structure BiC (K : PySem.W.Frag) (m : Str) (initId : String) : Prop where
  g : PySem.W.specialIn K (.ref (He.ga K m)) "__getattribute__" = some (some (.builtin "type.__getattribute__"))
  r : PySem.W.readsIn K (He.ga K m) (.type "type") = true
  f : PySem.W.findCls K (.ref (He.ga K m)) (.type "type") "__init__" = some (.val (.builtin initId))
def leB : List Value := [.type "LookupError", .type "Exception", .type "BaseException", .type "object"]
/-- the facts of an own class over LookupError whose __init__ lays the attribute f -/
def exTB (K : PySem.W.Frag) (c f : Str) : Bool := PySem.W.excInitIn K (He.ga K c) leB "LookupError.__new__" && (PySem.W.excOver K (He.ga K c) leB && (PySem.W.hasDictIn K (He.ga K c) && (He.eqO (PySem.W.findIn K (.ref (He.ga K c)) "__setattr__") (some (some (.builtin "object.__setattr__"))) &&
  (decide (PySem.W.subIn K (.ref (He.ga K c)) (.type "BaseException") = some true) && (decide (PySem.W.typeIn K (.ref (He.ga K c)) = some (.type "type")) && (PySem.W.keepIn K (.ref (He.ga K c)) &&
  (He.eqO (PySem.W.findIn K (.ref (He.ga K c)) "__init__") (some (some (.ref (He.ma K (He.ga K c) "__init__")))) && (decide (PySem.W.typeIn K (.ref (He.ma K (He.ga K c) "__init__")) = some (.type "function")) &&
  (He.eqO (PySem.W.takerIn K (He.ga K c) f) (some none) && He.eqO (PySem.W.findIn K (.ref (He.ga K c)) f) (some none))))))))))
structure ExT (K : PySem.W.Frag) (c f : Str) : Prop where
  o : OexT K (He.ga K c) "LookupError" "LookupError.__new__" "LookupError.__init__" leB
  i : PySem.W.findIn K (.ref (He.ga K c)) "__init__" = some (some (.ref (He.ma K (He.ga K c) "__init__")))
  t : PySem.W.typeIn K (.ref (He.ma K (He.ga K c) "__init__")) = some (.type "function")
  tk : PySem.W.takerIn K (He.ga K c) f = some none
  n : PySem.W.findIn K (.ref (He.ga K c)) f = some none
theorem exTB_ok {K : PySem.W.Frag} {c f : Str} (h : exTB K c f = true) : ExT K c f := by
  unfold exTB at h
  obtain ⟨a1, h⟩ := He.ba h
  obtain ⟨a2, h⟩ := He.ba h
  obtain ⟨a3, h⟩ := He.ba h
  obtain ⟨a4, h⟩ := He.ba h
  obtain ⟨a5, h⟩ := He.ba h
  obtain ⟨a6, h⟩ := He.ba h
  obtain ⟨a7, h⟩ := He.ba h
  obtain ⟨a8, h⟩ := He.ba h
  obtain ⟨a9, h⟩ := He.ba h
  obtain ⟨b1, b2⟩ := He.ba h
  exact ⟨⟨F.excBase_LookupError, F.store_LookupError, a1, a2, a3, He.eqO_ok a4, of_decide_eq_true a5, of_decide_eq_true a6, a7⟩, He.eqO_ok a8, of_decide_eq_true a9, He.eqO_ok b1, He.eqO_ok b2⟩
def biB (K : PySem.W.Frag) (m : Str) (initId : String) : Bool := decide (PySem.W.specialIn K (.ref (He.ga K m)) "__getattribute__" = some (some (.builtin "type.__getattribute__"))) && (PySem.W.readsIn K (He.ga K m) (.type "type") &&
  (match PySem.W.findCls K (.ref (He.ga K m)) (.type "type") "__init__" with | some (.val (.builtin n)) => n == initId | _ => false))
theorem biB_ok {K : PySem.W.Frag} {m : Str} {initId : String} (h : biB K m initId = true) : BiC K m initId := by
  unfold biB at h
  obtain ⟨a1, h⟩ := He.ba h
  obtain ⟨a2, a3⟩ := He.ba h
  refine ⟨of_decide_eq_true a1, a2, ?_⟩
  split at a3
  · rename_i n hn
    rw [hn, beq_iff_eq.mp a3]
  · cases a3
/-! isinstance of an own class -/
def isB (K : PySem.W.Frag) (c : Str) : Bool := He.eqO (PySem.W.findIn K (.ref (He.ga K c)) "__class__") (some (some (.builtin "object.__class__"))) && (He.eqO (PySem.W.specialIn K (.builtin "object.__class__") "__get__") (some (some (.builtin "getset_descriptor.__get__"))) &&
  (decide (PySem.W.takesIn K (.builtin "object.__class__") = some true) && (decide (PySem.W.mroIn K (He.ga K c) (.type "object") = some true) && ((PySem.W.clsIn K (He.ga K c)).isSome && PySem.W.typeIn K (.ref (He.ga K c)) == some (.type "type")))))
structure IsC (K : PySem.W.Frag) (c : Str) : Prop where
  ha : PySem.W.findIn K (.ref (He.ga K c)) "__class__" = some (some (.builtin "object.__class__"))
  hn : PySem.W.specialIn K (.builtin "object.__class__") "__get__" = some (some (.builtin "getset_descriptor.__get__"))
  ht : PySem.W.takesIn K (.builtin "object.__class__") = some true
  hm : PySem.W.mroIn K (He.ga K c) (.type "object") = some true
  hk : ((PySem.W.clsIn K (He.ga K c)).isSome && PySem.W.typeIn K (.ref (He.ga K c)) == some (.type "type")) = true
theorem isB_ok {K : PySem.W.Frag} {c : Str} (h : isB K c = true) : IsC K c := by
  unfold isB at h
  obtain ⟨a1, h⟩ := He.ba h
  obtain ⟨a2, h⟩ := He.ba h
  obtain ⟨a3, h⟩ := He.ba h
  obtain ⟨a4, a5⟩ := He.ba h
  exact ⟨He.eqO_ok a1, He.eqO_ok a2, of_decide_eq_true a3, of_decide_eq_true a4, a5⟩
/-! == of instances of an own class without __eq__ -/
def cmpB (K : PySem.W.Frag) (c : Str) : Bool := match K.lookup (He.ga K c) with
  | some ⟨.type "type", _, .cls cd, ⟨[_, _, _, _, some (.builtin _), _]⟩⟩ => decide (cd.mro = [.ref (He.ga K c), .type "object"]) && (!cd.hasDel && (PySem.W.nsOkIn K cd.ns && (He.eqO (PySem.W.nsIn K cd.ns "__eq__") (some none) && He.eqO (PySem.W.nsIn K cd.ns "__ne__") (some none))))
  | _ => false
structure CmpC (K : PySem.W.Frag) (C : Addr) : Prop where
  ex : ∃ nm q N bs hdct sn sub ab col dd k0 k1 k2 k3 k5 newId, K.lookup C = some (excClassObj nm q C N bs [.type "object"] hdct sn sub ab col dd k0 k1 k2 k3 k5 newId) ∧ PySem.W.nsOkIn K N = true ∧ PySem.W.nsIn K N "__eq__" = some none ∧ PySem.W.nsIn K N "__ne__" = some none
theorem cmpB_ok {K : PySem.W.Frag} {c : Str} (h : cmpB K c = true) : CmpC K (He.ga K c) := by
  unfold cmpB at h
  split at h
  · rename_i dd cd k0 k1 k2 k3 n k5 ho
    obtain ⟨a1, h⟩ := He.ba h
    obtain ⟨a2, h⟩ := He.ba h
    obtain ⟨a3, h⟩ := He.ba h
    obtain ⟨a4, a5⟩ := He.ba h
    obtain ⟨nm, bs, mro, N, q, hd, sn, sub, ab, col, hdel⟩ := cd
    simp only at a1 a2 a3 a4 a5
    have a1 := of_decide_eq_true a1
    rw [Bool.not_eq_true'] at a2
    subst a1 a2
    exact ⟨nm, q, N, bs, hd, sn, sub, ab, col, dd, k0, k1, k2, k3, k5, n, ho, a3, He.eqO_ok a4, He.eqO_ok a5⟩
  · cases h
theorem CmpC.inst {K : PySem.W.Frag} {C x : Addr} {h : Heap} {o : Obj} (T : CmpC K C) (X : K.In h) (hx : h.get? x = some o) (hc : o.cls = .ref C) : h.CmpInst x C [.type "object"] := by
  obtain ⟨nm, q, N, bs, hdct, sn, sub, ab, col, dd, k0, k1, k2, k3, k5, newId, e, n1, n2, n3⟩ := T.ex
  exact ⟨o, nm, q, N, bs, hdct, sn, sub, ab, col, dd, k0, k1, k2, k3, k5, newId, h.nsMap N, hx, hc, X _ _ e, .of_isNs (PySem.W.isNs_of_in X n1), PySem.W.nsMap_none_of_in X n1 n2, PySem.W.nsMap_none_of_in X n1 n3⟩

def pr : List PrD := ([⟨"Fault", "kind", dM "Fault" "kind" "Fault.kind" 18 1⟩, ⟨"Fault", "label", dM "Fault" "label" "Fault.label" 18 2⟩, ⟨"Fault", "number", dM "Fault" "number" "Fault.number" 18 3⟩, ⟨"Fault", "context", dM "Fault" "context" "Fault.context" 18 4⟩, ⟨"Fault", "cause", dM "Fault" "cause" "Fault.cause" 18 5⟩, ⟨"Fault", "hides", dM "Fault" "hides" "Fault.hides" 18 6⟩, ⟨"Watcher", "seen", dM "Watcher" "seen" "Watcher.seen" 29 2⟩, ⟨"Watcher", "now_open", dM "Watcher" "now_open" "Watcher.now_open" 29 3⟩, ⟨"Watcher", "open_at_most", dM "Watcher" "open_at_most" "Watcher.open_at_most" 29 4⟩] : List PrD)
def xb : PySem.W.Frag → Bool := fun K => isB K "Fault" && (cmpB K "Fault" && (exB K "BadLog" "index" && (viB K "ModelError" && (xfB K (He.ga K "BadLog") && (decide (PySem.W.exmOne K (.ref (He.ga K "BadLog")) (.ref (He.ga K "ModelError")) = some true) && (isB K "BadLog" && (exTB K "NoPlace" "index" && (biB K "Absent" "LookupError.__init__" && (xfB K (He.ga K "NoPlace") && decide (PySem.W.exmOne K (.ref (He.ga K "NoPlace")) (.ref (He.ga K "Absent")) = some true))))))))))
def tf : List He.Defn := [("_law_log_right", none)]
abbrev hk : PySem.W.Hook := hookX 5 fa fn pr tf xb
def ob (s : PySem.W.SharedT) : AlX × Bool := obsXG 5 fa fn pr tf xb (HandSHeadRun.getT s)
theorem ob_eq (s : PySem.W.SharedT) : ob s = hk.obs s.abs := obsXG_eq (HandSHeadRun.getT_eq s)
def loose : List Str := (["Absent", "BadFault", "BadKind", "BadLabel", "BadLog", "BadName", "BadNumber", "Fault", "MOST_LABEL", "MOST_LETTERS", "MOST_NAME", "MOST_VALUE", "ModelError", "NoPlace", "Watcher"] : List Str) ++ (["_law_bent", "_law_by_name", "_law_digit", "_law_draw", "_law_event", "_law_is_due", "_law_is_number", "_law_is_plain", "_law_is_text", "_law_log_right", "_law_mixed", "_law_odd", "_law_word", "_wall", "audit"] : List Str) ++ (["check_log", "crossings", "cycle_of", "flaws", "is_event", "is_kind", "is_label", "is_letter", "most_open", "never_shut", "notes_within", "s7_is_name", "s7_is_number", "s7_is_plain", "s7_is_shown"] : List Str) ++ (["s7_is_word", "s7_need_fault", "spans"] : List Str)
theorem run (w : World) : HandSHeadRun.RunEq R (PySem.W.view R.prog [53]) hk ob 8000 loose w := by
  intro os
  kernel_rfl
structure Sy (K : PySem.W.Frag) (mg : Str → Option Value) : Prop where
  s : He.SaysD fa fn K
  b : xb K = true
  p : ∀ (i : Nat) (p : PrD), pr[i]? = some p → PropOf K (He.ga K p.c) p.f (He.ma K (He.ga K p.c) p.f) (pgA K p.c p.f) ∧ ∃ fd, FunD K p.d.name p.d.qual p.d.params p.d.body p.d.scope (p.d.dvs K) (p.d.kws K) (pgA K p.c p.f) fd
  x : ∃ h : Heap, K.In h ∧ h.Ns mainGlobals mg
def FDx (K : PySem.W.Frag) (d : He.DefD) : Prop := ∃ fd, FunD K d.name d.qual d.params d.body d.scope [] [] (He.fAd K d.at_) fd
def FDk (K : PySem.W.Frag) (d : He.DefD) : Prop := ∃ fd, FunD K d.name d.qual d.params d.body d.scope (d.dvs K) (d.kws K) (He.fAd K d.at_) fd
section
variable {K : PySem.W.Frag} {mg : Str → Option Value}
theorem F_wall (T : Sy K mg) : FDx K (dG "_wall" 0) := T.s.def_ 0 (d := dG "_wall" 0) rfl
theorem F_BadKind___init__ (T : Sy K mg) : FDx K (dM "BadKind" "__init__" "BadKind.__init__" 3 0) := T.s.def_ 1 (d := dM "BadKind" "__init__" "BadKind.__init__" 3 0) rfl
theorem F_BadLabel___init__ (T : Sy K mg) : FDx K (dM "BadLabel" "__init__" "BadLabel.__init__" 4 0) := T.s.def_ 2 (d := dM "BadLabel" "__init__" "BadLabel.__init__" 4 0) rfl
theorem F_BadNumber___init__ (T : Sy K mg) : FDx K (dM "BadNumber" "__init__" "BadNumber.__init__" 5 0) := T.s.def_ 3 (d := dM "BadNumber" "__init__" "BadNumber.__init__" 5 0) rfl
theorem F_BadFault___init__ (T : Sy K mg) : FDx K (dM "BadFault" "__init__" "BadFault.__init__" 6 0) := T.s.def_ 4 (d := dM "BadFault" "__init__" "BadFault.__init__" 6 0) rfl
theorem F_BadName___init__ (T : Sy K mg) : FDx K (dM "BadName" "__init__" "BadName.__init__" 7 0) := T.s.def_ 5 (d := dM "BadName" "__init__" "BadName.__init__" 7 0) rfl
theorem F_BadLog___init__ (T : Sy K mg) : FDx K (dM "BadLog" "__init__" "BadLog.__init__" 8 0) := T.s.def_ 6 (d := dM "BadLog" "__init__" "BadLog.__init__" 8 0) rfl
theorem F_NoPlace___init__ (T : Sy K mg) : FDx K (dM "NoPlace" "__init__" "NoPlace.__init__" 10 0) := T.s.def_ 7 (d := dM "NoPlace" "__init__" "NoPlace.__init__" 10 0) rfl
theorem F_is_letter (T : Sy K mg) : FDx K (dG "is_letter" 14) := T.s.def_ 8 (d := dG "is_letter" 14) rfl
theorem F_is_kind (T : Sy K mg) : FDx K (dG "is_kind" 15) := T.s.def_ 9 (d := dG "is_kind" 15) rfl
theorem F_is_label (T : Sy K mg) : FDx K (dG "is_label" 16) := T.s.def_ 10 (d := dG "is_label" 16) rfl
theorem F_Fault___init__ (T : Sy K mg) : FDx K (dM "Fault" "__init__" "Fault.__init__" 18 0) := T.s.def_ 11 (d := dM "Fault" "__init__" "Fault.__init__" 18 0) rfl
theorem F_s7_is_number (T : Sy K mg) : FDx K (dG "s7_is_number" 22) := T.s.def_ 12 (d := dG "s7_is_number" 22) rfl
theorem F_s7_is_name (T : Sy K mg) : FDx K (dG "s7_is_name" 23) := T.s.def_ 13 (d := dG "s7_is_name" 23) rfl
theorem F_s7_is_plain (T : Sy K mg) : FDx K (dG "s7_is_plain" 24) := T.s.def_ 14 (d := dG "s7_is_plain" 24) rfl
theorem F_s7_is_shown (T : Sy K mg) : FDx K (dG "s7_is_shown" 25) := T.s.def_ 15 (d := dG "s7_is_shown" 25) rfl
theorem F_s7_is_word (T : Sy K mg) : FDx K (dG "s7_is_word" 26) := T.s.def_ 16 (d := dG "s7_is_word" 26) rfl
theorem F_is_event (T : Sy K mg) : FDx K (dG "is_event" 27) := T.s.def_ 17 (d := dG "is_event" 27) rfl
theorem F_check_log (T : Sy K mg) : FDx K (dG "check_log" 28) := T.s.def_ 18 (d := dG "check_log" 28) rfl
theorem F_Watcher___init__ (T : Sy K mg) : FDx K (dM "Watcher" "__init__" "Watcher.__init__" 29 0) := T.s.def_ 19 (d := dM "Watcher" "__init__" "Watcher.__init__" 29 0) rfl
theorem F_Watcher___call__ (T : Sy K mg) : FDx K (dM "Watcher" "__call__" "Watcher.__call__" 29 1) := T.s.def_ 20 (d := dM "Watcher" "__call__" "Watcher.__call__" 29 1) rfl
theorem F_spans (T : Sy K mg) : FDx K (dG "spans" 30) := T.s.def_ 21 (d := dG "spans" 30) rfl
theorem F_never_shut (T : Sy K mg) : FDx K (dG "never_shut" 31) := T.s.def_ 22 (d := dG "never_shut" 31) rfl
theorem F_most_open (T : Sy K mg) : FDx K (dG "most_open" 32) := T.s.def_ 23 (d := dG "most_open" 32) rfl
theorem F_crossings (T : Sy K mg) : FDx K (dG "crossings" 33) := T.s.def_ 24 (d := dG "crossings" 33) rfl
theorem F_flaws (T : Sy K mg) : FDx K (dG "flaws" 34) := T.s.def_ 25 (d := dG "flaws" 34) rfl
theorem F_notes_within (T : Sy K mg) : FDx K (dG "notes_within" 35) := T.s.def_ 26 (d := dG "notes_within" 35) rfl
theorem F_s7_need_fault (T : Sy K mg) : FDx K (dG "s7_need_fault" 36) := T.s.def_ 27 (d := dG "s7_need_fault" 36) rfl
theorem F_cycle_of (T : Sy K mg) : FDk K (dGk "cycle_of" 37 [] [("link", .str "context")]) := T.s.def_ 28 (d := dGk "cycle_of" 37 [] [("link", .str "context")]) rfl
theorem F_audit (T : Sy K mg) : FDx K (dG "audit" 38) := T.s.def_ 29 (d := dG "audit" 38) rfl
theorem F_law_mixed (T : Sy K mg) : FDx K (dG "_law_mixed" 40) := T.s.def_ 30 (d := dG "_law_mixed" 40) rfl
theorem F_law_draw (T : Sy K mg) : FDx K (dG "_law_draw" 41) := T.s.def_ 31 (d := dG "_law_draw" 41) rfl
theorem F_law_digit (T : Sy K mg) : FDx K (dG "_law_digit" 42) := T.s.def_ 32 (d := dG "_law_digit" 42) rfl
theorem F_law_is_number (T : Sy K mg) : FDx K (dG "_law_is_number" 43) := T.s.def_ 33 (d := dG "_law_is_number" 43) rfl
theorem F_law_is_text (T : Sy K mg) : FDx K (dG "_law_is_text" 44) := T.s.def_ 34 (d := dG "_law_is_text" 44) rfl
theorem F_law_is_plain (T : Sy K mg) : FDx K (dG "_law_is_plain" 45) := T.s.def_ 35 (d := dG "_law_is_plain" 45) rfl
theorem F_law_is_due (T : Sy K mg) : FDx K (dG "_law_is_due" 46) := T.s.def_ 36 (d := dG "_law_is_due" 46) rfl
theorem F_law_event (T : Sy K mg) : FDx K (dG "_law_event" 47) := T.s.def_ 37 (d := dG "_law_event" 47) rfl
theorem F_law_odd (T : Sy K mg) : FDx K (dG "_law_odd" 48) := T.s.def_ 38 (d := dG "_law_odd" 48) rfl
theorem F_law_bent (T : Sy K mg) : FDx K (dG "_law_bent" 49) := T.s.def_ 39 (d := dG "_law_bent" 49) rfl
theorem F_law_word (T : Sy K mg) : FDx K (dG "_law_word" 50) := T.s.def_ 40 (d := dG "_law_word" 50) rfl
theorem F_law_log_right (T : Sy K mg) : FDx K (dG "_law_log_right" 51) := T.s.def_ 41 (d := dG "_law_log_right" 51) rfl
theorem F_law_by_name (T : Sy K mg) : FDx K (dG "_law_by_name" 52) := T.s.def_ 42 (d := dG "_law_by_name" 52) rfl
theorem F_law (T : Sy K mg) : FDx K (dG "law" 53) := T.s.def_ 43 (d := dG "law" 53) rfl
end
end L75
namespace L75
open PySem PySem.Spec PyProof.Rows L2
variable {gd : Bool}

def isFree (x : Str) : He.Fa → Bool | .free y => decide (y = x) | _ => false
def isGlo (x : Str) : He.Fa → Bool | .glo y => decide (y = x) | _ => false
def isIntF (x : Str) (i : Int) : He.Fa → Bool | .int y j => decide (y = x) && decide (j = i) | _ => false
def isCls (x : Str) : He.Fa → Bool | .cls y => decide (y = x) | _ => false
def isMkr (x : Str) : He.Fa → Bool | .mkr y => decide (y = x) | _ => false
def isNoat (x f : Str) : He.Fa → Bool | .noat y g => decide (y = x) && decide (g = f) | _ => false
def isMeth (x f : Str) : He.Fa → Bool | .meth y g => decide (y = x) && decide (g = f) | _ => false
section
variable {P : Program} {w : World} {K : PySem.W.Frag} {mg : Str → Option Value} {base : Heap}
theorem Sy.fact (T : Sy K mg) {f : He.Fa} (h : f ∈ fa) : f.ok K = true := by
  obtain ⟨i, hi⟩ := List.getElem?_of_mem h
  exact T.s.fact i hi
theorem Sy.free (T : Sy K mg) (x : Str) (h : fa.any (isFree x) = true := by decide +kernel) : mg x = none := by
  obtain ⟨f, hf, e⟩ := List.any_eq_true.mp h
  obtain ⟨_, X, G⟩ := T.x
  cases f <;> first | (have e2 := of_decide_eq_true e; subst e2; exact He.free_ok X G (T.fact hf)) | exact Bool.noConfusion e
theorem Sy.glo (T : Sy K mg) (x : Str) (h : fa.any (isGlo x) = true := by decide +kernel) : mg x = some (.ref (He.ga K x)) := by
  obtain ⟨f, hf, e⟩ := List.any_eq_true.mp h
  obtain ⟨_, X, G⟩ := T.x
  cases f <;> first | (have e2 := of_decide_eq_true e; subst e2; exact He.glo_ok X G (T.fact hf)) | exact Bool.noConfusion e
theorem Sy.int (T : Sy K mg) (x : Str) (j : Int) (h : fa.any (isIntF x j) = true := by decide +kernel) : ∃ t, mg x = some (.int j t) := by
  obtain ⟨f, hf, e⟩ := List.any_eq_true.mp h
  obtain ⟨_, X, G⟩ := T.x
  cases f <;> first | (have e2 := Bool.and_eq_true_iff.mp e; have e3 := of_decide_eq_true e2.1; have e4 := of_decide_eq_true e2.2; subst e3 e4; exact He.int_ok X G (T.fact hf)) | exact Bool.noConfusion e
theorem Sy.cls (T : Sy K mg) (x : Str) (h : fa.any (isCls x) = true := by decide +kernel) : Cls K (He.ga K x) := by
  obtain ⟨f, hf, e⟩ := List.any_eq_true.mp h
  cases f <;> first | (have e2 := of_decide_eq_true e; subst e2; exact He.cls_ok (T.fact hf)) | exact Bool.noConfusion e
theorem Sy.mkr (T : Sy K mg) (x : Str) (h : fa.any (isMkr x) = true := by decide +kernel) : Mk K (He.ga K x) (He.ma K (He.ga K x) "__init__") := by
  obtain ⟨f, hf, e⟩ := List.any_eq_true.mp h
  cases f <;> first | (have e2 := of_decide_eq_true e; subst e2; exact He.mkr_ok (T.fact hf)) | exact Bool.noConfusion e
theorem Sy.noat (T : Sy K mg) (x f : Str) (h : fa.any (isNoat x f) = true := by decide +kernel) : NoAttr K (He.ga K x) f := by
  obtain ⟨g, hf, e⟩ := List.any_eq_true.mp h
  cases g <;> first | (have e2 := Bool.and_eq_true_iff.mp e; have e3 := of_decide_eq_true e2.1; have e4 := of_decide_eq_true e2.2; subst e3 e4; exact He.noat_ok (T.fact hf)) | exact Bool.noConfusion e
theorem Sy.meth (T : Sy K mg) (x f : Str) (h : fa.any (isMeth x f) = true := by decide +kernel) : Meth K (He.ga K x) f (He.ma K (He.ga K x) f) := by
  obtain ⟨g, hf, e⟩ := List.any_eq_true.mp h
  cases g <;> first | (have e2 := Bool.and_eq_true_iff.mp e; have e3 := of_decide_eq_true e2.1; have e4 := of_decide_eq_true e2.2; subst e3 e4; exact He.meth_ok (T.fact hf)) | exact Bool.noConfusion e
end

/-! the readings, step by step -/
section
variable {K : PySem.W.Frag} {σ : L2.St} {H : Hp} {Q : VK} {D : Ends} {ta tb tc te : TE} {tt uu : TT} {ts us : TS} {tl : TA} {i : Nat} {v x y : V} {g : TG}
theorem tVar_i (h : σ[i]? = some (some v)) (q : Q v H) : tVar i σ H Q := ⟨v, h, q⟩
theorem tC_i (q : Q v H) : tC v σ H Q := q
theorem tOp_i {r : R2} (q : ta σ H fun x H1 => tb σ H1 fun y H2 => r x y H2 Q) : tOp r ta tb σ H Q := q
theorem tUn_i {r : V → Hp → VK → Prop} (q : ta σ H fun x H1 => r x H1 Q) : tUn r ta σ H Q := q
theorem tNil_i {Q : List V → Hp → Prop} (q : Q [] H) : tNil σ H Q := q
theorem tCons_i {Q : List V → Hp → Prop} (q : ta σ H fun x H1 => tl σ H1 fun xs H2 => Q (x :: xs) H2) : tCons ta tl σ H Q := q
theorem tSeq_i (q : ts { D with nx := us D } σ H) : tSeq ts us D σ H := q
theorem tAsg_i (q : te σ H fun x H1 => g x σ H1 D.nx) : tAsg te g D σ H := q
theorem gName_i {Q : L2.St → Hp → Prop} (q : Q (σ.set i (some v)) H) : gName i v σ H Q := q
theorem tRet_i (q : te σ H D.rt) : tRet te D σ H := q
theorem tRetN_i (q : D.rt .non H) : tRetN D σ H := q
theorem tDrop_i (q : te σ H fun _ H1 => D.nx σ H1) : tDrop te D σ H := q
theorem tNext_i (q : D.nx σ H) : tNext D σ H := q
theorem tBreak_i (q : D.bk σ H) : tBreak D σ H := q
theorem tCont_i (q : D.ct σ H) : tCont D σ H := q
theorem tIfS_i (q : tt σ H fun b H1 => if b = true then ts D σ H1 else us D σ H1) : tIfS tt ts us D σ H := q
theorem tIf_i (q : tt σ H fun b H1 => if b = true then ta σ H1 Q else tb σ H1 Q) : tIf tt ta tb σ H Q := q
theorem tTest_i {Q : Bool → Hp → Prop} (q : te σ H fun x H' => ∃ k, x = .bl k ∧ Q k H') : tTest te σ H Q := q
theorem tB_i {Q : Bool → Hp → Prop} (q : te σ H fun x H' => ∃ k, x = .bl k ∧ Q k H') : tB te σ H Q := q
theorem exBl_i {Q : Bool → Prop} {b : Bool} (q : Q b) : ∃ k, V.bl b = .bl k ∧ Q k := ⟨b, rfl, q⟩
theorem tAnd_i {Q : Bool → Hp → Prop} (q : tt σ H fun c H1 => if c = true then uu σ H1 Q else Q false H1) : tAnd tt uu σ H Q := q
theorem tOr_i {Q : Bool → Hp → Prop} (q : tt σ H fun c H1 => if c = true then Q true H1 else uu σ H1 Q) : tOr tt uu σ H Q := q
theorem tNot_i {Q : Bool → Hp → Prop} (q : tt σ H fun c H1 => Q (!c) H1) : tNot tt σ H Q := q
theorem tAndV_i (q : ta σ H fun x H1 => ∃ c, x = .bl c ∧ if c = true then tb σ H1 Q else Q (.bl false) H1) : tAndV ta tb σ H Q := q
theorem tOrV_i (q : ta σ H fun x H1 => ∃ c, x = .bl c ∧ if c = true then Q (.bl true) H1 else tb σ H1 Q) : tOrV ta tb σ H Q := q
theorem tNotV_i (q : ta σ H fun x H1 => ∃ c, x = .bl c ∧ Q (.bl (!c)) H1) : tNotV ta σ H Q := q
theorem rI0_i {f : Int → Int → V} {i j : Int} (q : Q (f i j) H) : rI0 f (.int i) (.int j) H Q := ⟨i, j, rfl, rfl, q⟩
theorem rI_i {C : Int → Int → Prop} {f : Int → Int → V} {i j : Int} (c : C i j) (q : Q (f i j) H) : rI C f (.int i) (.int j) H Q := ⟨i, j, rfl, rfl, c, q⟩
theorem rU_i {f : Int → V} {i : Int} (q : Q (f i) H) : rU f (.int i) H Q := ⟨i, rfl, q⟩
theorem rEq_i (h : scal x y = true) (q : Q (.bl (decide (x = y))) H) : rEq x y H Q := ⟨h, q⟩
theorem rNe_i (h : scal x y = true) (q : Q (.bl (!decide (x = y))) H) : rNe x y H Q := ⟨h, q⟩
theorem tLst_i (q : tl σ H fun xs H1 => xs.length ≤ sizeLine ∧ ∀ p, H1 p = none → Q (.ref p) (upd H1 p (.lst xs))) : tLst tl σ H Q := q
theorem tTup_i (q : tl σ H fun xs H1 => xs.length ≤ sizeLine ∧ ∀ p, H1 p = none → Q (.ref p) (upd H1 p (.tup xs))) : tTup tl σ H Q := q
theorem tCB_i {r : List V → Hp → VK → Prop} (q : tl σ H fun vs H1 => r vs H1 Q) : tCB r tl σ H Q := q
theorem tCall_i {sp : Sp} {dvs : List V} {E : XK} (q : tl σ H fun vs H1 => sp (vs ++ dvs) H1 Q E) : tCall sp dvs E tl σ H Q := q
theorem tDGet_i {td ty : TE} (q : td σ H fun x H1 => ty σ H1 fun y H2 => ∃ a v, x = .ref a ∧ DGet H2 a y (some v) ∧ Q v H2) : tDGet td ty σ H Q := q
theorem dget_i {a : Addr} {kvs : List (Key × V)} {k : Key} (h : H a = some (.dK kvs)) (e : valV kvs k = some v) (hy : y = kV k) (q : Q v H) : ∃ a' v', V.ref a = .ref a' ∧ DGet H a' y (some v') ∧ Q v' H :=
  ⟨a, v, rfl, by rw [hy, ← e]; exact DGet.k h, q⟩
theorem sDPut_i {td ty tv : TE} (q : tv σ H fun v H1 => td σ H1 fun x H2 => ty σ H2 fun y H3 => ∃ a H4, x = .ref a ∧ DPut H3 a y v H4 ∧ D.nx σ H4) : sDPut td ty tv D σ H := q
theorem dput_i {N : L2.St → Hp → Prop} {a : Addr} {kvs : List (Key × V)} {k : Key} (h : H a = some (.dK kvs)) (hy : y = kV k) (hl : kvs.length < sizeLine) (q : N σ (upd H a (.dK (putK kvs k v)))) : ∃ a' H4, V.ref a = .ref a' ∧ DPut H a' y v H4 ∧ N σ H4 :=
  ⟨a, _, rfl, by rw [hy]; exact DPut.k h hl, q⟩
theorem tFld_i {f : Str} (q : ta σ H fun x H1 => ∃ a C dx fs v, x = .ref a ∧ H1 a = some (.ins C dx fs) ∧ Cls K C ∧ NoAttr K C f ∧ fs.lookup f = some v ∧ Q v H1) : tFld K ta f σ H Q := q
theorem fld_i {f : Str} {a C dx : Addr} {fs : List (Str × V)} (h : H a = some (.ins C dx fs)) (c : Cls K C) (n : NoAttr K C f) (e : fs.lookup f = some v) (q : Q v H) :
    ∃ a' C dx fs v, V.ref a = .ref a' ∧ H a' = some (.ins C dx fs) ∧ Cls K C ∧ NoAttr K C f ∧ fs.lookup f = some v ∧ Q v H := ⟨a, C, dx, fs, v, rfl, h, c, n, e, q⟩
theorem rIxL_i {p : Addr} {xs : List V} {i : Int} (h : H p = some (.lst xs)) (e : atI xs i = some v) (q : Q v H) : rIxL K (.ref p) (.int i) H Q := ⟨p, xs, i, v, rfl, rfl, SqL.of h, e, q⟩
theorem rIxT_i {p : Addr} {xs : List V} {i : Int} (h : H p = some (.tup xs)) (e : atI xs i = some v) (q : Q v H) : rIxT K (.ref p) (.int i) H Q := ⟨p, xs, i, v, rfl, rfl, SqT.of h, e, q⟩
theorem sz4 {n : Nat} (h : n ≤ 1000 := by decide) : n ≤ sizeLine := Nat.le_trans h (by decide)
end

end L75
namespace L75
open PySem PySem.Spec PyProof.Rows L2
variable {gd : Bool}
local macro_rules | `(tactic| walk_at "y1") => `(tactic| with_reducible first
  | refine tSeq_i ?_ | refine tAsg_i ?_ | refine tCons_i ?_ | refine tNil_i ?_ | refine tC_i ?_ | refine tOp_i ?_ | refine tIfS_i ?_ | refine tTest_i ?_ | refine exBl_i ?_ | refine tRet_i ?_ | refine tCall_i ?_
  | refine tCB_i ?_ | refine tLst_i ?_ | refine tTup_i ?_ | refine rI0_i ?_ | refine tDrop_i ?_ | refine tNext_i ?_ | refine tB_i ?_ | refine tAnd_i ?_ | refine tOr_i ?_ | refine tNot_i ?_ | refine tAndV_i ?_ | refine tOrV_i ?_ | refine tNotV_i ?_
  | refine tIf_i ?_ | refine tUn_i ?_ | refine tDGet_i ?_ | refine sDPut_i ?_ | refine tFld_i ?_ | refine tRetN_i ?_ | refine tBreak_i ?_ | refine tCont_i ?_ | refine rU_i ?_)
local macro_rules | `(tactic| walk_at "yhead") => `(tactic| dsimp only [L2.start, List.map, List.length_cons, List.length_nil, Nat.reduceAdd, Nat.reduceSub, List.replicate, List.cons_append, List.nil_append])
local macro_rules | `(tactic| walk_at "y2") => `(tactic| first
  | walk_at "y1"
  | ((with_reducible refine tVar_i (v := ?v) ?h ?q); (case h => rfl))
  | ((with_reducible refine gName_i ?_); (dsimp only [List.set]))
  | ((with_reducible refine rEq_i ?h ?q); (case h => rfl)) | ((with_reducible refine rNe_i ?h ?q); (case h => rfl)))
local macro_rules | `(tactic| walk_at "y") => `(tactic| repeat walk_at "y2")

/-! calls, with the guards of repr told -/
structure RG (gd : Bool) (n : Nat) (A : Around) : Prop where
  r : Room n A
  g : gd = true → A.guards = some []
theorem RG.mono {i n : Nat} {A : Around} (z : RG gd n A) (h : i ≤ n) : RG gd i A := ⟨z.r.mono h, z.g⟩
theorem RG.dpr {n : Nat} {A : Around} (z : RG gd (n + 1) A) (en : Env) : RG gd n (A.deeper en) := ⟨z.r.deeper en, z.g⟩
theorem RG.one {n : Nat} {A : Around} (z : RG gd (n + 1) A) : RG gd n A.in1 := ⟨z.r.in1, z.g⟩
theorem RG.mk1 {n : Nat} {A : Around} (z : RG gd (n + 1) A) (C : Addr) (us : List Value) (kw : List (Str × Value)) : RG gd n (A.under (.builtin "type.__call__" ⟨.ref C :: us, kw⟩)) :=
  ⟨z.r.make C us kw, by
    have e : (A.under (.builtin "type.__call__" ⟨.ref C :: us, kw⟩)).guards = A.guards := by
      first | rfl | simp [Around.under, Code.guards, Code.isGuard, guardIds, pushGuards]
    rw [e]; exact z.g⟩
/-- a def keeps its promise wherever nothing is being shown -/
structure FnG (gd : Bool) (P : Program) (w : World) (K : PySem.W.Frag) (mg : Str → Option Value) (base : Heap) (CX : CXT) (n : Nat) (f : Addr) (fd : FuncData) (ps : List Str) (sp : Sp) : Prop where
  len : ∀ vs H Q E, sp vs H Q E → vs.length = ps.length
  run : ∀ (A : Around) (out : List Env) (st : Shared) (H : Hp) (ag : Args) (us : List Value) (vs : List V) (Q : VK) (E : XK), RG gd n A → Env0 P w K mg base A out st H → BindsTo st fd ag (ps.zip us) → Vals vs us → sp vs H Q E →
    codeAny (model P w) A (.call (.ref f) ag) (CR CX out P w H st Q E) st
theorem FnG.mono {P : Program} {w : World} {K : PySem.W.Frag} {mg : Str → Option Value} {base : Heap} {CX : CXT} {i n : Nat} {f : Addr} {fd : FuncData} {ps : List Str} {sp : Sp} (F : FnG gd P w K mg base CX i f fd ps sp) (h : i ≤ n) :
    FnG gd P w K mg base CX n f fd ps sp := ⟨F.len, fun A out st H ag us vs Q E z => F.run A out st H ag us vs Q E (z.mono h)⟩
theorem FnG.of {P : Program} {w : World} {K : PySem.W.Frag} {mg : Str → Option Value} {base : Heap} {CX : CXT} {n : Nat} {f : Addr} {fd : FuncData} {ps : List Str} {sp : Sp} (F : FnOk P w K mg base CX n f fd ps sp) :
    FnG gd P w K mg base CX n f fd ps sp := ⟨F.len, fun A out st H ag us vs Q E z => F.run A out st H ag us vs Q E z.r⟩
theorem FnG.imp {P : Program} {w : World} {K : PySem.W.Frag} {mg : Str → Option Value} {base : Heap} {CX : CXT} {n : Nat} {f : Addr} {fd : FuncData} {ps : List Str} {sp sq : Sp} (F : FnG gd P w K mg base CX n f fd ps sp)
    (h : ∀ vs H Q E, sq vs H Q E → sp vs H Q E) : FnG gd P w K mg base CX n f fd ps sq :=
  ⟨fun vs H Q E q => F.len vs H Q E (h _ _ _ _ q), fun A out st H ag us vs Q E z he hb hv q => F.run A out st H ag us vs Q E z he hb hv (h _ _ _ _ q)⟩
/-- by the body -/
theorem FnG.body {P : Program} {w : World} {K : PySem.W.Frag} {mg : Str → Option Value} {base : Heap} {x qual : Str} {params : Arguments} {body : List Stmt} {scope : Scope} {dvs : List V} {kws : List (Str × V)} {f : Addr} {fd : FuncData}
    {CX : CXT} {N ps : List Str} {n : Nat} {sp : Sp} (F : FunD K x qual params body scope dvs kws f fd) (S : FnScope N ps scope) (len : ∀ vs H Q E, sp vs H Q E → vs.length = ps.length)
    (hb : ∀ (cdv : Value) (A : Around) (out : List Env) (st : Shared) (H : Hp) (vs : List V) (Q : VK) (E : XK), RG gd n (A.deeper (envOfC qual scope st.heap.objs.size f cdv)) → sp vs H Q E →
      ∃ t, PSs (cxOf CX P w K mg base N qual scope f cdv A out st H E) body t ∧ t { nx := fun _ H' => Q .non H', rt := Q } (start N vs) H) : FnG gd P w K mg base CX (n + 1) f fd ps sp := by
  obtain ⟨oc, od, dV, kV, doc, pm, an, cdv, ct, osl, rfl, lk, hcd, _, _⟩ := F.ex
  refine ⟨len, fun A out st H ag us vs Q E z e0 bd rv q0 => ?_⟩
  have nl := len _ _ _ _ q0
  have KX : K.In st.heap := e0.mod.kin.keeps fun b o e => (e0.bs b o e).1
  have lim : st.heap.NoLimit := e0.mod.nolimit.keeps fun b o e => (e0.bs b o e).1
  have kd : ∀ y ∈ ps.zip us, scope.names.lookup y.1 = some .local ∨ (scope.names.lookup y.1 = some .cell ∧ ((cellsFrom (st.heap.objs.size + 1) scope.names []).lookup y.1).isSome = true) := fun ⟨a, v⟩ hy =>
    (S.par a (List.of_mem_zip hy).1).elim .inl fun q => .inr ⟨q, PySem.W.cellsFrom_some _ _ _ (.inl q)⟩
  refine codeAny_call_function z.r.depth (KX _ _ lk) rfl S.co S.gen rfl (PySem.W.codeRec_of KX hcd) (bd _ _ _ _ ?_)
  refine wpAny_newFunctionEnv_cells S.kind kd fun en he st1 ic => ?_
  subst he
  refine ⟨lim.keeps ic.toInCall.keep, codeAny_func ?_⟩
  obtain ⟨t, ht, hq⟩ := hb cdv A out st H vs Q E (z.dpr _) q0
  have I := inv_start (CX := CX) (E := E) S z.r.hd e0 nl rv ic
  refine wpAny_mono (ht.run [] st1 (start N vs) H _ I hq) (fun fl sz hs => ?_) fun _ _ hs => hs
  cases fl with
  | ret u =>
    obtain ⟨v, σ', H', J, r2, q⟩ := hs
    exact ⟨v, H', J.os, J.bare, J.base, J.hok, r2, q⟩
  | next =>
    obtain ⟨σ', H', J, q⟩ := hs
    exact ⟨V.non, H', J.os, J.bare, J.base, J.hok, rfl, q⟩
  | brk => exact (let ⟨_, _, _, q⟩ := hs; False.elim q)
  | cont => exact (let ⟨_, _, _, q⟩ := hs; False.elim q)
section
variable {X : Cx} {CX : CXT} {n : Nat} {f C : Addr} {fd : FuncData} {ps : List Str} {sp : Sp} {dvs : List V} {ds : List Value} {E : XK} {x m : Str} {p pos apos : Pos} {e o : Expr} {es : List Expr} {ta : TE} {t : TA}
theorem runG {pins : List (Addr × Obj)} {σ : L2.St} {H : Hp} {st : Shared} {Q : VK} {us : List Value} {vs : List V} (F : FnG gd X.prog X.w X.K X.mg X.base CX n f fd ps sp) (z : RG gd n X.A) (bd : Binds X.K fd ps ds) (dv : Vals dvs ds) (hx : Passes CX X E)
    (I : Inv X pins σ H st) (rv : Vals vs us) (q : sp (vs ++ dvs) H Q E) : wpAny (model X.prog X.w) X.A (call (.ref f) us) (EP X pins σ Q) X.xe st := by
  have r2 : Vals (vs ++ dvs) (us ++ ds) := rv.append dv
  refine wpAny_call (codeAny_mono (F.run X.A X.stack st H ⟨us, []⟩ (us ++ ds) (vs ++ dvs) Q E z I.env0 (bd st us I.kIn (by rw [← r2.length]; exact F.len _ _ _ _ q)) r2 q) fun r sz hq => ?_)
  cases r with
  | error er => exact hx pins σ H st er sz I hq
  | ok fl => cases fl <;> first | exact I.after hq | exact False.elim hq
theorem pe_callG (F : FnG gd X.prog X.w X.K X.mg X.base CX n f fd ps sp) (z : RG gd n X.A) (hg : Gl X x) (hm : X.mg x = some (.ref f)) (hk : PySem.W.keepIn X.K (.ref f) = true) (bd : Binds X.K fd ps ds) (dv : Vals dvs ds) (hx : Passes CX X E)
    (ha : PA X (e :: es) t) (hdb : (x == ("__debug__" : Str)) = false := by decide) (he : starEach (e :: es) X.env = (false, eval e X.env) :: starEach es X.env := by rfl) (hpl : (backTo pos (starEach es X.env)).any (·.1) = false := by rfl) :
    PE X (.Call (.Name x p) (e :: es) [] pos) (tCall sp dvs E t) :=
  ⟨fun pins st σ H Q I h => wpAny_Call_Name_kw (ld_glob I hg hm (PySem.W.callWith_K (h₀ := X.base) I.ok.mod.kin hk (thn (ha.run pos pins st σ H _ I h) fun us s1 ⟨vs, H1, I1, rv, q⟩ => ⟨I1.kIn, runG F z bd dv hx I1 rv q⟩) he hpl) hdb)⟩
theorem pe_callG0 (F : FnG gd X.prog X.w X.K X.mg X.base CX n f fd ps sp) (z : RG gd n X.A) (hg : Gl X x) (hm : X.mg x = some (.ref f)) (hk : PySem.W.keepIn X.K (.ref f) = true) (bd : Binds X.K fd ps ds) (dv : Vals dvs ds) (hx : Passes CX X E)
    (hdb : (x == ("__debug__" : Str)) = false := by decide) : PE X (.Call (.Name x p) [] [] pos) (tCall sp dvs E tNil) :=
  ⟨fun pins st σ H Q I h => wpAny_Call_Name_kw (ld_glob I hg hm (PySem.W.callWith_K0 I.kIn hk (runG (us := []) F z bd dv hx I .nil h)) hdb)⟩
theorem pe_methG {pl : Sem Bool} (he : PE X o ta) (c : Cls X.K C) (hm : Meth X.K C m f) (F : FnG gd X.prog X.w X.K X.mg X.base CX n f fd ps sp) (z : RG gd n X.A) (bd : Binds X.K fd ps ds) (dv : Vals dvs ds) (hx : Passes CX X E) (ha : PA X (e :: es) t)
    (hst : starEach (e :: es) X.env = (false, eval e X.env) :: starEach es X.env := by rfl) (hpl : (backTo pos (starEach es X.env)).any (·.1) = false := by rfl)
    (ht : eval (.Call (.Attribute o m apos) (e :: es) [] pos) X.env = (eval o X.env >>= fun ov => standAt apos.atName >>= fun _ => holding [ov] (getMethod ov m pl) >>= fun fr => callWith pos fr.1 fr.2 (backTo pos (starEach (e :: es) X.env)) (backToKw pos (keywordEach [] X.env))) := by rfl) :
    PE X (.Call (.Attribute o m apos) (e :: es) [] pos) (tMeth C m sp dvs E ta t) := by
  refine ⟨fun pins st σ H Q I h => PySem.W.methodCall_KW (pl := pl) (thn (he.run pins st σ H _ I h) fun u s1 ⟨x, H1, I1, rx, a, dx, fs, ex, ea, l, q⟩ => ?_) ht⟩
  subst ex
  obtain rfl : u = Value.ref a := rx
  exact getmeth_ok I1 ea c hm l (PySem.W.callWith_K (first := [.ref a]) (h₀ := X.base) I.ok.mod.kin hm.kp (thn (ha.run pos pins s1 σ H1 _ I1 q) fun us s2 ⟨vs, H2, I2, rv, q2⟩ => ⟨I2.kIn, runG (us := .ref a :: us) (vs := .ref a :: vs) F z bd dv hx I2 (.cons rfl rv) q2⟩) hst hpl)
theorem pe_methG0 {pl : Sem Bool} (he : PE X o ta) (c : Cls X.K C) (hm : Meth X.K C m f) (F : FnG gd X.prog X.w X.K X.mg X.base CX n f fd ps sp) (z : RG gd n X.A) (bd : Binds X.K fd ps ds) (dv : Vals dvs ds) (hx : Passes CX X E)
    (ht : eval (.Call (.Attribute o m apos) [] [] pos) X.env = (eval o X.env >>= fun ov => standAt apos.atName >>= fun _ => holding [ov] (getMethod ov m pl) >>= fun fr => callWith pos fr.1 fr.2 (backTo pos (starEach [] X.env)) (backToKw pos (keywordEach [] X.env))) := by rfl) :
    PE X (.Call (.Attribute o m apos) [] [] pos) (tMeth C m sp dvs E ta tNil) := by
  refine ⟨fun pins st σ H Q I h => PySem.W.methodCall_KW (pl := pl) (thn (he.run pins st σ H _ I h) fun u s1 ⟨x, H1, I1, rx, a, dx, fs, ex, ea, l, q⟩ => ?_) ht⟩
  subst ex
  obtain rfl : u = Value.ref a := rx
  exact getmeth_ok I1 ea c hm l (PySem.W.callWith_K0 (first := [.ref a]) I1.kIn hm.kp (runG (us := [.ref a]) (vs := [.ref a]) F z bd dv hx I1 (.cons rfl .nil) q))
theorem runMakeG {pins : List (Addr × Obj)} {σ : L2.St} {H : Hp} {st : Shared} {Q : VK} {us : List Value} {vs : List V} (M : Mk X.K C f) (F : FnG gd X.prog X.w X.K X.mg X.base CX n f fd ps sp) (z : RG gd (n + 1) X.A) (bd : Binds X.K fd ps ds) (dv : Vals dvs ds)
    (hx : Passes CX X E) (I : Inv X pins σ H st) (rv : Vals vs us)
    (h : ∀ x dx, H x = none → H dx = none → dx ≠ x → sp (.ref x :: (vs ++ dvs)) (upd (upd H dx (.own x)) x (.ins C dx [])) (fun v H2 => v = .non ∧ Q (.ref x) H2) E) :
    wpAny (model X.prog X.w) X.A (call (.ref C) us) (EP X pins σ Q) X.xe st := by
  have q0 := h (st.heap.objs.size + 1) st.heap.objs.size (I.hok.fresh (Nat.le_succ _)) (I.hok.fresh (Nat.le_refl _)) (Nat.ne_of_lt (Nat.lt_succ_self _))
  have J := Inv.made (C := C) I
  have r2 : Vals (V.ref (st.heap.objs.size + 1) :: (vs ++ dvs)) (Value.ref (st.heap.objs.size + 1) :: (us ++ ds)) := .cons rfl (rv.append dv)
  have nl : (Value.ref (st.heap.objs.size + 1) :: us ++ ds).length = ps.length := (r2.length.symm.trans (F.len _ _ _ _ q0) : _)
  refine wpAny_call (make_map (f := f) I.kIn M.makes M.init (beq_iff_eq.mp M.fn) (codeAny_mono (F.run _ X.stack _ _ ⟨Value.ref (st.heap.objs.size + 1) :: us, []⟩ (Value.ref (st.heap.objs.size + 1) :: (us ++ ds)) _ _ E (z.mk1 C us [])
    (J.env0.make C us []) (bd _ (Value.ref (st.heap.objs.size + 1) :: us) J.kIn nl) r2 q0) fun r sz hq => ?_))
  cases r with
  | error er => exact hx pins σ _ _ er sz J hq
  | ok fl =>
    cases fl with
    | ret u =>
      obtain ⟨v, H', I3, r3, ev, q3⟩ := J.after hq
      subst ev
      exact ⟨r3, ⟨V.ref (st.heap.objs.size + 1), H', I3, rfl, q3⟩⟩
    | next => exact False.elim hq
    | brk => exact False.elim hq
    | cont => exact False.elim hq
theorem pe_makeG (M : Mk X.K C f) (F : FnG gd X.prog X.w X.K X.mg X.base CX n f fd ps sp) (z : RG gd (n + 1) X.A) (hg : Gl X x) (hm : X.mg x = some (.ref C)) (bd : Binds X.K fd ps ds) (dv : Vals dvs ds) (hx : Passes CX X E)
    (ha : PA X (e :: es) t) (hdb : (x == ("__debug__" : Str)) = false := by decide) (he : starEach (e :: es) X.env = (false, eval e X.env) :: starEach es X.env := by rfl) (hpl : (backTo pos (starEach es X.env)).any (·.1) = false := by rfl) :
    PE X (.Call (.Name x p) (e :: es) [] pos) (tMake C sp dvs E t) :=
  ⟨fun pins st σ H Q I h => wpAny_Call_Name_kw (ld_glob I hg hm (PySem.W.callWith_K (h₀ := X.base) I.ok.mod.kin M.kp (thn (ha.run pos pins st σ H _ I h) fun us s1 ⟨vs, H1, I1, rv, q⟩ => ⟨I1.kIn, runMakeG M F z bd dv hx I1 rv q⟩) he hpl) hdb)⟩
theorem pe_makeG0 (M : Mk X.K C f) (F : FnG gd X.prog X.w X.K X.mg X.base CX n f fd ps sp) (z : RG gd (n + 1) X.A) (hg : Gl X x) (hm : X.mg x = some (.ref C)) (bd : Binds X.K fd ps ds) (dv : Vals dvs ds) (hx : Passes CX X E)
    (hdb : (x == ("__debug__" : Str)) = false := by decide) : PE X (.Call (.Name x p) [] [] pos) (tMake C sp dvs E tNil) :=
  ⟨fun pins st σ H Q I h => wpAny_Call_Name_kw (ld_glob I hg hm (PySem.W.callWith_K0 I.kIn M.kp (runMakeG (us := []) M F z bd dv hx I .nil h)) hdb)⟩
end

/-! the end of a law over FnG -/
theorem lawG {P : Program} {w : World} {K : PySem.W.Frag} {mg mb : Str → Option Value} {CX : CXT} {n : Nat} {fa a : Addr} {fd : FuncData} {x : Str} {sp : Sp} {st : Shared} {us : List Value} {ns : List Int}
    (KX : K.In st.heap) (G1 : st.heap.Ns mainGlobals mg) (G2 : st.heap.Ns builtinsNs mb) (G3 : ∀ y : Str, y ≠ "__name__" → mb y = bootBuiltins y) (G4 : st.heap.NoLimit) (G5 : st.gens = #[])
    (ha : st.heap.get? a = some { cls := .type "list", data := .seq us.toArray }) (hi : IntsAre us ns) (hl : ns.length ≤ sizeLine) (z : RG true n callerA)
    (F : ∀ base : Heap, K.In base → base.Ns mainGlobals mg → FnG true P w K mg base CX n fa fd [x] sp) (bd : ∀ (s : Shared) (u : Value), BindsTo s fd ⟨[u], []⟩ [(x, u)])
    (hsp : ∀ H : Hp, Only H → SqL K H a (ns.map V.int) → sp [.ref a] H (fun v _ => v = .bl true) fun _ _ _ => False)
    (hCX : ∀ H e sz, CX [] H st (fun _ _ _ => False) e sz → False) :
    codeAny (model P w) callerA (.call (.ref fa) ⟨[.ref a], []⟩) (fun r sz => r = .ok (.ret (.bool true)) ∧ OldK st.heap sz.heap ∧ sz.os = st.os ∧ AllBare sz.gens) st := by
  have rv := vals_ints hi
  have ln := hi.length
  have core : ∀ H : Hp, Only H → SqL K H a (ns.map V.int) → HOk P w H st.heap → (∀ b, H b ≠ none → b = a ∧ K.lookup a = none) →
      codeAny (model P w) callerA (.call (.ref fa) ⟨[.ref a], []⟩) (fun r sz => r = .ok (.ret (.bool true)) ∧ OldK st.heap sz.heap ∧ sz.os = st.os ∧ AllBare sz.gens) st := by
    intro H hO hS ok hA
    have fr0 : ∀ {b : Addr} {o : Obj}, st.heap.get? b = some o → H b = none → (hidT st.heap H).get? b = some o := fun e k => hidT_get e k
    have out : ∀ {b : Addr} {o : Obj}, st.heap.get? b = some o → o.data ≠ .seq us.toArray 0 ∨ (∃ q, K.lookup b = some q) → H b = none := by
      intro b o e d
      cases q : H b with
      | none => rfl
      | some u =>
        obtain ⟨eb, ek⟩ := hA b (by rw [q]; exact fun y => nomatch y)
        subst eb
        rcases d with d | ⟨y, d⟩
        · rw [ha] at e; cases e; exact absurd rfl d
        · rw [ek] at d; cases d
    have ns0 : ∀ {b : Addr} {m : Str → Option Value}, st.heap.Ns b m → (hidT st.heap H).Ns b m := fun ⟨o, es, ep, e, d, r⟩ => ⟨o, es, ep, fr0 e (out e (.inl (by rw [d]; exact fun y => nomatch y))), d, r⟩
    have KB : K.In (hidT st.heap H) := fun b o e => fr0 (KX b o e) (out (KX b o e) (.inr ⟨o, e⟩))
    have MD : Mod K mg (hidT st.heap H) := ⟨KB, ns0 G1, ⟨mb, ns0 G2, G3⟩, let ⟨mc, q1, q2⟩ := G4; ⟨mc, ns0 q1, q2⟩⟩
    have e0 : Env0 P w K mg (hidT st.heap H) callerA [] st H := ⟨rfl, MD, fun b o e => of_hidT e, Nat.le_of_eq (hidT_size _ _), trivial, fun b hb => absurd (show b ∈ ([] : List Addr) from hb) List.not_mem_nil, ok, .of_eq G5⟩
    refine codeAny_mono ((F _ KB (ns0 G1)).run callerA [] st H ⟨[.ref a], []⟩ [.ref a] [.ref a] _ _ z e0 (bd st (.ref a)) (.cons rfl .nil) (hsp H hO hS)) fun r sz h => ?_
    cases r with
    | error e => exact (hCX H e sz h).elim
    | ok fl =>
      cases fl with
      | next => exact False.elim h
      | brk => exact False.elim h
      | cont => exact False.elim h
      | ret u =>
        obtain ⟨v, H', os, bare, un, ok', r2, q⟩ := h
        have qv : v = .bl true := q
        subst qv
        obtain rfl : u = Value.bool true := r2
        refine ⟨rfl, OldK.of_keep fun b o e => ?_, os, bare⟩
        rcases hO b with k | ⟨ob, xs, k⟩
        · exact un.keep b o e k (fun y => nomatch (show b ∈ ([] : List Addr) from y)) (fun y => nomatch y)
        · obtain ⟨e1, _⟩ := ok b _ k
          obtain ⟨e2, _⟩ := ok' b _ (un.frzs b ob _ k)
          rw [e] at e1; cases e1
          exact e2
  cases hk : K.lookup a with
  | some o =>
    have e := KX a o hk
    rw [ha] at e
    cases e
    exact core (fun _ => none) (fun _ => .inl rfl) (.inr ⟨_, us.toArray, _, hk, rfl, rfl, rfl, by rw [List.size_toArray, ln]; exact hl, by simpa using rv⟩) (fun b u y => nomatch (show (none : Option HO) = some u from y)) fun b y => absurd rfl y
  | none =>
    have hf : ∀ b, b ≠ a → (fun b => if b = a then some (HO.frz { cls := .type "list", data := .seq us.toArray } (.lst (ns.map V.int))) else none) b = none := fun b nb => if_neg nb
    refine core (fun b => if b = a then some (HO.frz { cls := .type "list", data := .seq us.toArray } (.lst (ns.map V.int))) else none) (fun b => ?_) (.inl (.inr ⟨{ cls := .type "list", data := .seq us.toArray }, if_pos rfl⟩)) (fun b u y => ?_) fun b y => ?_
    · by_cases hb : b = a
      · exact .inr ⟨_, _, if_pos hb⟩
      · exact .inl (if_neg hb)
    · by_cases hb : b = a
      · have y2 := (if_pos hb).symm.trans y
        cases y2
        subst hb
        exact ⟨ha, by rw [List.length_map]; exact hl, us, _, rv, ha⟩
      · exact nomatch ((hf b hb).symm.trans y)
    · by_cases hb : b = a
      · exact ⟨hb, hk⟩
      · exact absurd (hf b hb) y
theorem walkG {l : PySem.W.OpenLaw} {m n : Nat} {q : Program} {loose : List Str} {XP : (Str → Option Value) → Heap → Prop} {YP : World → Heap → Prop} {d : DefRec} {CX : World → CXT} {x : Str}
    (hm : l.most = some m) (hm2 : m ≤ sizeLine) (hdf : d.params.defaults = []) (hr : Room n callerA)
    (F : ∀ (w : World) (mg : Str → Option Value) (fa : Addr) (h : Heap), YP w h → h.Ns mainGlobals mg → mg d.name = some (.ref fa) →
      ∃ (K : PySem.W.Frag) (fd : FuncData) (sp : Sp), K.In h ∧ (∀ (s : Shared) (u : Value), BindsTo s fd ⟨[u], []⟩ [(x, u)]) ∧
        (∀ (H : Hp) (a : Addr) (ns : List Int), ns.length ≤ m → (∀ y ∈ ns, Builtin.Int.intBits y ≤ 1048576) → Only H → SqL K H a (ns.map V.int) → sp [.ref a] H (fun v _ => v = .bl true) fun _ _ _ => False) ∧
        ∀ base : Heap, K.In base → base.Ns mainGlobals mg → FnG true l.prog w K mg base (CX w) n fa fd [x] sp)
    (hCX : ∀ (w : World) (H : Hp) (s : Shared) (e : Value) (sz : Shared), CX w [] H s (fun _ _ _ => False) e sz → False) :
    PySem.W.WalkO q loose XP YP l.row.toRowW d [] (fun f vs => PySem.call f vs) := by
  refine Att.attach_callB hm hdf fun w s0 st mg mb fa o pm cd doc a us ns G Y ho hd hcd hmg hobj hints hlen hbits hg => ?_
  obtain ⟨K, fd, sp, KX, bd, hsp, hF⟩ := F w mg fa _ Y G.T.g hmg
  exact lawG KX G.T.g G.T.b G.T.builtins G.T.nolimit hg hobj hints (Nat.le_trans hlen hm2) ⟨hr, fun _ => rfl⟩ hF bd (fun H hO hS => hsp H a ns hlen hbits hO hS) fun H e sz => hCX w H st e sz

end L75
namespace L75
open PySem PySem.Spec PyProof.Rows L2
variable {gd : Bool}
local macro_rules | `(tactic| walk_at "y1") => `(tactic| with_reducible first
  | refine tSeq_i ?_ | refine tAsg_i ?_ | refine tCons_i ?_ | refine tNil_i ?_ | refine tC_i ?_ | refine tOp_i ?_ | refine tIfS_i ?_ | refine tTest_i ?_ | refine exBl_i ?_ | refine tRet_i ?_ | refine tCall_i ?_
  | refine tCB_i ?_ | refine tLst_i ?_ | refine tTup_i ?_ | refine rI0_i ?_ | refine tDrop_i ?_ | refine tNext_i ?_ | refine tB_i ?_ | refine tAnd_i ?_ | refine tOr_i ?_ | refine tNot_i ?_ | refine tAndV_i ?_ | refine tOrV_i ?_ | refine tNotV_i ?_
  | refine tIf_i ?_ | refine tUn_i ?_ | refine tDGet_i ?_ | refine sDPut_i ?_ | refine tFld_i ?_ | refine tRetN_i ?_ | refine tBreak_i ?_ | refine tCont_i ?_ | refine rU_i ?_)
local macro_rules | `(tactic| walk_at "yhead") => `(tactic| dsimp only [L2.start, List.map, List.length_cons, List.length_nil, Nat.reduceAdd, Nat.reduceSub, List.replicate, List.cons_append, List.nil_append])
local macro_rules | `(tactic| walk_at "y2") => `(tactic| first
  | walk_at "y1"
  | ((with_reducible refine tVar_i (v := ?v) ?h ?q); (case h => rfl))
  | ((with_reducible refine gName_i ?_); (dsimp only [List.set]))
  | ((with_reducible refine rEq_i ?h ?q); (case h => rfl)) | ((with_reducible refine rNe_i ?h ?q); (case h => rfl)))
local macro_rules | `(tactic| walk_at "y") => `(tactic| repeat walk_at "y2")

/-! operations, whatever the kinds of the values -/
section
variable {X : Cx}
def rIxDct : R2 := fun x y H Q => ∃ a v, x = .ref a ∧ DGet H a y (some v) ∧ Q v H
theorem ix_dct (hu : X.A.units + 1 < cLine) : IxR X rIxDct := by
  intro value slice pins st σ H x y v u Q I rx ry q hs
  obtain ⟨a, w, rfl, g, q⟩ := q
  obtain rfl : v = Value.ref a := rx
  have hT := dict_typeIs I g
  unfold subscriptTail
  refine wpAny_bind ?_
  rw [getitemInPython_of_ne hT.not_modules]
  refine wpAny_bind (wpAny_specialOf hT PySem.F.slot_dict_getitem.lookup ?_)
  have fin : wpAny (model X.prog X.w) X.A (subscripted slice false (.ref a) u) (fun r s3 => wpAny (model X.prog X.w) X.A (letTemporaryGo value (.ref a) r >>= fun _ => pure r) (EP X pins σ Q) X.xe s3) X.xe st := by
    rw [hs]
    exact wpAny_operating (d_getItem hu I g ry fun w2 s3 I3 r3 => wpAny_bind (wpAny_letTemporaryGo (wpAny_pure ⟨w, H, I3, r3, q⟩)))
  first
    | exact wpAny_pure (wpAny_bind fin)
    | exact wpAny_bind (wpAny_pure (wpAny_bind fin))
    | exact wpAny_bind fin
def rGet (K : PySem.W.Frag) : R2 := fun x y H Q => rIx K x y H Q ∨ rIxDct x y H Q
theorem ix_get (hu : X.A.units + 1 < cLine) : IxR X (rGet X.K) := ix_seq.or (ix_dct hu)
def rStrCat : R2 := fun x y H Q => ∃ i j, x = .str i ∧ y = .str j ∧ i.length + j.length ≤ sizeLine ∧ Q (.str (i ++ j)) H
/-- two lists, the left or the right one perhaps the script -/
def rAdd2 (K : PySem.W.Frag) : R2 := fun x y H Q => rI0 (fun i j => .int (i + j)) x y H Q ∨ rStrCat x y H Q ∨ rCat x y H Q ∨ rCatA K x y H Q
theorem op_add2 : OpR X (binaryOp .Add) (rAdd2 X.K) := op_add.or (op_add_str.or (op_cat.or op_catA))
def rMul2 (K : PySem.W.Frag) : R2 := fun x y H Q => rI CMul (fun i j => .int (i * j)) x y H Q ∨ rRep x y H Q
theorem op_mul2 : OpR X (binaryOp .Mult) (rMul2 X.K) := op_mul.or op_rep
def rEq2 (K : PySem.W.Frag) : R2 := fun x y H Q => rEq x y H Q ∨ rEqD K x y H Q
theorem op_eq2 (hu : X.A.units + 64 < cLine) : OpR X (compareOp .Eq) (rEq2 X.K) := op_eq.or (op_eqD hu)
def rNe2 (K : PySem.W.Frag) : R2 := fun x y H Q => rNe x y H Q ∨ rNeD K x y H Q
theorem op_ne2 (hu : X.A.units + 64 < cLine) : OpR X (compareOp .NotEq) (rNe2 X.K) := op_ne.or (op_neD hu)
def rDIn : R2 := fun y x H Q => ∃ a o, x = .ref a ∧ DGet H a y o ∧ Q (.bl o.isSome) H
theorem op_din (hu : X.A.units + 1 < cLine) : OpR X (compareOp .In) rDIn := by
  intro pins st σ H y x u v Q I ry rx q
  obtain ⟨a, o, rfl, g, q⟩ := q
  obtain rfl : v = Value.ref a := rx
  exact d_in hu I g ry fun s3 I3 => ⟨.bl o.isSome, H, I3, rfl, q⟩
def rDNotIn : R2 := fun y x H Q => ∃ a o, x = .ref a ∧ DGet H a y o ∧ Q (.bl (!o.isSome)) H
theorem op_dnotin (hu : X.A.units + 1 < cLine) : OpR X (compareOp .NotIn) rDNotIn := by
  intro pins st σ H y x u v Q I ry rx q
  obtain ⟨a, o, rfl, g, q⟩ := q
  obtain rfl : v = Value.ref a := rx
  exact d_notIn hu I g ry fun s3 I3 => ⟨.bl (!o.isSome), H, I3, rfl, q⟩
def rIn2 (K : PySem.W.Frag) : R2 := fun x y H Q => rIn K false x y H Q ∨ rInD K x y H Q ∨ rDIn x y H Q
theorem op_in2 (hu : X.A.units + 65 < cLine) : OpR X (compareOp .In) (rIn2 X.K) := op_in_seq.or ((op_inD hu).or (op_din (by omega)))
def rNotIn2 (K : PySem.W.Frag) : R2 := fun x y H Q => rIn K true x y H Q ∨ rNotInD K x y H Q ∨ rDNotIn x y H Q
theorem op_notIn2 (hu : X.A.units + 65 < cLine) : OpR X (compareOp .NotIn) (rNotIn2 X.K) := op_notIn_seq.or ((op_notInD hu).or (op_dnotin (by omega)))
def rSl2 (K : PySem.W.Frag) : V → Option Int → Option Int → Hp → VK → Prop := fun x lo hi H Q => rSlL K x lo hi H Q ∨ rSlA K x lo hi H Q
theorem sl_2 : SlR X (rSl2 X.K) := sl_list.or sl_tupA
def rIsi2 (K : PySem.W.Frag) : List V → Hp → VK → Prop := fun xs H Q => rIsi K xs H Q ∨ rIsiT K xs H Q
theorem call_isi2 : CallR X (.builtin "isinstance") (rIsi2 X.K) := call_isi.or call_isiT
end

end L75
namespace L75
open PySem PySem.Spec PyProof.Rows L2
variable {gd : Bool}
local macro_rules | `(tactic| walk_at "y1") => `(tactic| with_reducible first
  | refine tSeq_i ?_ | refine tAsg_i ?_ | refine tCons_i ?_ | refine tNil_i ?_ | refine tC_i ?_ | refine tOp_i ?_ | refine tIfS_i ?_ | refine tTest_i ?_ | refine exBl_i ?_ | refine tRet_i ?_ | refine tCall_i ?_
  | refine tCB_i ?_ | refine tLst_i ?_ | refine tTup_i ?_ | refine rI0_i ?_ | refine tDrop_i ?_ | refine tNext_i ?_ | refine tB_i ?_ | refine tAnd_i ?_ | refine tOr_i ?_ | refine tNot_i ?_ | refine tAndV_i ?_ | refine tOrV_i ?_ | refine tNotV_i ?_
  | refine tIf_i ?_ | refine tUn_i ?_ | refine tDGet_i ?_ | refine sDPut_i ?_ | refine tFld_i ?_ | refine tRetN_i ?_ | refine tBreak_i ?_ | refine tCont_i ?_ | refine rU_i ?_)
local macro_rules | `(tactic| walk_at "yhead") => `(tactic| dsimp only [L2.start, List.map, List.length_cons, List.length_nil, Nat.reduceAdd, Nat.reduceSub, List.replicate, List.cons_append, List.nil_append])
local macro_rules | `(tactic| walk_at "y2") => `(tactic| first
  | walk_at "y1"
  | ((with_reducible refine tVar_i (v := ?v) ?h ?q); (case h => rfl))
  | ((with_reducible refine gName_i ?_); (dsimp only [List.set]))
  | ((with_reducible refine rEq_i ?h ?q); (case h => rfl)) | ((with_reducible refine rNe_i ?h ?q); (case h => rfl)))
local macro_rules | `(tactic| walk_at "y") => `(tactic| repeat walk_at "y2")

/-! a, *b = a tuple -/
section
variable {X : Cx}
theorem pgs_star {t : Expr} {p : Pos} {es : List Expr} {g : TG} {u : TGs} (h1 : PG X t g) (h2 : PGs X es u) : PGs X (.Starred t p :: es) (gCons g u) := by
  refine ⟨fun pins st σ H vs us Q I r h => ?_⟩
  obtain ⟨v, vr, rfl, h⟩ := h
  cases r with
  | cons r rr => exact assignInOrder_cons (thn (h1.run pins st σ H _ _ _ I r h) fun _ s1 ⟨σ1, H1, I1, q1⟩ => h2.run pins s1 σ1 H1 _ _ Q I1 rr q1)
/-- n targets, the one at i starred -/
def gStar (K : PySem.W.Frag) (n i : Nat) (t : TGs) : TG := fun v σ H Q => ∃ a xs, v = .ref a ∧ SqT K H a xs ∧ n ≤ xs.length + 1 ∧
  ∀ d, H d = none → t (xs.take i ++ V.ref d :: (xs.drop i).drop (xs.length + 1 - n)) σ (upd H d (.lst ((xs.drop i).take (xs.length + 1 - n)))) Q
theorem pg_star {es : List Expr} {k : Nat} {pos : Pos} {n i : Nat} {t : TGs} (hc : X.calm = true) (h : PGs X es t) (hn : (assignEach es X.env).length = n := by rfl) (hst : (assignEach es X.env).findIdx? (·.1) = some i := by rfl) (hi : i < n := by decide) :
    PG X (.Tuple es k pos) (gStar X.K n i t) := by
  refine ⟨fun pins st σ H v u Q I r hw => ?_⟩
  obtain ⟨a, xs, rfl, hq, hl, hw⟩ := hw
  obtain rfl : u = Value.ref a := r
  have hh := I.ok.hd hc
  obtain ⟨its, rv, ht, hz⟩ := I.tuple hq
  have len := rv.length
  have sz : its.toArray.size = xs.length := by rw [List.size_toArray, len]
  have alt : a ≠ st.heap.objs.size := by obtain ⟨o, ho, _⟩ := ht; exact Nat.ne_of_lt (Heap.lt_size ho)
  rw [assign_Tuple]
  refine wpAny_bind (wpAny_standAt ?_)
  unfold unpack
  rw [hn, hst]
  refine wpAny_bind (wpAny_holding ?_)
  unfold unpackItems notIterableAtAll
  refine wpAny_bind (wpAny_bind (wpAny_specialOf ht.typeIs slot_tuple_iter.lookup (wpAny_pure ?_)))
  simp only [Bool.false_eq_true, if_false]
  refine wpAny_bind (wpAny_holding (iter_tuple ht ?_))
  refine wpAny_bind (wpAny_holding (draw_tuple alt i 0 _ _ ⟨_, Heap.get?_push_size _ rfl, rfl, rfl⟩ (ht.push _) (by omega) fun h1 it1 hs1 => ?_))
  rw [Nat.zero_add] at it1
  have t1 : IsTup h1 a its.toArray := (ht.push _).extBut hs1.extBut alt
  obtain ⟨oi, hoi, _⟩ := id it1
  obtain ⟨ol, hol, _⟩ := id t1
  rw [List.drop_zero]
  have fl : (its.toArray.toList.take i).length = i := by rw [List.length_take, Array.length_toList]; omega
  rw [if_neg (show ¬ ((its.toArray.toList.take i).length < i) by rw [fl]; omega)]
  refine wpAny_bind (wpAny_holding (PySem.W.kun_collect (s := { st with heap := h1 }) (T := "tuple_iterator") (.inr (.inr (.inr rfl))) (Walks.tuple (A := X.A.in1) hh st.heap.objs.size a alt its.toArray) (fun j u z => z.1.typeIs) (k := i) (by omega) ⟨it1, t1⟩ (Heap.lt_size hoi) (Heap.lt_size hol) (fun h2 tk hk => ?_) (by rw [sz]; exact hz)))
  have rl : (its.toArray.toList.drop i).length = xs.length - i := by rw [List.length_drop, Array.length_toList, sz]
  show wpAny _ _ (if (its.toArray.toList.drop i).length < n - 1 - i then _ else _) _ _ _
  rw [if_neg (by rw [rl]; omega)]
  have md : (its.toArray.toList.drop i).length - (n - 1 - i) = xs.length + 1 - n := by rw [rl]; omega
  show wpAny _ _ (newList ((its.toArray.toList.drop i).take ((its.toArray.toList.drop i).length - (n - 1 - i))) >>= fun d => pure (its.toArray.toList.take i ++ [d] ++ (its.toArray.toList.drop i).drop ((its.toArray.toList.drop i).length - (n - 1 - i)))) _ _ _
  rw [md]
  have kp : ∀ b o, st.heap.get? b = some o → h2.get? b = some o := fun b o e => by
    have nb : b ≠ st.heap.objs.size := Nat.ne_of_lt (Heap.lt_size e)
    exact hk b o nb (hs1.extBut b o nb (Heap.get?_push_of_some _ e))
  have I2 : Inv X pins σ H { st with heap := h2, toks := tk } := I.kept kp
  refine wpAny_bind (wpAny_newObj_type (wpAny_pure ?_) (by show (List.toArray _).size ≤ sizeLine; rw [List.size_toArray, List.length_take, rl]; omega))
  have rm : Vals ((xs.drop i).take (xs.length + 1 - n)) ((its.toArray.toList.drop i).take (xs.length + 1 - n)) := (rv.drop i).take _
  have ol2 : ((xs.drop i).take (xs.length + 1 - n)).length ≤ sizeLine := by rw [List.length_take, List.length_drop]; omega
  have I3 : Inv X pins σ (upd H h2.objs.size (.lst ((xs.drop i).take (xs.length + 1 - n)))) { st with heap := h2.push { cls := .type "list", data := .seq ((its.toArray.toList.drop i).take (xs.length + 1 - n)).toArray }, toks := tk } :=
    I2.laid (t' := tk) (fun b o e => Heap.get?_push_of_some _ e) (Nat.le_refl _) ⟨ol2, _, 0, rm, Heap.get?_push_size _ rfl⟩
  have q3 := h.run pins _ σ _ _ (its.toArray.toList.take i ++ Value.ref h2.objs.size :: (its.toArray.toList.drop i).drop (xs.length + 1 - n)) Q I3 ((rv.take i).append (.cons (show L2.RelV (V.ref h2.objs.size) (Value.ref h2.objs.size) from rfl) ((rv.drop i).drop _))) (hw h2.objs.size (I2.hok.fresh (Nat.le_refl _)))
  simpa using q3
end

end L75
namespace L75
open PySem PySem.Spec PyProof.Rows L2
variable {gd : Bool}
local macro_rules | `(tactic| walk_at "y1") => `(tactic| with_reducible first
  | refine tSeq_i ?_ | refine tAsg_i ?_ | refine tCons_i ?_ | refine tNil_i ?_ | refine tC_i ?_ | refine tOp_i ?_ | refine tIfS_i ?_ | refine tTest_i ?_ | refine exBl_i ?_ | refine tRet_i ?_ | refine tCall_i ?_
  | refine tCB_i ?_ | refine tLst_i ?_ | refine tTup_i ?_ | refine rI0_i ?_ | refine tDrop_i ?_ | refine tNext_i ?_ | refine tB_i ?_ | refine tAnd_i ?_ | refine tOr_i ?_ | refine tNot_i ?_ | refine tAndV_i ?_ | refine tOrV_i ?_ | refine tNotV_i ?_
  | refine tIf_i ?_ | refine tUn_i ?_ | refine tDGet_i ?_ | refine sDPut_i ?_ | refine tFld_i ?_ | refine tRetN_i ?_ | refine tBreak_i ?_ | refine tCont_i ?_ | refine rU_i ?_)
local macro_rules | `(tactic| walk_at "yhead") => `(tactic| dsimp only [L2.start, List.map, List.length_cons, List.length_nil, Nat.reduceAdd, Nat.reduceSub, List.replicate, List.cons_append, List.nil_append])
local macro_rules | `(tactic| walk_at "y2") => `(tactic| first
  | walk_at "y1"
  | ((with_reducible refine tVar_i (v := ?v) ?h ?q); (case h => rfl))
  | ((with_reducible refine gName_i ?_); (dsimp only [List.set]))
  | ((with_reducible refine rEq_i ?h ?q); (case h => rfl)) | ((with_reducible refine rNe_i ?h ?q); (case h => rfl)))
local macro_rules | `(tactic| walk_at "y") => `(tactic| repeat walk_at "y2")

/-! defs, methods and classes by their promises -/
/-- a def of the module, called by its name -/
structure Cal (gd : Bool) (P : Program) (w : World) (K : PySem.W.Frag) (mg : Str → Option Value) (base : Heap) (CX : CXT) (k : Nat) (x : Str) (sp : Sp) : Prop where
  ex : ∃ (f : Addr) (fd : FuncData) (ps : List Str), FnG gd P w K mg base CX k f fd ps sp ∧ mg x = some (.ref f) ∧ PySem.W.keepIn K (.ref f) = true ∧ Binds K fd ps []
/-- a class made by its name; sp: its __init__'s promise -/
structure Mak (gd : Bool) (P : Program) (w : World) (K : PySem.W.Frag) (mg : Str → Option Value) (base : Heap) (CX : CXT) (k : Nat) (x : Str) (sp : Sp) : Prop where
  ex : ∃ (f : Addr) (fd : FuncData) (ps : List Str), Mk K (He.ga K x) f ∧ FnG gd P w K mg base CX k f fd ps sp ∧ mg x = some (.ref (He.ga K x)) ∧ Binds K fd ps []
def sp1 (p : V → Hp → VK → XK → Prop) : Sp := fun vs H Q E => ∃ x, vs = [x] ∧ p x H Q E
def sp2 (p : V → V → Hp → VK → XK → Prop) : Sp := fun vs H Q E => ∃ x y, vs = [x, y] ∧ p x y H Q E
def sp3 (p : V → V → V → Hp → VK → XK → Prop) : Sp := fun vs H Q E => ∃ x y u, vs = [x, y, u] ∧ p x y u H Q E
theorem sp1_len {p : V → Hp → VK → XK → Prop} {a : Str} : ∀ vs H Q E, sp1 p vs H Q E → vs.length = [a].length := fun vs H Q E h => by obtain ⟨x, rfl, _⟩ := h; rfl
theorem sp2_len {p : V → V → Hp → VK → XK → Prop} {a b : Str} : ∀ vs H Q E, sp2 p vs H Q E → vs.length = [a, b].length := fun vs H Q E h => by obtain ⟨x, y, rfl, _⟩ := h; rfl
theorem sp3_len {p : V → V → V → Hp → VK → XK → Prop} {a b c : Str} : ∀ vs H Q E, sp3 p vs H Q E → vs.length = [a, b, c].length := fun vs H Q E h => by obtain ⟨x, y, u, rfl, _⟩ := h; rfl
section
variable {X : Cx} {k j : Nat} {c x m : Str} {sp : Sp} {p pos apos : Pos} {e o : Expr} {es : List Expr} {ta te : TE} {t : TA} {CX : CXT} {E : XK}
theorem hu_1 {A : Around} (z : RG gd k A) : A.units + 64 < cLine := by have := z.r.un; omega
theorem hu_2 {A : Around} (z : RG gd k A) : A.units + 65 < cLine := by have := z.r.un; omega
theorem hu_3 {A : Around} (z : RG gd k A) : A.units + 1 < cLine := by have := z.r.un; omega
theorem pe_c (c : Cal gd X.prog X.w X.K X.mg X.base CX0 k x sp) (z : RG gd j X.A) (ha : PA X (e :: es) t) (hk : k ≤ j := by decide) (hg : Gl X x := by rfl)
    (hdb : (x == ("__debug__" : Str)) = false := by decide) (he : starEach (e :: es) X.env = (false, eval e X.env) :: starEach es X.env := by rfl) (hpl : (backTo pos (starEach es X.env)).any (·.1) = false := by rfl) :
    PE X (.Call (.Name x p) (e :: es) [] pos) (tCall sp [] E0 t) := by
  obtain ⟨f, fd, ps, F, hm, kp, b⟩ := c.ex
  exact pe_callG F (z.mono hk) hg hm kp b .nil pass0 ha hdb he hpl
theorem pe_cX (c : Cal gd X.prog X.w X.K X.mg X.base CX k x sp) (z : RG gd j X.A) (hx : Passes CX X E) (ha : PA X (e :: es) t) (hk : k ≤ j := by decide) (hg : Gl X x := by rfl)
    (hdb : (x == ("__debug__" : Str)) = false := by decide) (he : starEach (e :: es) X.env = (false, eval e X.env) :: starEach es X.env := by rfl) (hpl : (backTo pos (starEach es X.env)).any (·.1) = false := by rfl) :
    PE X (.Call (.Name x p) (e :: es) [] pos) (tCall sp [] E t) := by
  obtain ⟨f, fd, ps, F, hm, kp, b⟩ := c.ex
  exact pe_callG F (z.mono hk) hg hm kp b .nil hx ha hdb he hpl
theorem pe_mk0 (c : Mak gd X.prog X.w X.K X.mg X.base CX0 k x sp) (z : RG gd j X.A) (hk : k + 1 ≤ j := by decide) (hg : Gl X x := by rfl)
    (hdb : (x == ("__debug__" : Str)) = false := by decide) :
    PE X (.Call (.Name x p) [] [] pos) (tMake (He.ga X.K x) sp [] E0 tNil) := by
  obtain ⟨f, fd, ps, M, F, hm, b⟩ := c.ex
  exact pe_makeG0 M F (z.mono hk) hg hm b .nil pass0 hdb
/-- a whole number of the module by its name -/
theorem pe_gi {i : Int} (h : ∃ t, X.mg x = some (.int i t)) (hg : Gl X x := by rfl) (hd : (x == ("__debug__" : Str)) = false := by decide) : PE X (.Name x pos) (tC (.int i)) := by
  obtain ⟨t, h⟩ := h
  exact pe_glob hg h ⟨t, rfl⟩ hd
/-- a def or a class of the module as a value -/
theorem pe_gl {a : Addr} (h : X.mg x = some (.ref a)) (hg : Gl X x := by rfl) (hd : (x == ("__debug__" : Str)) = false := by decide) : PE X (.Name x pos) (tC (.ref a)) := pe_glob hg h rfl hd
end
section
variable {P : Program} {w : World} {K : PySem.W.Frag} {mg : Str → Option Value} {base : Heap}
/-- a def that raises nothing -/
theorem Sy.cal (T : Sy K mg) {x : Str} {j : Nat} {N ps : List Str} {k : Nat} {sp : Sp} (F0 : FDx K (dG x j))
    (S : FnScope N ps (defScope (top j))) (len : ∀ vs H Q E, sp vs H Q E → vs.length = ps.length)
    (hbody : ∀ (cdv : Value) (f : Addr) (A : Around) (outer : List Env) (s : Shared) (H : Hp) (vs : List V) (Q : VK) (E : XK), RG gd k (A.deeper (envOfC x (defScope (top j)) s.heap.objs.size f cdv)) → sp vs H Q E →
      ∃ t, PSs (cxOf CX0 P w K mg base N x (defScope (top j)) f cdv A outer s H E).nox (defBody (top j)) t ∧ t { nx := fun _ H' => Q .non H', rt := Q } (start N vs) H)
    (hb : ∀ (kV doc pm : Value) (an : Option Addr) (cdv ct : Value) (us : List Value), us.length = ps.length → bindArgs (PySem.W.fnOf x x (defArgs (top j)) (defBody (top j)) (defScope (top j)) .none kV doc pm an cdv ct) ⟨us, []⟩ = pure (ps.zip us))
    (hg : fa.any (isGlo x) = true := by decide +kernel) : Cal gd P w K mg base CX0 (k + 1) x sp := by
  obtain ⟨fd, F⟩ := F0
  refine ⟨_, fd, ps, FnG.body F S len fun cdv A outer s H vs Q E hr h => ?_, T.glo x hg, F.kp, F.bindsN hb⟩
  obtain ⟨t, h1, h2⟩ := hbody cdv _ A outer s H vs Q E hr h
  exact ⟨t, h1.nox, h2⟩
end
section
variable {P : Program} {w : World} {K : PySem.W.Frag} {mg : Str → Option Value} {base : Heap}
/-- a class by its __init__ that raises nothing -/
theorem Sy.mak (T : Sy K mg) {c q : Str} {i j : Nat} {N ps : List Str} {k : Nat} {sp : Sp} (F0 : FDx K (dM c "__init__" q i j))
    (S : FnScope N ps (defScope (inClass (top i) j))) (len : ∀ vs H Q E, sp vs H Q E → vs.length = ps.length)
    (hbody : ∀ (cdv : Value) (f : Addr) (A : Around) (outer : List Env) (s : Shared) (H : Hp) (vs : List V) (Q : VK) (E : XK), RG gd k (A.deeper (envOfC q (defScope (inClass (top i) j)) s.heap.objs.size f cdv)) → sp vs H Q E →
      ∃ t, PSs (cxOf CX0 P w K mg base N q (defScope (inClass (top i) j)) f cdv A outer s H E).nox (defBody (inClass (top i) j)) t ∧ t { nx := fun _ H' => Q .non H', rt := Q } (start N vs) H)
    (hb : ∀ (kV doc pm : Value) (an : Option Addr) (cdv ct : Value) (us : List Value), us.length = ps.length → bindArgs (PySem.W.fnOf "__init__" q (defArgs (inClass (top i) j)) (defBody (inClass (top i) j)) (defScope (inClass (top i) j)) .none kV doc pm an cdv ct) ⟨us, []⟩ = pure (ps.zip us))
    (hg : fa.any (isGlo c) = true := by decide +kernel) (hk : fa.any (isMkr c) = true := by decide +kernel) : Mak gd P w K mg base CX0 (k + 1) c sp := by
  obtain ⟨fd, F⟩ := F0
  refine ⟨_, fd, ps, T.mkr c hk, FnG.body F S len fun cdv A outer s H vs Q E hr h => ?_, T.glo c hg, F.bindsN hb⟩
  obtain ⟨t, h1, h2⟩ := hbody cdv _ A outer s H vs Q E hr h
  exact ⟨t, h1.nox, h2⟩
end
/-! more operations by their kinds, and walks over any of them -/
section
variable {X : Cx}
def rLe2 : R2 := fun x y H Q => rI0 (fun i j => .bl (decide (i ≤ j))) x y H Q ∨ ∃ i j, x = .str i ∧ y = .str j ∧ Q (.bl (!decide (j.cps.toList < i.cps.toList))) H
theorem op_le2 : OpR X (compareOp .LtE) rLe2 := op_le.or op_le_str
/-- small data: what == and repr ask of it -/
structure Sm (n b : Nat) (d : PyData) : Prop where
  lay : d.canLay0 = true
  dep : d.depth ≤ n
  shw : PyData.showable d = true
  lvs : d.leavesShort 40 = true
  blk : d.bulk ≤ b
theorem Sm.mono {n b n' b' : Nat} {d : PyData} (h : Sm n b d) (hn : n ≤ n') (hb : b ≤ b') : Sm n' b' d := ⟨h.lay, Nat.le_trans h.dep hn, h.shw, h.lvs, Nat.le_trans h.blk hb⟩
theorem Sm.shaped {n b : Nat} {d : PyData} (h : Sm n b d) (hn : n ≤ 64 := by decide) : SeqAt.shaped d = true := by
  unfold SeqAt.shaped
  rw [h.lay, Bool.true_and]
  exact decide_eq_true (Nat.le_trans h.dep hn)
theorem Sm.none : Sm 0 0 .none := ⟨by decide, by decide, by decide, by decide, by decide⟩
theorem Sm.bl (c : Bool) : Sm 0 0 (.bool c) := by cases c <;> exact ⟨by decide, by decide, by decide, by decide, by decide⟩
theorem Sm.int {i : Int} (h1 : -999999999999 ≤ i) (h2 : i ≤ 999999999999) : Sm 0 0 (.int i) := by
  refine ⟨by simp only [PyData.canLay0], by simp [PyData.depth], ?_, ?_, by simp [PyData.bulk]⟩
  · simp only [PyData.showable, decide_eq_true_eq]
    by_cases h0 : i.natAbs = 0
    · rw [h0]; decide
    · exact Nat.lt_of_lt_of_le ((Nat.log2_lt h0).mpr (show i.natAbs < 2 ^ 40 by omega)) (by decide)
  · simp only [PyData.leavesShort, decide_eq_true_eq]
    exact Nat.le_trans (PyData.shown_int_le2 h1 h2) (by decide)
theorem Sm.all {n b : Nat} : ∀ {ds : List PyData}, (∀ d ∈ ds, Sm n b d) → PyData.canLayAll0 ds = true ∧ PyData.depthAll ds ≤ n ∧ PyData.showableAll ds = true ∧ PyData.leavesShortAll 40 ds = true ∧ PyData.bulkAll ds ≤ ds.length * (b + 1)
  | [], _ => ⟨by simp [PyData.canLayAll0], by simp [PyData.depthAll], by simp [PyData.showableAll], by simp [PyData.leavesShortAll], by simp [PyData.bulkAll]⟩
  | d :: ds, h => by
    obtain ⟨h1, h2, h3, h4, h5⟩ := Sm.all (ds := ds) fun x hx => h x (List.mem_cons_of_mem _ hx)
    have g := h d (List.mem_cons_self ..)
    refine ⟨by simp [PyData.canLayAll0, g.lay, h1], ?_, by simp [PyData.showableAll, g.shw, h3], by simp [PyData.leavesShortAll, g.lvs, h4], ?_⟩
    · simp only [PyData.depthAll]
      exact Nat.max_le.mpr ⟨g.dep, h2⟩
    · simp only [PyData.bulkAll, List.length_cons, Nat.add_mul]
      have := g.blk
      omega
theorem Sm.list {n b : Nat} {ds : List PyData} (h : ∀ d ∈ ds, Sm n b d) : Sm (n + 1) (ds.length * (b + 1)) (.list ds) := by
  obtain ⟨h1, h2, h3, h4, h5⟩ := Sm.all h
  exact ⟨by simpa only [PyData.canLay0] using h1, by simp only [PyData.depth]; omega, by simpa only [PyData.showable] using h3, by simpa only [PyData.leavesShort] using h4, by simpa only [PyData.bulk] using h5⟩
theorem Sm.tup {n b : Nat} {ds : List PyData} (h : ∀ d ∈ ds, Sm n b d) : Sm (n + 1) (ds.length * (b + 1)) (.tuple ds) := by
  obtain ⟨h1, h2, h3, h4, h5⟩ := Sm.all h
  exact ⟨by simpa only [PyData.canLay0] using h1, by simp only [PyData.depth]; omega, by simpa only [PyData.showable] using h3, by simpa only [PyData.leavesShort] using h4, by simpa only [PyData.bulk] using h5⟩
def rRepr (K : PySem.W.Frag) : List V → Hp → VK → Prop := fun xs H Q => ∃ x d, xs = [x] ∧ Dp K H x d ∧ Sm 50 390000 d ∧ Q (.str (PyData.shown d)) H
theorem call_repr {k : Nat} (z : RG true k X.A) : CallR X (.builtin "repr") (rRepr X.K) := by
  intro pins s σ H xs us Q I rx h
  obtain ⟨x, d, rfl, hd, hs, q⟩ := h
  obtain ⟨u, rfl, ru⟩ := Vals.one rx
  have hsz : d.shown.length ≤ sizeLine := by
    have h1 := PyData.shown_le_bulk 40 (by decide) d hs.lvs
    have h2 := hs.blk
    rw [sizeLine_eq]
    omega
  have fin : ∀ h' t tk, (∀ b o, s.heap.get? b = some o → h'.get? b = some o) → EP X pins σ Q (.str d.shown t) { s with heap := h', toks := tk } := fun h' t tk hk => ⟨.str d.shown, H, I.kept hk, ⟨_, rfl⟩, q⟩
  have fin0 : EP X pins σ Q (.str d.shown s.toks) { s with toks := s.toks + 1 } := fin s.heap s.toks (s.toks + 1) fun _ _ e => e
  have rr : ∀ a, u = Value.ref a → wpAny (model X.prog X.w) X.A (call (.builtin "repr") [.ref a]) (EP X pins σ Q) X.xe s := fun a e => by
    obtain ⟨as, r⟩ := Dp.reads I d x u hd ru
    rw [e] at r
    refine repr_of_reads' r hs.shw (PyData.noDict_hsm (PyData.hasDict_of_canLay d hs.lay)) (z.g rfl) ?_ (fun b o e => e) fin hsz
    have h1 := hs.dep
    have h2 := z.r.un
    omega
  cases hd with
  | non => cases (show u = Value.none from ru); exact P.repr_of_none fin0
  | bl b => cases (show u = Value.bool b from ru); exact P.repr_of_bool fin0
  | int i =>
    obtain ⟨t, e⟩ := (show ∃ t, u = Value.int i t from ru)
    subst e
    exact P.repr_of_int (by simpa [PyData.showable] using hs.shw) fin0
  | str y =>
    obtain ⟨t, e⟩ := (show ∃ t, u = Value.str y t from ru)
    subst e
    exact P.repr_of_str fin0 hsz
  | lst h1 h2 => cases (show u = Value.ref _ from ru); exact rr _ rfl
  | tup h1 h2 => cases (show u = Value.ref _ from ru); exact rr _ rfl
theorem mt_append2 : MtR X "list.append" rAppend := mt_append
theorem mt_extend2 : MtR X "list.extend" rExtend := mt_extend
theorem mt_index2 : MtR X "list.index" (rIndex X.K) := mt_index
def iAny (K : PySem.W.Frag) (te : TE) : TI := fun σ H R => iList K te σ H R ∨ iTup K te σ H R ∨ iStr te σ H R
theorem pi_any {tg e : Expr} {te : TE} (he : PE X e te) : PI X tg e (iAny X.K te) :=
  ⟨fun pins s σ H R I h => h.elim (fun h => (pi_list he).run pins s σ H R I h) fun h => h.elim (fun h => (pi_tup he).run pins s σ H R I h) fun h => (pi_str he).run pins s σ H R I h⟩
end

end L75
namespace L75
open PySem PySem.Spec PyProof.Rows L2
variable {gd : Bool}
local macro_rules | `(tactic| walk_at "y1") => `(tactic| with_reducible first
  | refine tSeq_i ?_ | refine tAsg_i ?_ | refine tCons_i ?_ | refine tNil_i ?_ | refine tC_i ?_ | refine tOp_i ?_ | refine tIfS_i ?_ | refine tTest_i ?_ | refine exBl_i ?_ | refine tRet_i ?_ | refine tCall_i ?_
  | refine tCB_i ?_ | refine tLst_i ?_ | refine tTup_i ?_ | refine rI0_i ?_ | refine tDrop_i ?_ | refine tNext_i ?_ | refine tB_i ?_ | refine tAnd_i ?_ | refine tOr_i ?_ | refine tNot_i ?_ | refine tAndV_i ?_ | refine tOrV_i ?_ | refine tNotV_i ?_
  | refine tIf_i ?_ | refine tUn_i ?_ | refine tDGet_i ?_ | refine sDPut_i ?_ | refine tFld_i ?_ | refine tRetN_i ?_ | refine tBreak_i ?_ | refine tCont_i ?_ | refine rU_i ?_)
local macro_rules | `(tactic| walk_at "yhead") => `(tactic| dsimp only [L2.start, List.map, List.length_cons, List.length_nil, Nat.reduceAdd, Nat.reduceSub, List.replicate, List.cons_append, List.nil_append])
local macro_rules | `(tactic| walk_at "y2") => `(tactic| first
  | walk_at "y1"
  | ((with_reducible refine tVar_i (v := ?v) ?h ?q); (case h => rfl))
  | ((with_reducible refine gName_i ?_); (dsimp only [List.set]))
  | ((with_reducible refine rEq_i ?h ?q); (case h => rfl)) | ((with_reducible refine rNe_i ?h ?q); (case h => rfl)))
local macro_rules | `(tactic| walk_at "y") => `(tactic| repeat walk_at "y2")

/-! enumerate(a tuple) -/
set_option maxHeartbeats 4000000 in
theorem meets_enumB {v : Value} {o : Obj} {Hh : Heap → Prop} (B : Begins v o Hh) :
    Meets (Builtin.«enumerate.__new__» ⟨[.type "enumerate", v], []⟩) (fun _ R s => Hh s.heap ∧
      R (.ok (.ret (.ref (s.heap.push o).objs.size))) { s with heap := (s.heap.push o).push { cls := .type "enumerate", data := .fields #[.none, .bool false, .ref s.heap.objs.size, rawInt 0, .none, .none] } }) :=
  .of_wp fun prog w A R s h => by
    obtain ⟨hp, g, d, tk, os⟩ := s; obtain ⟨h1, h⟩ := h
    have hsub := sub_enumerate
    have q1 : ∀ {A' : Around} {E : Value → Shared → Prop} {Q : Value → Shared → Prop}, Q (.ref hp.objs.size) ⟨hp.push o, g, d, tk, os⟩ → wpAny (model prog w) A' (pyIter v) Q E ⟨hp, g, d, tk, os⟩ :=
      fun q => B.iter prog w _ _ ⟨hp, g, d, tk, os⟩ _ h1 q
    wp_walk using q1
    refine wpAny_stack_any fun st => wpAny_pure ?_
    split
    · rename_i c _ _ _ _ _
      cases (c == Value.type "enumerate")
      · wp_walk using q1
        exact ⟨_, rfl, h⟩
      · wp_walk using q1
        exact ⟨_, rfl, h⟩
    · wp_walk using q1
      exact ⟨_, rfl, h⟩
theorem call_enumB {prog : Program} {w : World} {A : Around} {E : Value → Shared → Prop} {s : Shared} {v : Value} {o : Obj} {Hh : Heap → Prop} {Q : Value → Shared → Prop} (B : Begins v o Hh) (h1 : Hh s.heap)
    (h : ∀ h', IsEnum h' (s.heap.objs.size + 1) s.heap.objs.size 0 .none → h'.get? s.heap.objs.size = some o → h'.objs.size = s.heap.objs.size + 2 →
      (∀ b u, s.heap.get? b = some u → h'.get? b = some u) → Q (.ref (s.heap.objs.size + 1)) { s with heap := h' }) :
    wpAny (model prog w) A (call (.type "enumerate") [v]) Q E s := by
  refine callType_new F.called_enumerate (by decide) (F.typeCall_enumerate_1 _) (F.newCall_enumerate_1 _) (fun obj => F.args_object_init_2 obj _) F.entry_enumerate_new
    (meets_enumB B) ⟨h1, ?_⟩
  have hz : (s.heap.push o).objs.size = s.heap.objs.size + 1 := Heap.size_push ..
  show _ ∧ _
  rw [hz]
  have he : IsEnum ((s.heap.push o).push { cls := .type "enumerate", data := .fields #[.none, .bool false, .ref s.heap.objs.size, rawInt 0, .none, .none] }) (s.heap.objs.size + 1) s.heap.objs.size 0 .none := by
    have := Heap.get?_push_size (s.heap.push o) (o := { cls := .type "enumerate", data := .fields #[.none, .bool false, .ref s.heap.objs.size, rawInt 0, .none, .none] }) rfl
    rw [hz] at this; exact this
  exact ⟨⟨_, he, rfl⟩, h _ he (Heap.get?_push_of_some _ (Heap.get?_push_size _ B.free)) (by rw [Heap.size_push, hz]) fun b u x => Heap.get?_push_of_some _ (Heap.get?_push_of_some _ x)⟩
def IteT (K : PySem.W.Frag) (a : Addr) : It :=
  ⟨fun i H => ∃ xs x, SqT K H a xs ∧ xs[i]? = some x, fun i H v H' => ∃ T x, v = .ref T ∧ H T = none ∧ H' = upd H T (.tup [.int (i : Nat), x]) ∧ ∀ xs, SqT K H a xs → xs[i]? = some x, fun i H => ∃ xs, SqT K H a xs ∧ xs.length ≤ i⟩
theorem turn_enumT {P : Program} {w : World} {K : PySem.W.Frag} {elts : List Expr} {kk : Nat} {tpos : Pos} (a e it : Addr) (hai : a ≠ it) (hae : a ≠ e) :
    Turn P w K (.Tuple elts kk tpos) (IteT K a) [e, it] e (fun i h => (∃ old, IsEnum h e it ((i : Nat) : Int) old) ∧ h.IsTupleIter it a i ∧ e ≠ it) where
  mem := by simp
  obj := fun i h st b hb => by
    obtain ⟨⟨old, he⟩, ⟨o, ho, hc, hd⟩, _⟩ := st
    have e' : b = e ∨ b = it := by simpa using hb
    rcases e' with z | z
    · rw [z]; exact ⟨_, he, fun v q => nomatch q⟩
    · rw [z]; exact ⟨o, ho, fun v q => by rw [hd] at q; cases q⟩
  keep := fun i h h' st k => let ⟨⟨old, he⟩, hi, hne⟩ := st; ⟨⟨old, k e (by simp) _ he⟩, hi.at fun o q => k it (by simp) o q, hne⟩
  item := by
    intro X hP hw hK hc i pins s σ H E I hf st hg
    subst hP hw hK
    obtain ⟨⟨old, he⟩, hit, hne⟩ := st
    obtain ⟨xs, x, hq, hx⟩ := hg
    obtain ⟨its, rv, p, hz⟩ := I.tuple hq
    obtain ⟨u, hu, ru⟩ := rv.get hx
    have hel : e < s.heap.objs.size := Heap.lt_size he
    have hil : it < s.heap.objs.size := by obtain ⟨_, q, _⟩ := hit; exact Heap.lt_size q
    have hlt : i < its.toArray.size := by
      have h1 := (List.getElem?_eq_some_iff.mp hu).1
      simpa using h1
    refine wpAny_pyNext_enum_itemD (Draws.tuple (A := X.A.in1) (I.ok.hd hc) it a hai its.toArray) he ⟨hit, p⟩ hlt hne (by simp [hne, Ne.symm hae]) fun x' h' tk hx' ho hst hT hsz hk => ?_
    have ex : x' = u := by
      rw [List.getElem?_toArray, hu] at hx'
      exact (Option.some.inj hx').symm
    subst ex
    refine ⟨_, rfl, wpAny_letOwnedTupleGo_enum (s := { s with heap := h', toks := tk + 1 }) ho fun h'' he' sb => ?_⟩
    have hT2 : h''.get? s.heap.objs.size = some { cls := .type "tuple", data := .seq #[.int i tk, x'] } := (sb.2 _ (Nat.ne_of_gt hel)).trans hT
    have new : ObjOk X.prog X.w (upd H s.heap.objs.size (.tup [.int (i : Nat), x])) h'' s.heap.objs.size (.tup [.int (i : Nat), x]) :=
      ⟨by show 2 ≤ sizeLine; decide, [.int i tk, x'], .cons ⟨_, rfl⟩ (.cons ru .nil), ⟨_, hT2, rfl, _, rfl⟩⟩
    have I1 : Inv X pins σ (upd H s.heap.objs.size (.tup [.int (i : Nat), x])) { s with heap := h'', toks := tk + 1 } :=
      I.turnedNew (ch := [e, it]) (fun b ob hb q => (sb.2 b (fun z => hb (by simp [z]))).trans (hk b ob (fun z => hb (by simp [z])) (fun z => hb (by simp [z])) q)) hf (Nat.le_refl _) new
    refine ⟨.ref s.heap.objs.size, _, I1, rfl, ⟨_, x, rfl, I.hok.fresh (Nat.le_refl _), rfl, fun ys hy => by rw [I.tuple_inj hy hq]; exact hx⟩, ⟨⟨x', ?_⟩, hst.1.at fun o q => (sb.2 it (Ne.symm hne)).trans q, hne⟩, fun b hb => ?_⟩
    · have e1 : ((i + 1 : Nat) : Int) = (i : Int) + 1 := by omega
      rw [e1]; exact he'
    · have hb' : b < s.heap.objs.size := by
        have e' : b = e ∨ b = it := by simpa using hb
        rcases e' with z | z
        · rw [z]; exact hel
        · rw [z]; exact hil
      rw [upd_ne (Nat.ne_of_lt hb')]
      exact (hf b hb).1
  done := by
    intro X hP hw hK hc i pins s σ H E I hf st hg
    subst hP hw hK
    obtain ⟨⟨old, he⟩, hit, hne⟩ := st
    obtain ⟨xs, hq, hx⟩ := hg
    obtain ⟨its, rv, p, hz⟩ := I.tuple hq
    obtain ⟨f0, f1, f2, f3, f4, f5⟩ := hf it (by simp)
    have hl := rv.length
    have hT : s.TypeIs (.ref e) "enumerate" := ⟨_, he, rfl⟩
    unfold pyNext
    refine wpAny_bind (wpAny_attempt (wpAny_callSpecial?_slot (name := Str.ofString "__next__") hT F.slot_enumerate_next
      (wpAny_call_entry F.slot_enumerate_next hT F.entry_enumerate_next ?_ (F.args_enumerate_next_1 _))))
    show wpAny _ _ (field (.ref e) 2 >>= _) _ _ _
    refine wpAny_bind (wpAny_field he rfl (x := .ref it) rfl ?_)
    refine wpAny_bind (wpAny_nextOf_tuple_end (A := X.A.in1) (I.ok.hd hc) hit p (by simp; omega) fun h' x eb hx' => ?_)
    obtain ⟨o, ho, hcl⟩ := hx'
    refine wpAny_bind (wpAny_isInstance (T := "StopIteration") (b := true) ⟨o, ho, hcl⟩ isSubtype_stop ?_)
    exact wpAny_pure ⟨rfl, I.turned (t' := s.toks) (fun b o hb q => eb b o hb q) f0 f1 f3 f4 f5⟩
  self := fun A i s Q E st h => let ⟨⟨_, he⟩, _⟩ := st; wpAny_pyIter_enum he h
def iEnumT (K : PySem.W.Frag) (te : TE) : TI := fun σ H R => tCons te tNil σ H fun vs H1 => ∃ a xs, vs = [.ref a] ∧ SqT K H1 a xs ∧ R (IteT K a) H1
theorem pi_enumT {X : Cx} {e : Expr} {te : TE} {p pos tpos : Pos} {elts : List Expr} {kk : Nat} (hg : Gl X "enumerate") (hm : X.mg "enumerate" = none) (he : PE X e te) (ha : starEach [e] X.env = [(false, eval e X.env)] := by rfl) :
    PI X (.Tuple elts kk tpos) (.Call (.Name "enumerate" p) [e] [] pos) (iEnumT X.K te) := by
  refine ⟨fun pins s σ H R I h => ?_⟩
  refine Call_ (ld_blt I hg hm boot_enumerate (PyProof.Rows.callWith_type1 (thn ((pa_cons he pa_nil (hs := ha)).run pos pins s σ H _ I h) fun us s1 ⟨vs, H1, I1, r1, q1⟩ => ?_) ha rfl))
  obtain ⟨a, xs, ex, hq, q⟩ := q1
  subst ex
  cases r1 with
  | cons r rr =>
    cases rr
    cases r
    obtain ⟨its, rv, p', hz⟩ := I1.tuple hq
    have hal : a < s1.heap.objs.size := by obtain ⟨_, q, _⟩ := p'; exact Heap.lt_size q
    refine call_enumB (begins_tuple a its.toArray) p' fun h' he hit hsz hk => wpAny_pyIter_enum he ?_
    have I2 : Inv X pins σ H1 { s1 with heap := h' } := I1.kept (t' := s1.toks) hk
    refine ⟨s1.heap.objs.size + 1, [s1.heap.objs.size + 1, s1.heap.objs.size], _, _, H1, rfl, I2, turn_enumT a (s1.heap.objs.size + 1) s1.heap.objs.size (Nat.ne_of_lt hal) (Nat.ne_of_lt (Nat.lt_succ_of_lt hal)), ⟨⟨.none, he⟩, ⟨_, hit, rfl, rfl⟩, Nat.succ_ne_self _⟩, fun b hb => ?_, q⟩
    have e' : b = s1.heap.objs.size + 1 ∨ b = s1.heap.objs.size := by simpa using hb
    have hle : s1.heap.objs.size ≤ b := by
      rcases e' with z | z
      · rw [z]; exact Nat.le_add_right _ _
      · rw [z]; exact Nat.le_refl _
    exact I1.fpOk hle (I1.hok.fresh hle)
def iEnum2 (K : PySem.W.Frag) (te : TE) : TI := fun σ H R => iEnum K (tCons te tNil) σ H R ∨ iEnumT K te σ H R
theorem pi_enum2 {X : Cx} {e : Expr} {te : TE} {p pos tpos : Pos} {elts : List Expr} {kk : Nat} (hg : Gl X "enumerate") (hm : X.mg "enumerate" = none) (he : PE X e te) (ha : starEach [e] X.env = [(false, eval e X.env)] := by rfl) :
    PI X (.Tuple elts kk tpos) (.Call (.Name "enumerate" p) [e] [] pos) (iEnum2 X.K te) :=
  ⟨fun pins s σ H R I h => h.elim (fun h => (pi_enum hg hm (pa_cons he pa_nil (hs := ha)) (hs := ha)).run pins s σ H R I h) fun h => (pi_enumT hg hm he ha).run pins s σ H R I h⟩
theorem walk_enumT {K : PySem.W.Frag} {a : Addr} {xs : List V} : Walk (IteT K a) xs.length (fun H => SqT K H a xs) (YPair (fun i => some (.int (i : Nat))) (fun i => xs[i]?)) := by
  refine ⟨fun i _ hi q => ⟨xs, xs[i], q, by simp [hi]⟩, fun _ q => ⟨xs, q, Nat.le_refl _⟩, fun i H v H' _ q y => ?_⟩
  obtain ⟨T, x, h1, h2, h3, h4⟩ := y
  exact ⟨T, .int (i : Nat), x, h1, h2, h3, rfl, h4 xs q⟩
/-! sorted, remove, index, len; instances called; properties -/
section
variable {X : Cx} {CX : CXT} {n : Nat} {C g p : Addr} {fd : FuncData} {ps : List Str} {sp : Sp} {dvs : List V} {ds : List Value} {E : XK} {e fe : Expr} {es : List Expr} {ta tf : TE} {t : TA} {pos : Pos} {f : Str}
def rSorted2 (K : PySem.W.Frag) : List V → Hp → VK → Prop := fun xs H Q => rSortedI K xs H Q ∨ rSortedPO K xs H Q
theorem call_sorted2 : CallR X (.builtin "sorted") (rSorted2 X.K) := cr_sortedI.or cr_sortedPO
theorem mt_remove2 : MtR X "list.remove" rRemI := mt_remove
def rLen2 (K : PySem.W.Frag) : List V → Hp → VK → Prop := fun xs H Q => ∃ x n, xs = [x] ∧ LenV K x H n ∧ Q (.int n) H
theorem call_len2 : CallR X (.builtin "len") (rLen2 X.K) := call_len
def rTIdx (K : PySem.W.Frag) : V → List V → Hp → VK → Prop := fun x xs H Q => ∃ (p : Addr) (ns : List Int) (k : Int), x = .ref p ∧ xs = [.int k] ∧ SqT K H p (ns.map V.int) ∧ k ∈ ns ∧ Q (.int (ns.idxOf k : Nat)) H
theorem mt_tindex : MtR X "tuple.index" (rTIdx X.K) := by
  intro pins s σ H x xs v us Q I rx rs h
  obtain ⟨p, ns, k, rfl, rfl, hq, hk, q⟩ := h
  cases (show v = Value.ref p from rx)
  obtain ⟨u, rfl, t, rfl⟩ := vals1 rs
  obtain ⟨its, r, pl, hz⟩ := I.tuple hq
  exact PySem.SeqAt.tuple_index_ints pl r.ints hk ⟨.int (ns.idxOf k : Nat), H, I.tok _, ⟨_, rfl⟩, q⟩
theorem codeG {pins : List (Addr × Obj)} {σ : L2.St} {H : Hp} {st : Shared} {Q : VK} {us : List Value} {vs : List V} {fa : Addr} (F : FnG gd X.prog X.w X.K X.mg X.base CX n fa fd ps sp) (z : RG gd n X.A) (bd : Binds X.K fd ps []) (hx : Passes CX X E)
    (I : Inv X pins σ H st) (rv : Vals vs us) (q : sp vs H Q E) : codeAny (model X.prog X.w) X.A (.call (.ref fa) ⟨us, []⟩) (fun r s' => match r with | .ok (.ret v) => EP X pins σ Q v s' | .ok _ => False | .error e => X.xe e s') st := by
  have bd0 := bd st us I.kIn (by rw [List.append_nil, ← rv.length]; exact F.len _ _ _ _ q)
  rw [List.append_nil] at bd0
  refine codeAny_mono (F.run X.A X.stack st H ⟨us, []⟩ us vs Q E z I.env0 bd0 rv q) fun r sz hq => ?_
  cases r with
  | error er => exact hx pins σ H st er sz I hq
  | ok fl => cases fl <;> first | exact I.after hq | exact False.elim hq
/-- f(e, ..), f an expression that gives an instance of C -/
def tCallOG (C : Addr) (sp : Sp) (E : XK) (tf : TE) (t : TA) : TE := fun σ H Q => tf σ H fun y H1 => ∃ a, y = V.ref a ∧ t σ H1 fun vs H2 => (∃ dx fs, H2 a = some (.ins C dx fs)) ∧ sp (V.ref a :: vs) H2 Q E
theorem pe_callOG (hf : PE X fe tf) (c : StX.CallO X.K C g) (F : FnG gd X.prog X.w X.K X.mg X.base CX n g fd ps sp) (z : RG gd n X.A) (bd : Binds X.K fd ps []) (hx : Passes CX X E) (ha : PA X (e :: es) t)
    (ht : eval (.Call fe (e :: es) [] pos) X.env = (do callWith pos (← eval fe X.env) [] (backTo pos (starEach (e :: es) X.env)) (backToKw pos (keywordEach [] X.env))) := by rfl)
    (he : starEach (e :: es) X.env = (false, eval e X.env) :: starEach es X.env := by rfl) (hpl : (backTo pos (starEach es X.env)).any (·.1) = false := by rfl) : PE X (.Call fe (e :: es) [] pos) (tCallOG C sp E tf t) := by
  refine ⟨fun pins s σ H Q I h => ?_⟩
  refine Call_ (thn (hf.run pins s σ H _ I h) fun u s1 ⟨y, H1, I1, ry, a, ey, q⟩ => ?_) ht
  subst ey
  obtain rfl : u = Value.ref a := ry
  refine StX.callO_with (thn (ha.run pos pins s1 σ H1 _ I1 q) fun us s2 ⟨vs, H2, I2, r, hi, q2⟩ => ?_) he hpl
  obtain ⟨ox, od, J, hd⟩ := StX.insC_at I2 (.inr hi)
  exact ⟨⟨C, ox, od, J, hd⟩, wpAny_call (PySem.W.kco_code I2.kIn J hd c.at_ c.fn c.fi (codeG (us := .ref a :: us) (vs := .ref a :: vs) F z bd hx I2 (.cons rfl r) q2))⟩
/-- e.f, a property -/
theorem pe_propG (he : PE X e ta) (c : Cls X.K C) (hp : PropOf X.K C f p g) (F : FnG gd X.prog X.w X.K X.mg X.base CX n g fd ps sp) (z : RG gd (n + 1) X.A) (hb : Binds X.K fd ps ds) (hd : Vals dvs ds) (hx : Passes CX X.nox E)
    (hab : attributeBase e f X.env (eval e X.env) = eval e X.env := by rfl) : PE X (.Attribute e f pos) (tProp C sp dvs E ta) := by
  refine ⟨fun pins s σ H Q I h => ?_⟩
  refine attr_of hab (thn (he.run pins s σ H _ I h) fun u s1 ⟨x, H1, I1, rx, a, dx, fs, ex, ea, q⟩ => ?_)
  subst ex
  obtain rfl : u = Value.ref a := rx
  obtain ⟨mA, O, _, _, _, _⟩ := ins_get I1.hok ea
  obtain ⟨od, J, _⟩ := O.look
  obtain ⟨rest, hrec⟩ := hp.rec_
  have I2 := I1.tok (s1.toks + 1)
  have hl : ([Value.ref a] ++ ds).length = ps.length := by
    rw [← F.len _ _ _ _ q]
    show ds.length + 1 = dvs.length + 1
    rw [hd.length]
  have hc : (PySem.W.clsIn X.K C).isSome = true := by
    obtain ⟨cd, hc, _⟩ := PySem.W.any_some c.hd
    rw [hc]
    rfl
  refine PySem.W.get_bind I1.kIn J (PySem.W.plainGet_of (c.get f)).1 (PySem.W.findObj_data hc hp.at_ hp.get hp.tak) (PySem.W.plainGet_of (c.get f)).2 (wpAny_call (PySem.W.prop_get (s := { s1 with toks := s1.toks + 1 }) I1.kIn hrec ?_))
  refine codeAny_mono (F.run X.A.in1 X.stack { s1 with toks := s1.toks + 1 } H1 ⟨[.ref a], []⟩ (.ref a :: ds) (.ref a :: dvs) Q E z.one I2.env0.in1 (hb _ [.ref a] I2.kIn hl) (.cons rfl hd) q) fun r s' hq => ?_
  cases r with
  | error er => exact False.elim (hx pins σ H1 { s1 with toks := s1.toks + 1 } er s' (I2.wish _) hq)
  | ok fl =>
    cases fl with
    | ret u =>
      obtain ⟨v, H', I3, rv, q3⟩ := I2.after hq
      show wpAny _ _ (handedOut u) _ _ _
      rw [PySem.W.handedOut_of (handed_of rv)]
      exact wpAny_pure ⟨v, H', I3, rv, q3⟩
    | next => exact False.elim hq
    | brk => exact False.elim hq
    | cont => exact False.elim hq
end

end L75
namespace L75
open PySem PySem.Spec PyProof.Rows L2
variable {gd : Bool}
local macro_rules | `(tactic| walk_at "y1") => `(tactic| with_reducible first
  | refine tSeq_i ?_ | refine tAsg_i ?_ | refine tCons_i ?_ | refine tNil_i ?_ | refine tC_i ?_ | refine tOp_i ?_ | refine tIfS_i ?_ | refine tTest_i ?_ | refine exBl_i ?_ | refine tRet_i ?_ | refine tCall_i ?_
  | refine tCB_i ?_ | refine tLst_i ?_ | refine tTup_i ?_ | refine rI0_i ?_ | refine tDrop_i ?_ | refine tNext_i ?_ | refine tB_i ?_ | refine tAnd_i ?_ | refine tOr_i ?_ | refine tNot_i ?_ | refine tAndV_i ?_ | refine tOrV_i ?_ | refine tNotV_i ?_
  | refine tIf_i ?_ | refine tUn_i ?_ | refine tDGet_i ?_ | refine sDPut_i ?_ | refine tFld_i ?_ | refine tRetN_i ?_ | refine tBreak_i ?_ | refine tCont_i ?_ | refine rU_i ?_)
local macro_rules | `(tactic| walk_at "yhead") => `(tactic| dsimp only [L2.start, List.map, List.length_cons, List.length_nil, Nat.reduceAdd, Nat.reduceSub, List.replicate, List.cons_append, List.nil_append])
local macro_rules | `(tactic| walk_at "y2") => `(tactic| first
  | walk_at "y1"
  | ((with_reducible refine tVar_i (v := ?v) ?h ?q); (case h => rfl))
  | ((with_reducible refine gName_i ?_); (dsimp only [List.set]))
  | ((with_reducible refine rEq_i ?h ?q); (case h => rfl)) | ((with_reducible refine rNe_i ?h ?q); (case h => rfl)))
local macro_rules | `(tactic| walk_at "y") => `(tactic| repeat walk_at "y2")

/-! readings of walks -/
/-- the object of a list (true) or a tuple (false) -/
def sq : Bool → List V → HO | true, xs => .lst xs | false, xs => .tup xs
def SqB (K : PySem.W.Frag) : Bool → Hp → Addr → List V → Prop | true, H, a, xs => SqL K H a xs | false, H, a, xs => SqT K H a xs
theorem SqB.of {K : PySem.W.Frag} : ∀ {b : Bool} {H : Hp} {a : Addr} {xs : List V}, H a = some (sq b xs) → SqB K b H a xs
  | true, _, _, _, h => SqL.of h
  | false, _, _, _, h => SqT.of h
def itB (K : PySem.W.Frag) : Bool → Addr → It | true, a => Itl K a | false, a => Itt K a
def iteB (K : PySem.W.Frag) : Bool → Addr → It | true, a => Ite K a | false, a => IteT K a
theorem walk_b {K : PySem.W.Frag} {a : Addr} {xs : List V} : ∀ {b : Bool}, Walk (itB K b a) xs.length (fun H => H a = some (sq b xs)) (YAt xs)
  | true => walk_list.mono (fun _ h => SqL.of h) fun _ _ _ _ _ _ y => y
  | false => walk_tup.mono (fun _ h => SqT.of h) fun _ _ _ _ _ _ y => y
theorem walk_eb {K : PySem.W.Frag} {a : Addr} {xs : List V} : ∀ {b : Bool}, Walk (iteB K b a) xs.length (fun H => H a = some (sq b xs)) (YPair (fun i => some (.int (i : Nat))) (fun i => xs[i]?))
  | true => walk_enum.mono (fun _ h => SqL.of h) fun _ _ _ _ _ _ y => y
  | false => walk_enumT.mono (fun _ h => SqT.of h) fun _ _ _ _ _ _ y => y
theorem same_upd {H : Hp} {p : Addr} {o : HO} (h : H p = none) : Same H (upd H p o) := fun b u e => by
  rw [upd_ne (ne_of_none e h)]; exact e
theorem same_pair {xs ys : Nat → Option V} {i : Nat} {H H' : Hp} {v : V} (y : YPair xs ys i H v H') : Same H H' := by
  obtain ⟨T, x, z, _, h, rfl, _⟩ := y
  exact same_upd h
section
variable {K : PySem.W.Frag} {σ : L2.St} {H : Hp} {D : Ends} {g : TG} {tb : TS} {te : TE} {ta : TA} {tt : TT} {vs : List Nat} {Q : VK} {J : It} {n : Nat} {G : Hp → Prop} {Y : Nat → Hp → V → Hp → Prop} {el : TE}
/-- what a for asks of its walk -/
abbrev ForR (J : It) (g : TG) (tb : TS) (D : Ends) (σ : L2.St) (H1 : Hp) : Prop := ∃ W : Nat → Nat → L2.St → Hp → Prop, (∃ m, W 0 m σ H1) ∧ ∀ i m σ H, W i m σ H →
  (J.stop i H ∧ D.nx σ H) ∨ (J.go i H ∧ ∃ N : L2.St → Hp → Prop, (∀ σ' H', N σ' H' → ∃ m', m' < m ∧ W (i + 1) m' σ' H') ∧ ∀ x H', J.yld i H x H' → g x σ H' fun σ2 H2 => tb { D with nx := N, ct := N, bk := D.nx } σ2 H2)
/-- what a comprehension asks of its walk -/
abbrev LcR (J : It) (g : TG) (tt : TT) (el : TE) (vs : List Nat) (σ : L2.St) (H1 : Hp) (Q : VK) : Prop := ∀ D, H1 D = none → ∃ W : Nat → Nat → Hp → Prop, (∃ m, W 0 m (upd H1 D (.lst []))) ∧ ∀ i m H, W i m H →
  (J.stop i H ∧ Q (.ref D) H) ∨ (J.go i H ∧ ∃ Nx : Hp → Prop, (∀ H', Nx H' → ∃ m', m' < m ∧ W (i + 1) m' H') ∧ ∀ x H', J.yld i H x H' → g x (wipe σ vs) H' fun σ2 H2 => wipe σ2 vs = wipe σ vs ∧ tt σ2 H2 fun b H3 =>
    if b = true then el σ2 H3 fun y H4 => ∃ acc, H4 D = some (.lst acc) ∧ acc.length < sizeLine ∧ Nx (upd H4 D (.lst (acc ++ [y]))) else Nx H3)
theorem for_b (b : Bool) (q : te σ H fun x H1 => ∃ a, x = .ref a ∧ (∃ xs, SqB K b H1 a xs) ∧ ForR (itB K b a) g tb D σ H1) : tFor (iAny K te) g tb D σ H := by
  cases b
  · exact .inr (.inl q)
  · exact .inl q
theorem for_eb (b : Bool) (q : te σ H fun x H1 => ∃ a xs, [x] = [.ref a] ∧ SqB K b H1 a xs ∧ ForR (iteB K b a) g tb D σ H1) : tFor (iEnum2 K te) g tb D σ H := by
  cases b
  · exact .inr q
  · exact .inl q
theorem for_s (q : te σ H fun x H1 => ∃ z, x = .str z ∧ ForR (Its z) g tb D σ H1) : tFor (iAny K te) g tb D σ H := .inr (.inr q)
theorem for_r1 (q : ta σ H fun us H1 => ∃ j : Int, us = [.int j] ∧ -(2 ^ 62) ≤ j ∧ j < 2 ^ 62 ∧ ForR (Itr 0 j.toNat) g tb D σ H1) : tFor (iRng1 ta) g tb D σ H := q
theorem lc_b (b : Bool) (q : te σ H fun x H1 => ∃ a, x = .ref a ∧ (∃ xs, SqB K b H1 a xs) ∧ LcR (itB K b a) g tt el vs σ H1 Q) : tLc (iAny K te) g tt el vs σ H Q := by
  cases b
  · exact .inr (.inl q)
  · exact .inl q
theorem lc_eb (b : Bool) (q : te σ H fun x H1 => ∃ a xs, [x] = [.ref a] ∧ SqB K b H1 a xs ∧ LcR (iteB K b a) g tt el vs σ H1 Q) : tLc (iEnum2 K te) g tt el vs σ H Q := by
  cases b
  · exact .inr q
  · exact .inl q
theorem lc_s (q : te σ H fun x H1 => ∃ z, x = .str z ∧ LcR (Its z) g tt el vs σ H1 Q) : tLc (iAny K te) g tt el vs σ H Q := .inr (.inr q)
theorem lc_r1 (q : ta σ H fun us H1 => ∃ j : Int, us = [.int j] ∧ -(2 ^ 62) ≤ j ∧ j < 2 ^ 62 ∧ LcR (Itr 0 j.toNat) g tt el vs σ H1 Q) : tLc (iRng1 ta) g tt el vs σ H Q := q
theorem lc_r2 (q : ta σ H fun us H1 => ∃ i j : Int, us = [.int i, .int j] ∧ (-(2 ^ 62) ≤ i ∧ i < 2 ^ 62 ∧ -(2 ^ 62) ≤ j ∧ j < 2 ^ 62) ∧ LcR (Itr i (j - i).toNat) g tt el vs σ H1 Q) : tLc (iRng2 ta) g tt el vs σ H Q := q
theorem paired_append {α β : Type} {F : α → β → Prop} : ∀ {xs : List α} {ys : List β} {us : List α} {ws : List β}, Paired F xs ys → Paired F us ws → Paired F (xs ++ us) (ys ++ ws)
  | _, _, _, _, .nil, s => s
  | _, _, _, _, .cons r t, s => .cons r (paired_append t s)
/-- all but the lists stays -/
def SameT (H H' : Hp) : Prop := ∀ b o, H b = some o → (∀ xs, o ≠ .lst xs) → H' b = some o
theorem sT {H H' : Hp} (s : Same H H') : SameT H H' := fun b o e _ => s b o e
theorem sameT_upd {H : Hp} {p : Addr} {xs : List V} {o : HO} (h : H p = some (.lst xs)) : SameT H (upd H p o) := fun b u e n => by
  rw [upd_ne (fun z => by rw [z, h] at e; exact n xs (Option.some.inj e).symm)]; exact e
/-- a reading of a value that leans on no list -/
def Firm {α : Type} (ρ : Hp → V → α → Prop) : Prop := ∀ H H' v a, SameT H H' → ρ H v a → ρ H' v a
theorem Firm.all {α : Type} {ρ : Hp → V → α → Prop} (f : Firm ρ) {H H' : Hp} (s : SameT H H') {vs : List V} {as : List α} (h : Paired (ρ H) vs as) : Paired (ρ H') vs as := h.mono fun v a r => f _ _ _ _ s r
/-- a comprehension whose turns leave all that stands: what it gives is told by f and ρ -/
theorem lc_pure {α : Type} (w : Walk J n G Y) (hn : n ≤ sizeLine) (f : Nat → Option α) {ρ : Hp → V → α → Prop} (hρ : Firm ρ) (hG : ∀ H', Same H H' → G H') (hY : ∀ i H x H', Y i H x H' → Same H H')
    (hs : ∀ i x H0 H', i < n → Same H H0 → Same H H' → Y i H0 x H' → ∀ (N : Hp → Prop) (C : VK), (∀ y H4 a, Same H' H4 → f i = some a → ρ H4 y a → C y H4) → (f i = none → ∀ H3, Same H' H3 → N H3) →
      g x (wipe σ vs) H' fun σ2 H2 => wipe σ2 vs = wipe σ vs ∧ tt σ2 H2 fun b H3 => if b = true then el σ2 H3 C else N H3)
    (hd : ∀ D H' vs, H D = none → Same H H' → H' D = some (.lst vs) → Paired (ρ H') vs ((List.range n).filterMap f) → Q (.ref D) H') :
    LcR J g tt el vs σ H Q := by
  intro D hD
  have up : ∀ {H' : Hp} {o : HO}, Same H H' → Same H (upd H' D o) := fun s b o e => by rw [upd_ne (ne_of_none e hD)]; exact s b o e
  refine lc_it w (Pv := fun i H' => Same H H' ∧ ∃ us, H' D = some (.lst us) ∧ Paired (ρ H') us ((List.range i).filterMap f)) ⟨up (Same.refl H), [], upd_same, .nil⟩ (fun i H' _ p => hG H' p.1) (fun i x H0 H' hi p y => ?_) fun H' p => ?_
  · obtain ⟨s0, us, hu, pr⟩ := p
    have sY := hY i H0 x H' y
    have s1 := s0.trans sY
    have lenU : us.length ≤ i := by
      rw [pr.length]
      exact Nat.le_trans (List.length_filterMap_le ..) (by simp)
    refine hs i x H0 H' hi s0 s1 y _ _ (fun v H4 a s4 fa ra => ?_) fun fn H3 s3 => ?_
    · have hu4 := s4 _ _ (sY _ _ hu)
      have sD : SameT H4 (upd H4 D (.lst (us ++ [v]))) := sameT_upd hu4
      refine ⟨us, hu4, by omega, up (s1.trans s4), us ++ [v], upd_same, ?_⟩
      rw [List.range_succ, List.filterMap_append]
      simp only [List.filterMap_cons, fa, List.filterMap_nil]
      exact paired_append (hρ.all sD (hρ.all (sT (sY.trans s4)) pr)) (.cons (hρ _ _ _ _ sD ra) .nil)
    · refine ⟨s1.trans s3, us, s3 _ _ (sY _ _ hu), ?_⟩
      rw [List.range_succ, List.filterMap_append]
      simp only [List.filterMap_cons, fn, List.filterMap_nil, List.append_nil]
      exact hρ.all (sT (sY.trans s3)) pr
  · obtain ⟨s0, us, hu, pr⟩ := p
    exact hd D H' us hD s0 hu pr
end
/-- the value itself -/
def FR {α : Type} (f : α → V) : Hp → V → α → Prop := fun _ v a => v = f a
theorem firm_FR {α : Type} (f : α → V) : Firm (FR f) := fun _ _ _ _ _ h => h
/-- a tuple that stands -/
def TR {α : Type} (f : α → List V) : Hp → V → α → Prop := fun H v a => ∃ p, v = .ref p ∧ H p = some (.tup (f a))
theorem firm_TR {α : Type} (f : α → List V) : Firm (TR f) := fun _ _ _ _ s h => let ⟨p, e, k⟩ := h; ⟨p, e, s _ _ k fun _ z => nomatch z⟩
theorem paired_FR {α : Type} {f : α → V} {H : Hp} : ∀ {vs : List V} {as : List α}, Paired (FR f H) vs as → vs = as.map f
  | _, _, .nil => rfl
  | _, _, .cons h t => by rw [paired_FR t, h]; rfl
theorem FR_paired {α : Type} {f : α → V} {H : Hp} : ∀ {as : List α}, Paired (FR f H) (as.map f) as
  | [] => .nil
  | _ :: _ => .cons rfl FR_paired
theorem paired_at {α β : Type} {F : α → β → Prop} : ∀ {xs : List α} {ys : List β}, Paired F xs ys → ∀ {i : Nat} {y : β}, ys[i]? = some y → ∃ x, xs[i]? = some x ∧ F x y
  | _, _, .nil, _, _, h => by simp at h
  | _, _, .cons r _, 0, _, h => by simp at h; subst h; exact ⟨_, rfl, r⟩
  | _, _, .cons _ t, i + 1, _, h => by
    obtain ⟨x, h1, h2⟩ := paired_at t (i := i) (by simpa using h)
    exact ⟨x, by simpa using h1, h2⟩
theorem paired_of {α β : Type} {F : α → β → Prop} {xs : List α} {ys : List β} (h : Paired F xs ys) {i : Nat} {x : α} (e : xs[i]? = some x) : ∃ y, ys[i]? = some y ∧ F x y := by
  have hl := h.length
  obtain ⟨hi, _⟩ := List.getElem?_eq_some_iff.mp e
  have h1 : i < ys.length := by omega
  obtain ⟨x', h2, h3⟩ := paired_at h (i := i) (y := ys[i]) (List.getElem?_eq_getElem h1)
  rw [e] at h2
  exact ⟨_, List.getElem?_eq_getElem h1, by rw [Option.some.inj h2]; exact h3⟩

end L75
namespace L75
open PySem PySem.Spec PyProof.Rows L2
variable {gd : Bool}
local macro_rules | `(tactic| walk_at "y1") => `(tactic| with_reducible first
  | refine tSeq_i ?_ | refine tAsg_i ?_ | refine tCons_i ?_ | refine tNil_i ?_ | refine tC_i ?_ | refine tOp_i ?_ | refine tIfS_i ?_ | refine tTest_i ?_ | refine exBl_i ?_ | refine tRet_i ?_ | refine tCall_i ?_
  | refine tCB_i ?_ | refine tLst_i ?_ | refine tTup_i ?_ | refine rI0_i ?_ | refine tDrop_i ?_ | refine tNext_i ?_ | refine tB_i ?_ | refine tAnd_i ?_ | refine tOr_i ?_ | refine tNot_i ?_ | refine tAndV_i ?_ | refine tOrV_i ?_ | refine tNotV_i ?_
  | refine tIf_i ?_ | refine tUn_i ?_ | refine tDGet_i ?_ | refine sDPut_i ?_ | refine tFld_i ?_ | refine tRetN_i ?_ | refine tBreak_i ?_ | refine tCont_i ?_ | refine rU_i ?_)
local macro_rules | `(tactic| walk_at "yhead") => `(tactic| dsimp only [L2.start, List.map, List.length_cons, List.length_nil, Nat.reduceAdd, Nat.reduceSub, List.replicate, List.cons_append, List.nil_append])
local macro_rules | `(tactic| walk_at "y2") => `(tactic| first
  | walk_at "y1"
  | ((with_reducible refine tVar_i (v := ?v) ?h ?q); (case h => rfl))
  | ((with_reducible refine gName_i ?_); (dsimp only [List.set]))
  | ((with_reducible refine rEq_i ?h ?q); (case h => rfl)) | ((with_reducible refine rNe_i ?h ?q); (case h => rfl)))
local macro_rules | `(tactic| walk_at "y") => `(tactic| repeat walk_at "y2")

/-! the readings of the operations by kinds -/
section
variable {K : PySem.W.Frag} {σ : L2.St} {H : Hp} {Q : VK} {x y v : V} {i j : Int} {p a : Addr} {xs ys : List V}
theorem rAdd2_i (q : Q (.int (i + j)) H) : rAdd2 K (.int i) (.int j) H Q := .inl ⟨i, j, rfl, rfl, q⟩
theorem rAdd2_l {zs : List V} {b : Addr} (h1 : H a = some (.lst xs)) (h2 : H b = some (.lst zs)) (hz : xs.length + zs.length ≤ sizeLine) (q : ∀ p, H p = none → Q (.ref p) (upd H p (.lst (xs ++ zs)))) : rAdd2 K (.ref a) (.ref b) H Q :=
  .inr (.inr (.inl ⟨a, b, xs, zs, rfl, rfl, h1, h2, hz, q⟩))
theorem rMul2_i (c : CMul i j) (q : Q (.int (i * j)) H) : rMul2 K (.int i) (.int j) H Q := .inl ⟨i, j, rfl, rfl, c, q⟩
theorem rEq2_s (h : scal x y = true) (q : Q (.bl (decide (x = y))) H) : rEq2 K x y H Q := .inl ⟨h, q⟩
theorem rNe2_s (h : scal x y = true) (q : Q (.bl (!decide (x = y))) H) : rNe2 K x y H Q := .inl ⟨h, q⟩
theorem rEq2_d {d e : PyData} (h1 : Dp K H x d) (h2 : Dp K H y e) (s1 : SeqAt.shaped d = true) (s2 : SeqAt.shaped e = true) (q : Q (.bl (PyData.eqv d e)) H) : rEq2 K x y H Q := .inr ⟨d, e, h1, h2, s1, s2, q⟩
theorem rNe2_d {d e : PyData} (h1 : Dp K H x d) (h2 : Dp K H y e) (s1 : SeqAt.shaped d = true) (s2 : SeqAt.shaped e = true) (q : Q (.bl (!PyData.eqv d e)) H) : rNe2 K x y H Q := .inr ⟨d, e, h1, h2, s1, s2, q⟩
theorem rEq2_i (q : Q (.bl (decide (i = j))) H) : rEq2 K (.int i) (.int j) H Q := .inl ⟨rfl, by rw [show decide (V.int i = V.int j) = decide (i = j) by simp]; exact q⟩
theorem rEq2_ss {s t : Str} (q : Q (.bl (decide (s = t))) H) : rEq2 K (.str s) (.str t) H Q := .inl ⟨rfl, by rw [show decide (V.str s = V.str t) = decide (s = t) by simp]; exact q⟩
theorem rNe2_i (q : Q (.bl (!decide (i = j))) H) : rNe2 K (.int i) (.int j) H Q := .inl ⟨rfl, by rw [show decide (V.int i = V.int j) = decide (i = j) by simp]; exact q⟩
theorem rNe2_ss {s t : Str} (q : Q (.bl (!decide (s = t))) H) : rNe2 K (.str s) (.str t) H Q := .inl ⟨rfl, by rw [show decide (V.str s = V.str t) = decide (s = t) by simp]; exact q⟩
def rIsN : R2 := fun x y H Q => y = .non ∧ Q (.bl (decide (x = .non))) H
def rNotN : R2 := fun x y H Q => y = .non ∧ Q (.bl (!decide (x = .non))) H
theorem rIsN_i (q : Q (.bl (decide (x = .non))) H) : rIsN x .non H Q := ⟨rfl, q⟩
theorem rNotN_i (q : Q (.bl (!decide (x = .non))) H) : rNotN x .non H Q := ⟨rfl, q⟩
theorem rLe2_i (q : Q (.bl (decide (i ≤ j))) H) : rLe2 (.int i) (.int j) H Q := .inl ⟨i, j, rfl, rfl, q⟩
theorem rLe2_s {s t : Str} (q : Q (.bl (!decide (t.cps.toList < s.cps.toList))) H) : rLe2 (.str s) (.str t) H Q := .inr ⟨s, t, rfl, rfl, q⟩
theorem iteNT {A B : Prop} (h : B) : if (!true) = true then A else B := by rw [if_neg (by decide)]; exact h
theorem iteNF {A B : Prop} (h : A) : if (!false) = true then A else B := by rw [if_pos (by decide)]; exact h
theorem iteDT {p A B : Prop} [Decidable p] (h : p) (q : A) : if decide p = true then A else B := by rw [if_pos (decide_eq_true h)]; exact q
theorem iteDF {p A B : Prop} [Decidable p] (h : ¬ p) (q : B) : if decide p = true then A else B := by rw [if_neg (by rw [decide_eq_false h]; decide)]; exact q
theorem iteNDT {p A B : Prop} [Decidable p] (h : p) (q : B) : if (!decide p) = true then A else B := by rw [if_neg (by rw [decide_eq_true h]; decide)]; exact q
theorem iteNDF {p A B : Prop} [Decidable p] (h : ¬ p) (q : A) : if (!decide p) = true then A else B := by rw [if_pos (by rw [decide_eq_false h]; rfl)]; exact q
theorem le1 {a b : Nat} : (!decide (([b] : List Nat) < [a])) = decide (a ≤ b) := by
  by_cases h : a ≤ b
  · rw [decide_eq_true h]
    have : ¬ (([b] : List Nat) < [a]) := by simp [List.cons_lt_cons_iff]; omega
    simp [this]
  · rw [decide_eq_false h]
    have : (([b] : List Nat) < [a]) := by simp [List.cons_lt_cons_iff]; omega
    simp [this]
theorem rLe2_c1 {s : Str} {n c : Nat} (h : s.cps.toList = [n]) (q : Q (.bl (decide (n ≤ c))) H) : rLe2 (.str s) (.str ⟨#[c]⟩) H Q := rLe2_s (by rw [h]; rw [← le1] at q; exact q)
theorem rLe2_c2 {s : Str} {n c : Nat} (h : s.cps.toList = [n]) (q : Q (.bl (decide (c ≤ n))) H) : rLe2 (.str ⟨#[c]⟩) (.str s) H Q := rLe2_s (by rw [h]; rw [← le1] at q; exact q)
theorem rGet_l {n : Nat} {k : Int} (h : SqL K H a xs) (e : xs[n]? = some v) (q : Q v H) (hk : k = n := by rfl) : rGet K (.ref a) (.int k) H Q := by
  subst hk
  exact .inl (.inl ⟨a, xs, n, v, rfl, rfl, h, atI_nat e, q⟩)
theorem rGet_t {n : Nat} {k : Int} (h : SqT K H a xs) (e : xs[n]? = some v) (q : Q v H) (hk : k = n := by rfl) : rGet K (.ref a) (.int k) H Q := by
  subst hk
  exact .inl (.inr (.inl ⟨a, xs, n, v, rfl, rfl, h, atI_nat e, q⟩))
theorem rGet_b {b : Bool} {n : Nat} {k : Int} (h : SqB K b H a xs) (e : xs[n]? = some v) (q : Q v H) (hk : k = n := by rfl) : rGet K (.ref a) (.int k) H Q := by
  cases b
  · exact rGet_t h e q hk
  · exact rGet_l h e q hk
theorem rGet_at {k : Int} (h : SqL K H a xs) (e : atI xs k = some v) (q : Q v H) : rGet K (.ref a) (.int k) H Q := .inl (.inl ⟨a, xs, k, v, rfl, rfl, h, e, q⟩)
theorem rGet_s {s : Str} {n : Nat} {k : Int} {c : Nat} (hz : s.length ≤ sizeLine) (e : s.cps.toList[n]? = some c) (q : Q (.str ⟨#[c]⟩) H) (hk : k = n := by rfl) : rGet K (.str s) (.int k) H Q := by
  subst hk
  exact .inl (.inr (.inr ⟨s, n, c, rfl, rfl, hz, atI_nat e, q⟩))
theorem rGet_d {kvs : List (Key × V)} {k : Key} (h : H a = some (.dK kvs)) (e : valV kvs k = some v) (q : Q v H) (hy : y = kV k := by rfl) : rGet K (.ref a) y H Q :=
  .inr ⟨a, v, rfl, by rw [hy, ← e]; exact DGet.k h, q⟩
theorem rIn2_f {b : Bool} (h : SqB K b H p xs) (fx : flatV x = true) (f : xs.all flatV = true) (q : Q (.bl (inV x xs)) H) : rIn2 K x (.ref p) H Q :=
  .inl ⟨p, xs, rfl, by cases b; exact .inr h; exact .inl h, fx, f, q⟩
theorem rNotIn2_f {b : Bool} (h : SqB K b H p xs) (fx : flatV x = true) (f : xs.all flatV = true) (q : Q (.bl (!inV x xs)) H) : rNotIn2 K x (.ref p) H Q :=
  .inl ⟨p, xs, rfl, by cases b; exact .inr h; exact .inl h, fx, f, q⟩
theorem rNotIn2_d {d : PyData} {ds : List PyData} (h1 : Dp K H x d) (h2 : Dp K H y (.list ds)) (s1 : SeqAt.shaped d = true) (s2 : SeqAt.shaped (.list ds) = true) (q : Q (.bl (!ds.any fun z => PyData.eqv z d)) H) : rNotIn2 K x y H Q :=
  .inr (.inl ⟨d, ds, h1, h2, s1, s2, q⟩)
theorem rLen2_b {b : Bool} (h : SqB K b H p xs) (q : Q (.int xs.length) H) : rLen2 K [.ref p] H Q :=
  ⟨.ref p, xs.length, rfl, by cases b; exact .inr ⟨xs, h, rfl⟩; exact .inl ⟨xs, h, rfl⟩, q⟩
theorem rLen2_l {n : Nat} (h : SqL K H p xs) (q : Q (.int n) H) (hn : xs.length = n := by rfl) : rLen2 K [.ref p] H Q := by subst hn; exact rLen2_b (b := true) h q
theorem rLen2_t {n : Nat} (h : SqT K H p xs) (q : Q (.int n) H) (hn : xs.length = n := by rfl) : rLen2 K [.ref p] H Q := by subst hn; exact rLen2_b (b := false) h q
theorem rLen2_s {s : Str} (hz : s.length ≤ sizeLine) (q : Q (.int s.length) H) : rLen2 K [.str s] H Q := ⟨.str s, s.length, rfl, ⟨hz, rfl⟩, q⟩
/-- isinstance of a value of a built-in type -/
theorem rIsi2_1 {T U : String} {b : Bool} (ty : TyX K H x (.type T)) (h : kitB T U = some b) (q : Q (.bl b) H) : rIsi2 K [x, .ty U] H Q := .inl ⟨x, .ty U, .type T, .type U, b, rfl, .ty U, ty, kit_ty h, q⟩
theorem rIsi2_2 {T U U2 : String} {b b2 : Bool} (ty : TyX K H x (.type T)) (hp : H p = some (.tup [.ty U, .ty U2])) (h : kitB T U = some b) (h2 : kitB T U2 = some b2) (q : Q (.bl (b || b2)) H) : rIsi2 K [x, .ref p] H Q :=
  .inr ⟨x, p, [.ty U, .ty U2], .type T, [.type U, .type U2], b || b2, rfl, hp, .cons (.ty U) (.cons (.ty U2) .nil), ty,
    kitAny_cons (kit_ty h) (fun e => by rw [e, Bool.false_or]; exact kitAny_cons (kit_ty h2) (fun e2 => by rw [e2]; exact kitAny_nil) (fun e2 => e2)) (fun e => by rw [e, Bool.true_or]), q⟩
theorem ty_str {s : Str} : TyX K H (.str s) (.type "str") := .base (.str s)
theorem ty_int {i : Int} : TyX K H (.int i) (.type "int") := .base (.int i)
theorem ty_bl {b : Bool} : TyX K H (.bl b) (.type "bool") := .base (.bl b)
theorem ty_non : TyX K H .non (.type "NoneType") := .base .non
theorem ty_lst (h : H a = some (.lst xs)) : TyX K H (.ref a) (.type "list") := .base (.lst h)
theorem ty_tup (h : H a = some (.tup xs)) : TyX K H (.ref a) (.type "tuple") := .base (.tup h)
theorem tTup_i2 {tl : TA} (q : tl σ H fun xs H1 => xs.length ≤ sizeLine ∧ ∀ p, H1 p = none → Q (.ref p) (upd H1 p (.tup xs))) : tTup tl σ H Q := q
/-- a chain of two comparisons -/
theorem gCons_i {t : TG} {u : TGs} {r : List V} {Q : L2.St → Hp → Prop} (q : t v σ H fun σ' H' => u r σ' H' Q) : gCons t u (v :: r) σ H Q := ⟨v, r, rfl, q⟩
theorem gNil_i {Q : L2.St → Hp → Prop} (q : Q σ H) : gNil [] σ H Q := ⟨rfl, q⟩
theorem gTup_i {n : Nat} {t : TGs} {Q : L2.St → Hp → Prop} (h : SqT K H a xs) (q : t xs σ H Q) (hn : xs.length = n := by rfl) : gTup K n t (.ref a) σ H Q := ⟨a, xs, rfl, h, hn, q⟩
theorem gStar_i {n i : Nat} {t : TGs} {Q : L2.St → Hp → Prop} (h : SqT K H a xs) (hn : n ≤ xs.length + 1) (q : ∀ d, H d = none → t (xs.take i ++ V.ref d :: (xs.drop i).drop (xs.length + 1 - n)) σ (upd H d (.lst ((xs.drop i).take (xs.length + 1 - n)))) Q) : gStar K n i t (.ref a) σ H Q := ⟨a, xs, rfl, h, hn, q⟩
theorem gStar_2 {x : V} {r : List V} {t : TGs} {Q : L2.St → Hp → Prop} (h : SqT K H a (x :: r)) (q : ∀ d, H d = none → t [x, .ref d] σ (upd H d (.lst r)) Q) : gStar K 2 1 t (.ref a) σ H Q :=
  ⟨a, _, rfl, h, by simp, fun d hd => by simpa using q d hd⟩
theorem gStar_3 {x y : V} {r : List V} {t : TGs} {Q : L2.St → Hp → Prop} (h : SqT K H a (x :: y :: r)) (q : ∀ d, H d = none → t [x, y, .ref d] σ (upd H d (.lst r)) Q) : gStar K 3 2 t (.ref a) σ H Q :=
  ⟨a, _, rfl, h, by simp, fun d hd => by simpa using q d hd⟩
theorem nv1 {i : Int} : ¬ (V.int i = V.non) := fun z => nomatch z
theorem nv2 {i : Str} : ¬ (V.str i = V.non) := fun z => nomatch z
theorem nv3 {i : Addr} : ¬ (V.ref i = V.non) := fun z => nomatch z
theorem nv4 {i : Bool} : ¬ (V.bl i = V.non) := fun z => nomatch z
theorem ltB {n m : Nat} (h : Nat.blt n m = true) : n < m := Nat.blt_eq.mp h
theorem sFld_i {tv ta : TE} {f : Str} {D : Ends} (q : tv σ H fun y H1 => ta σ H1 fun x H2 => ∃ a C dx fs, x = .ref a ∧ H2 a = some (.ins C dx fs) ∧ Cls K C ∧ NoAttr K C f ∧ fs.length < 1000 ∧ D.nx σ (upd H2 a (.ins C dx (putF f y fs)))) : sFld K ta tv f D σ H := q
theorem fst_i {N : L2.St → Hp → Prop} {f : Str} {C dx : Addr} {fs : List (Str × V)} (h : H a = some (.ins C dx fs)) (c : Cls K C) (n : NoAttr K C f) (hl : fs.length < 1000) (q : N σ (upd H a (.ins C dx (putF f y fs)))) :
    ∃ a' C dx fs, V.ref a = .ref a' ∧ H a' = some (.ins C dx fs) ∧ Cls K C ∧ NoAttr K C f ∧ fs.length < 1000 ∧ N σ (upd H a' (.ins C dx (putF f y fs))) := ⟨a, C, dx, fs, rfl, h, c, n, hl, q⟩
theorem fldaug_i {ta tv : TE} {f : Str} {D : Ends} {rd : V → V → Hp → VK → Prop} (q : ta σ H fun x H1 => ∃ a C dx fs v, x = .ref a ∧ H1 a = some (.ins C dx fs) ∧ Cls K C ∧ NoAttr K C f ∧ fs.lookup f = some v ∧
  tv σ H1 fun y H2 => rd v y H2 fun z H3 => ∃ dx' fs', H3 a = some (.ins C dx' fs') ∧ fs'.length < 1000 ∧ D.nx σ (upd H3 a (.ins C dx' (putF f z fs')))) : sFldAug K ta tv rd f D σ H := q
/-- e.f += an int, the field an int -/
theorem faug_i {N : L2.St → Hp → Prop} {tv : TE} {f : Str} {C dx : Addr} {fs : List (Str × V)} {k : Int} (h : H a = some (.ins C dx fs)) (c : Cls K C) (n : NoAttr K C f) (hl : fs.length < 1000) (e : fs.lookup f = some (.int k)) (q : tv σ H fun y H2 => ∃ j, y = .int j ∧ H2 = H ∧ N σ (upd H a (.ins C dx (putF f (.int (k + j)) fs))))
    (mono : ∀ {A B : VK}, (∀ v H, A v H → B v H) → tv σ H A → tv σ H B) :
    ∃ a' C dx fs v, V.ref a = .ref a' ∧ H a' = some (.ins C dx fs) ∧ Cls K C ∧ NoAttr K C f ∧ fs.lookup f = some v ∧ tv σ H fun y H2 => rAdd v y H2 fun z H3 => ∃ dx' fs', H3 a' = some (.ins C dx' fs') ∧ fs'.length < 1000 ∧ N σ (upd H3 a' (.ins C dx' (putF f z fs'))) :=
  ⟨a, C, dx, fs, _, rfl, h, c, n, e, mono (fun y H2 ⟨j, ey, eH, q⟩ => by subst ey eH; exact ⟨k, j, rfl, rfl, dx, fs, h, hl, q⟩) q⟩
/-- e.f += a written int -/
theorem faugC_i {N : L2.St → Hp → Prop} {f : Str} {C dx : Addr} {fs : List (Str × V)} {k : Int} (h : H a = some (.ins C dx fs)) (c : Cls K C) (n : NoAttr K C f) (hl : fs.length < 1000) (e : fs.lookup f = some (.int k)) (q : N σ (upd H a (.ins C dx (putF f (.int (k + j)) fs)))) :
    ∃ a' C dx fs v, V.ref a = .ref a' ∧ H a' = some (.ins C dx fs) ∧ Cls K C ∧ NoAttr K C f ∧ fs.lookup f = some v ∧ tC (.int j) σ H fun y H2 => rAdd v y H2 fun z H3 => ∃ dx' fs', H3 a' = some (.ins C dx' fs') ∧ fs'.length < 1000 ∧ N σ (upd H3 a' (.ins C dx' (putF f z fs'))) :=
  ⟨a, C, dx, fs, _, rfl, h, c, n, e, k, j, rfl, rfl, dx, fs, h, hl, q⟩
/-- the same, the heap behind it told by what stands there -/
theorem fld_j {N : V → Prop} {f : Str} {C dx : Addr} {fs : List (Str × V)} (h : H a = some (.ins C dx fs)) (c : Cls K C) (n : NoAttr K C f) (e : fs.lookup f = some v) (q : N v) :
    ∃ (a' C dx : Addr) (fs : List (Str × V)) (v : V), V.ref a = .ref a' ∧ H a' = some (.ins C dx fs) ∧ Cls K C ∧ NoAttr K C f ∧ fs.lookup f = some v ∧ N v := ⟨a, C, dx, fs, v, rfl, h, c, n, e, q⟩
theorem fstU_i {N : L2.St → Hp → Prop} {f : Str} {C dx : Addr} {fs fs' : List (Str × V)} (h : H a = some (.ins C dx fs)) (c : Cls K C) (n : NoAttr K C f) (hl : fs.length < 1000) (e : putF f y fs = fs') (q : ∀ H2, H2 a = some (.ins C dx fs') → (∀ b, b ≠ a → H2 b = H b) → N σ H2) :
    ∃ a' C dx fs, V.ref a = .ref a' ∧ H a' = some (.ins C dx fs) ∧ Cls K C ∧ NoAttr K C f ∧ fs.length < 1000 ∧ N σ (upd H a' (.ins C dx (putF f y fs))) := ⟨a, C, dx, fs, rfl, h, c, n, hl, q _ (by rw [upd_same, e]) fun b nb => upd_ne nb⟩
theorem faugU_i {N : L2.St → Hp → Prop} {f : Str} {C dx : Addr} {fs fs' : List (Str × V)} {k : Int} (h : H a = some (.ins C dx fs)) (c : Cls K C) (n : NoAttr K C f) (hl : fs.length < 1000) (e : fs.lookup f = some (.int k)) (e2 : putF f (.int (k + j)) fs = fs') (q : ∀ H2, H2 a = some (.ins C dx fs') → (∀ b, b ≠ a → H2 b = H b) → N σ H2) :
    ∃ a' C dx fs v, V.ref a = .ref a' ∧ H a' = some (.ins C dx fs) ∧ Cls K C ∧ NoAttr K C f ∧ fs.lookup f = some v ∧ tC (.int j) σ H fun y H2 => rAdd v y H2 fun z H3 => ∃ dx' fs', H3 a' = some (.ins C dx' fs') ∧ fs'.length < 1000 ∧ N σ (upd H3 a' (.ins C dx' (putF f z fs'))) :=
  ⟨a, C, dx, fs, _, rfl, h, c, n, e, k, j, rfl, rfl, dx, fs, h, hl, q _ (by rw [upd_same, e2]) fun b nb => upd_ne nb⟩
theorem gStar_2U {x : V} {r : List V} {t : TGs} {Q : L2.St → Hp → Prop} (h : SqT K H a (x :: r)) (q : ∀ d H2, H d = none → H2 d = some (.lst r) → Same H H2 → t [x, .ref d] σ H2 Q) : gStar K 2 1 t (.ref a) σ H Q :=
  gStar_2 h fun d hd => q d _ hd upd_same (same_upd hd)
theorem gStar_3U {x y : V} {r : List V} {t : TGs} {Q : L2.St → Hp → Prop} (h : SqT K H a (x :: y :: r)) (q : ∀ d H2, H d = none → H2 d = some (.lst r) → Same H H2 → t [x, y, .ref d] σ H2 Q) : gStar K 3 2 t (.ref a) σ H Q :=
  gStar_3 h fun d hd => q d _ hd upd_same (same_upd hd)
/-- something new -/
theorem newU {n : Nat} {o : HO} (q : ∀ d H2, H d = none → H2 d = some o → Same H H2 → Q (.ref d) H2) (hn : n ≤ 1000 := by decide) : n ≤ sizeLine ∧ ∀ p, H p = none → Q (.ref p) (upd H p o) := ⟨sz4 hn, fun p hp => q p _ hp upd_same (same_upd hp)⟩
theorem tMake_i {C : Addr} {sp : Sp} {dvs : List V} {E : XK} {t : TA} (q : t σ H fun vs H1 => ∀ x dx, H1 x = none → H1 dx = none → dx ≠ x → sp (.ref x :: (vs ++ dvs)) (upd (upd H1 dx (.own x)) x (.ins C dx [])) (fun v H2 => v = .non ∧ Q (.ref x) H2) E) : tMake C sp dvs E t σ H Q := q
theorem tProp_i {C : Addr} {sp : Sp} {dvs : List V} {E : XK} {ta : TE} (q : ta σ H fun x H1 => ∃ a dx fs, x = .ref a ∧ H1 a = some (.ins C dx fs) ∧ sp (.ref a :: dvs) H1 Q E) : tProp C sp dvs E ta σ H Q := q
theorem tCallOG_i {C : Addr} {sp : Sp} {E : XK} {tf : TE} {t : TA} (q : tf σ H fun y H1 => ∃ a, y = V.ref a ∧ t σ H1 fun vs H2 => (∃ dx fs, H2 a = some (.ins C dx fs)) ∧ sp (V.ref a :: vs) H2 Q E) : tCallOG C sp E tf t σ H Q := q
theorem tYes_i {Q : Bool → Hp → Prop} (q : Q true H) : tYes σ H Q := q
theorem tChain_i {r r' : R2} {ta tb tc : TE} (q : ta σ H fun x H1 => tb σ H1 fun y H2 => r x y H2 fun z H3 => ∃ k, z = .bl k ∧ if k = true then tc σ H3 fun u H4 => r' y u H4 Q else Q (.bl false) H3) : tChain r r' ta tb tc σ H Q := q
theorem tBM_i {T : String} {r : V → List V → Hp → VK → Prop} {to : TE} {t : TA} (q : to σ H fun x H1 => tyV K T x H1 ∧ t σ H1 fun xs H2 => r x xs H2 Q) : tBM K T r to t σ H Q := q
theorem app_i (h : H a = some (.lst xs)) (hz : xs.length < sizeLine) (q : Q .non (upd H a (.lst (xs ++ [y])))) : rAppend (.ref a) [y] H Q := ⟨a, xs, y, rfl, rfl, h, hz, q⟩
theorem appU_i (h : H a = some (.lst xs)) (hz : xs.length < sizeLine) (q : ∀ H2, H2 a = some (.lst (xs ++ [y])) → (∀ b, b ≠ a → H2 b = H b) → Q .non H2) : rAppend (.ref a) [y] H Q := app_i h hz (q _ upd_same fun b nb => upd_ne nb)
theorem tyL (h : H a = some (.lst xs)) : tyV K "list" (.ref a) H := .inl ⟨rfl, _, SqL.of h⟩
theorem SqB.same {b : Bool} {H' : Hp} (h : SqB K b H p xs) (s : Same H H') : SqB K b H' p xs := by
  cases b
  · rcases (show SqT K H p xs from h) with (h | ⟨o, h⟩) | h
    · exact .inl (.inl (s _ _ h))
    · exact .inl (.inr ⟨o, s _ _ h⟩)
    · exact .inr h
  · exact Same.seq s (show SqL K H p xs from h)
theorem SqT.frz {o : Obj} (h : H p = some (.frz o (.tup xs))) : SqT K H p xs := .inl (.inr ⟨o, h⟩)
/-- tuple(a list): the new one's object told -/
def rTupF (K : PySem.W.Frag) : List V → Hp → VK → Prop := fun xs H Q => ∃ p ys, xs = [.ref p] ∧ SqL K H p ys ∧ ∀ l o, H l = none → o.cls = .type "tuple" → o.dict = none → Q (.ref l) (upd H l (.frz o (.tup ys)))
end
section
variable {X : Cx}
theorem call_tupF : CallR X (.type "tuple") (rTupF X.K) := by
  intro pins s σ H xs us Q I r h
  obtain ⟨p, ys, rfl, hq, q⟩ := h
  obtain ⟨u, rfl, rx⟩ := vals1 r
  cases rx
  obtain ⟨its, r', pl, hz⟩ := I.list hq
  have hlen := r'.length
  refine call_tuple_list pl.isList (fun h' kp => ?_) (by simp only [List.size_toArray] <;> omega)
  have I1 : Inv X pins σ H { s with heap := h' } := I.kept (t' := s.toks) kp
  have I2 : Inv X pins σ (upd H h'.objs.size (.frz { cls := .type "tuple", data := .seq its.toArray } (.tup ys))) { s with heap := h'.push { cls := .type "tuple", data := .seq its.toArray } } :=
    I1.laid (t' := s.toks) (fun b o e => Heap.get?_push_of_some _ e) (Nat.le_refl _) (show ObjOk X.prog X.w _ _ _ (.frz _ (.tup ys)) from ⟨Heap.get?_push_size _ rfl, hz, its, r', IsTup.new _ _⟩)
  exact ⟨.ref h'.objs.size, _, I2, rfl, q _ _ (I1.hok.fresh (Nat.le_refl _)) rfl rfl⟩
/-- t.m(e), t a tuple whose object is told -/
def tTM (K : PySem.W.Frag) (r : V → List V → Hp → VK → Prop) (to : TE) (t : TA) : TE := fun σ H Q => to σ H fun x H1 => (∃ a o xs, x = .ref a ∧ H1 a = some (.frz o (.tup xs)) ∧ o.cls = .type "tuple" ∧ o.dict = none) ∧ t σ H1 fun xs H2 => r x xs H2 Q
theorem pe_tm {o e : Expr} {es : List Expr} {to : TE} {t : TA} {name : Str} {apos cpos : Pos} {id : String} {r : V → List V → Hp → VK → Prop} (slot : Slot "tuple" name id) (hty : typeOf (.builtin id) = pure (.type "method_descriptor")) (hm : MtR X id r) (ho : PE X o to) (ha : PA X (e :: es) t)
    (hbase : attributeBase o name X.env (eval o X.env) = eval o X.env := by rfl)
    (hfew : ((backTo cpos (starEach (e :: es) X.env)).all (fun x => !x.1) && (backToKw cpos (keywordEach [] X.env)).all (fun x => x.1.isSome)
      && decide ((e :: es).length + ([] : List Keyword).length + (if ([] : List Keyword).isEmpty then 0 else 1) < 30)) = true := by rfl)
    (hline : (apos.endLine == cpos.line) = true := by rfl) (hs : starEach (e :: es) X.env = (false, eval e X.env) :: starEach es X.env := by rfl) (hplain : (backTo cpos (starEach es X.env)).any (·.1) = false := by rfl) :
    PE X (.Call (.Attribute o name apos) (e :: es) [] cpos) (tTM X.K r to t) := by
  refine ⟨fun pins s σ H Q I h => ?_⟩
  refine wpAny_Call_method_late hbase hfew hline rfl (thn (ho.run pins s σ H _ I h) fun v s1 ⟨x, H1, I1, r1, ty, q1⟩ => ?_)
  obtain ⟨a, ob, ys, rfl, hx, hc, hd⟩ := ty
  cases (show v = Value.ref a from r1)
  obtain ⟨hg, _⟩ := (show ObjOk X.prog X.w H1 s1.heap a (.frz ob (.tup ys)) from I1.hok a _ hx)
  refine ⟨"tuple", id, PySem.F.plainAttrs_tuple, slot, hty, ⟨ob, hg, hc⟩, fun b e => by cases e; exact ⟨ob, hg, hd⟩, ?_⟩
  have hA := ha.run cpos pins s1 σ H1 _ I1 q1
  rw [hs] at hA ⊢
  refine Calls.callWith_builtin (by show (false || (backTo cpos (starEach es X.env)).any (·.1)) = false; rw [hplain] <;> rfl) (Calls.evalArgs_plain ?_)
  exact thn hA fun us s2 ⟨vs, H2, I2, r2, q2⟩ => hm pins s2 σ H2 (.ref a) vs (.ref a) us Q I2 rfl r2 q2
end
/-! the rules with the written part named -/
section
variable {X : Cx} {K : PySem.W.Frag} {e o : Expr} {es : List Expr} {ta to te : TE} {t : TA} {f : Str} {pos p tpos : Pos} {tg : Expr} {elts : List Expr} {kk : Nat}
theorem pe_fldK (hK : X.K = K) (he : PE X e ta) (hb : attributeBase e f X.env (eval e X.env) = eval e X.env := by rfl) : PE X (.Attribute e f pos) (tFld K ta f) := by subst hK; exact pe_fld he hb
theorem pi_anyK (hK : X.K = K) (he : PE X e te) : PI X tg e (iAny K te) := by subst hK; exact pi_any he
theorem pi_enum2K (hK : X.K = K) (hg : Gl X "enumerate") (hm : X.mg "enumerate" = none) (he : PE X e te) (ha : starEach [e] X.env = [(false, eval e X.env)] := by rfl) :
    PI X (.Tuple elts kk tpos) (.Call (.Name "enumerate" p) [e] [] pos) (iEnum2 K te) := by subst hK; exact pi_enum2 hg hm he ha
theorem pg_tupK {es : List Expr} {k : Nat} {t : TGs} {n : Nat} (hK : X.K = K) (hc : X.calm = true) (h : PGs X es t) (hn : (assignEach es X.env).length = n := by rfl) (hst : (assignEach es X.env).findIdx? (·.1) = none := by rfl) : PG X (.Tuple es k pos) (gTup K n t) := by
  subst hK
  exact pg_tup hc h hn hst
theorem pg_starK {es : List Expr} {k : Nat} {n i : Nat} {t : TGs} (hK : X.K = K) (hc : X.calm = true) (h : PGs X es t) (hn : (assignEach es X.env).length = n) (hst : (assignEach es X.env).findIdx? (·.1) = some i) (hi : i < n) : PG X (.Tuple es k pos) (gStar K n i t) := by
  subst hK
  exact pg_star hc h hn hst hi
theorem ps_fldK {value : Expr} {pos' : Pos} {tv : TE} (hK : X.K = K) (ha : PE X o ta) (hv : PE X value tv) (hs : swapsWith value (some (.Attribute o f pos')) pos.line X.env = pure false := by rfl) : PS X (.Assign [.Attribute o f pos'] value pos) (sFld K ta tv f) := by
  subst hK
  exact ps_fld ha hv hs
theorem ps_fldaugK {value : Expr} {tv : TE} (hK : X.K = K) (ha : PE X o ta) (hv : PE X value tv) : PS X (.AugAssign (.Attribute o f tpos) .Add value pos) (sFldAug K ta tv rAdd f) := by
  subst hK
  exact ps_fldaug ha hv in_add
theorem pe_bmK {name : Str} {apos cpos : Pos} {T id : String} {r : V → List V → Hp → VK → Prop} (hK : X.K = K) (pa : PlainAttrs T) (slot : Slot T name id) (hty : typeOf (.builtin id) = pure (.type "method_descriptor")) (hm : MtR X id r) (ho : PE X o to) (ha : PA X (e :: es) t)
    (hbase : attributeBase o name X.env (eval o X.env) = eval o X.env := by rfl)
    (hfew : ((backTo cpos (starEach (e :: es) X.env)).all (fun x => !x.1) && (backToKw cpos (keywordEach [] X.env)).all (fun x => x.1.isSome)
      && decide ((e :: es).length + ([] : List Keyword).length + (if ([] : List Keyword).isEmpty then 0 else 1) < 30)) = true := by rfl)
    (hline : (apos.endLine == cpos.line) = true := by rfl) (hs : starEach (e :: es) X.env = (false, eval e X.env) :: starEach es X.env := by rfl) (hplain : (backTo cpos (starEach es X.env)).any (·.1) = false := by rfl) :
    PE X (.Call (.Attribute o name apos) (e :: es) [] cpos) (tBM K T r to t) := by
  subst hK
  exact pe_bm pa slot hty hm ho ha hbase hfew hline hs hplain
def rListOf (K : PySem.W.Frag) : List V → Hp → VK → Prop := fun xs H Q => ∃ p ys, xs = [.ref p] ∧ (SqL K H p ys ∨ SqT K H p ys) ∧ ∀ l, H l = none → Q (.ref l) (upd H l (.lst ys))
theorem call_listOf : CallR X (.type "list") (rListOf X.K) := call_list_of
end

end L75
namespace L75
open PySem PySem.Spec PyProof.Rows L2
variable {gd : Bool}
local macro_rules | `(tactic| walk_at "y1") => `(tactic| with_reducible first
  | refine tSeq_i ?_ | refine tAsg_i ?_ | refine tCons_i ?_ | refine tNil_i ?_ | refine tC_i ?_ | refine tOp_i ?_ | refine tIfS_i ?_ | refine tTest_i ?_ | refine exBl_i ?_ | refine tRet_i ?_ | refine tCall_i ?_
  | refine tCB_i ?_ | refine tLst_i ?_ | refine tTup_i ?_ | refine rI0_i ?_ | refine tDrop_i ?_ | refine tNext_i ?_ | refine tB_i ?_ | refine tAnd_i ?_ | refine tOr_i ?_ | refine tNot_i ?_ | refine tAndV_i ?_ | refine tOrV_i ?_ | refine tNotV_i ?_
  | refine tIf_i ?_ | refine tUn_i ?_ | refine tDGet_i ?_ | refine sDPut_i ?_ | refine tFld_i ?_ | refine tRetN_i ?_ | refine tBreak_i ?_ | refine tCont_i ?_ | refine rU_i ?_)
local macro_rules | `(tactic| walk_at "yhead") => `(tactic| dsimp only [L2.start, List.map, List.length_cons, List.length_nil, Nat.reduceAdd, Nat.reduceSub, List.replicate, List.cons_append, List.nil_append])
local macro_rules | `(tactic| walk_at "y2") => `(tactic| first
  | walk_at "y1"
  | ((with_reducible refine tVar_i (v := ?v) ?h ?q); (case h => rfl))
  | ((with_reducible refine gName_i ?_); (dsimp only [List.set]))
  | ((with_reducible refine rEq_i ?h ?q); (case h => rfl)) | ((with_reducible refine rNe_i ?h ?q); (case h => rfl)))
local macro_rules | `(tactic| walk_at "y") => `(tactic| repeat walk_at "y2")

/-! flat values as data -/
def vD : V → PyData | .bl b => .bool b | .int i => .int i | .str s => .str s | _ => .none
def plV : V → Bool | .non => true | .bl _ => true | .int _ => true | .str _ => true | _ => false
/-- a flat value of small size -/
def smV : V → Bool | .non => true | .bl _ => true | .int i => decide (-999999999999 ≤ i ∧ i ≤ 999999999999) || decide (i = 1000000000000000000000000000000) | .str s => PyData.canLay0 (.str s) && PyData.leavesShort 40 (.str s) && decide (s.cps.size ≤ 20) | _ => false
theorem smV_pl {v : V} (h : smV v = true) : plV v = true := by cases v <;> first | rfl | exact h
theorem smV_sm {v : V} (h : smV v = true) : Sm 0 20 (vD v) := by
  cases v with
  | non => exact Sm.none.mono (Nat.le_refl _) (Nat.zero_le _)
  | bl b => exact (Sm.bl b).mono (Nat.le_refl _) (Nat.zero_le _)
  | int i =>
    have h0 : (decide (-999999999999 ≤ i ∧ i ≤ 999999999999) || decide (i = 1000000000000000000000000000000)) = true := h
    rcases (Bool.or_eq_true _ _).mp h0 with h | h
    · exact (Sm.int (of_decide_eq_true h).1 (of_decide_eq_true h).2).mono (Nat.le_refl _) (Nat.zero_le _)
    · rw [of_decide_eq_true h]
      exact ⟨by decide +kernel, by decide +kernel, by decide +kernel, by decide +kernel, by decide +kernel⟩
  | str s =>
    have h1 : (PyData.canLay0 (.str s) && PyData.leavesShort 40 (.str s) && decide (s.cps.size ≤ 20)) = true := h
    rw [Bool.and_eq_true, Bool.and_eq_true] at h1
    refine ⟨h1.1.1, by show PyData.depth (.str s) ≤ 0; simp [PyData.depth], by show PyData.showable (.str s) = true; simp [PyData.showable], h1.1.2, ?_⟩
    show PyData.bulk (.str s) ≤ 20
    simp only [PyData.bulk]
    exact of_decide_eq_true h1.2
  | _ => exact nomatch h
theorem dp_fl {K : PySem.W.Frag} {H : Hp} : ∀ {v : V}, plV v = true → Dp K H v (vD v)
  | .non, _ => .non
  | .bl b, _ => .bl b
  | .int i, _ => .int i
  | .str s, _ => .str s
theorem dp_fls {K : PySem.W.Frag} {H : Hp} : ∀ {xs : List V}, xs.all plV = true → DpAll K H xs (xs.map vD)
  | [], _ => .nil
  | x :: xs, h => by
    rw [List.all_cons, Bool.and_eq_true] at h
    exact .cons (dp_fl h.1) (dp_fls h.2)
/-- a tuple of flat values -/
theorem dp_tup {K : PySem.W.Frag} {H : Hp} {p : Addr} {xs : List V} (h : SqT K H p xs) (f : xs.all plV = true) : Dp K H (.ref p) (.tuple (xs.map vD)) := .tup h (dp_fls f)
theorem dp_lst {K : PySem.W.Frag} {H : Hp} {p : Addr} {xs : List V} (h : SqL K H p xs) (f : xs.all plV = true) : Dp K H (.ref p) (.list (xs.map vD)) := .lst h (dp_fls f)
theorem sm_tup {xs : List V} (f : xs.all smV = true) : Sm 1 (xs.length * 21) (.tuple (xs.map vD)) := by
  have := Sm.tup (n := 0) (b := 20) (ds := xs.map vD) fun d hd => by
    obtain ⟨v, hv, rfl⟩ := List.mem_map.mp hd
    exact smV_sm (List.all_eq_true.mp f v hv)
  simpa using this
theorem sm_lst {xs : List V} (f : xs.all smV = true) : Sm 1 (xs.length * 21) (.list (xs.map vD)) := by
  have := Sm.list (n := 0) (b := 20) (ds := xs.map vD) fun d hd => by
    obtain ⟨v, hv, rfl⟩ := List.mem_map.mp hd
    exact smV_sm (List.all_eq_true.mp f v hv)
  simpa using this
theorem all_pl {xs : List V} (f : xs.all smV = true) : xs.all plV = true := List.all_eq_true.mpr fun v hv => smV_pl (List.all_eq_true.mp f v hv)
/-- a list or tuple whose items are tuples of flat values -/
theorem dp_TR {α : Type} {f : α → List V} {K : PySem.W.Frag} {H : Hp} (hf : ∀ a, (f a).all plV = true) : ∀ {vs : List V} {as : List α}, Paired (TR f H) vs as → DpAll K H vs (as.map fun a => .tuple ((f a).map vD))
  | _, _, .nil => .nil
  | _, _, .cons ⟨p, e, h⟩ t => by subst e; exact .cons (dp_tup (SqT.of h) (hf _)) (dp_TR hf t)
theorem dp_TRm {α : Type} {f : α → List V} {K : PySem.W.Frag} {H : Hp} : ∀ {vs : List V} {as : List α}, (∀ a ∈ as, (f a).all plV = true) → Paired (TR f H) vs as → DpAll K H vs (as.map fun a => .tuple ((f a).map vD))
  | _, _, _, .nil => .nil
  | _, _, hf, .cons ⟨p, e, h⟩ t => by subst e; exact .cons (dp_tup (SqT.of h) (hf _ (List.mem_cons_self ..))) (dp_TRm (fun a ha => hf a (List.mem_cons_of_mem _ ha)) t)
theorem dp_sq {K : PySem.W.Frag} {H : Hp} {p : Addr} {vs : List V} {ds : List PyData} : ∀ {b : Bool}, SqB K b H p vs → DpAll K H vs ds → Dp K H (.ref p) (if b then .list ds else .tuple ds)
  | true, h, d => .lst h d
  | false, h, d => .tup h d
theorem sm_TR {α : Type} {f : α → List V} {n : Nat} {as : List α} (hf : ∀ a ∈ as, (f a).all smV = true ∧ (f a).length ≤ n) : ∀ d ∈ as.map fun a => PyData.tuple ((f a).map vD), Sm 1 (n * 21) d := fun d hd => by
  obtain ⟨a, ha, rfl⟩ := List.mem_map.mp hd
  exact (sm_tup (hf a ha).1).mono (Nat.le_refl _) (Nat.mul_le_mul_right _ (hf a ha).2)
theorem flat_ints (ns : List Int) : (ns.map V.int).all flatV = true := by
  rw [List.all_map]
  exact List.all_eq_true.mpr fun _ _ => rfl
theorem inV_ints {n : Int} : ∀ {ns : List Int}, inV (.int n) (ns.map V.int) = decide (n ∈ ns)
  | [] => by simp [inV]
  | m :: ns => by
    have ih := inV_ints (n := n) (ns := ns)
    unfold inV at ih ⊢
    rw [List.map_cons, List.any_cons, ih]
    have e : eqV (.int m) (.int n) = decide (n = m) := by
      show decide (m = n) = _
      simp [eq_comm]
    rw [e]
    simp [List.mem_cons]
theorem filterMap_ix {α β : Type} (g : α → Option β) : ∀ xs : List α, ((List.range xs.length).filterMap fun i => (xs[i]?).bind g) = xs.filterMap g
  | [] => rfl
  | x :: xs => by
    have ih := filterMap_ix g xs
    rw [List.length_cons, List.range_succ_eq_map, List.filterMap_cons, List.filterMap_map]
    have e : (List.filterMap ((fun i => ((x :: xs)[i]?).bind g) ∘ Nat.succ) (List.range xs.length)) = xs.filterMap g := by
      rw [← ih]
      rfl
    rw [e]
    cases q : g x with
    | none => simp [q]
    | some y => simp [q]
theorem filterMap_ne (n : Int) (xs : List Int) : (xs.filterMap fun m => if m = n then none else some m) = xs.filter fun m => decide (m ≠ n) := by
  induction xs with
  | nil => rfl
  | cons x xs ih =>
    by_cases h : x = n
    · simp [h, ih]
    · simp [h, ih]
theorem str_beq (a b : Str) : (a == b) = decide (a = b) := by
  by_cases h : a = b
  · rw [h]; simp
  · rw [decide_eq_false h]; exact beq_eq_false_iff_ne.mpr h
theorem eqv_nil {ds : List PyData} : PyData.eqv (.list ds) (.list []) = ds.isEmpty := by
  cases ds with
  | nil => rfl
  | cons d ds => rfl

end L75
namespace L75
open PySem PySem.Spec PyProof.Rows L2
variable {gd : Bool}
local macro_rules | `(tactic| walk_at "y1") => `(tactic| with_reducible first
  | refine tSeq_i ?_ | refine tAsg_i ?_ | refine tCons_i ?_ | refine tNil_i ?_ | refine tC_i ?_ | refine tOp_i ?_ | refine tIfS_i ?_ | refine tTest_i ?_ | refine exBl_i ?_ | refine tRet_i ?_ | refine tCall_i ?_
  | refine tCB_i ?_ | refine tLst_i ?_ | refine tTup_i ?_ | refine rI0_i ?_ | refine tDrop_i ?_ | refine tNext_i ?_ | refine tB_i ?_ | refine tAnd_i ?_ | refine tOr_i ?_ | refine tNot_i ?_ | refine tAndV_i ?_ | refine tOrV_i ?_ | refine tNotV_i ?_
  | refine tIf_i ?_ | refine tUn_i ?_ | refine tDGet_i ?_ | refine sDPut_i ?_ | refine tFld_i ?_ | refine tRetN_i ?_ | refine tBreak_i ?_ | refine tCont_i ?_ | refine rU_i ?_)
local macro_rules | `(tactic| walk_at "yhead") => `(tactic| dsimp only [L2.start, List.map, List.length_cons, List.length_nil, Nat.reduceAdd, Nat.reduceSub, List.replicate, List.cons_append, List.nil_append])
local macro_rules | `(tactic| walk_at "y2") => `(tactic| first
  | walk_at "y1"
  | ((with_reducible refine tVar_i (v := ?v) ?h ?q); (case h => rfl))
  | ((with_reducible refine gName_i ?_); (dsimp only [List.set]))
  | ((with_reducible refine rEq_i ?h ?q); (case h => rfl)) | ((with_reducible refine rNe_i ?h ?q); (case h => rfl)))
local macro_rules | `(tactic| walk_at "y") => `(tactic| repeat walk_at "y2")

section
variable {X : Cx} {m : Str} {e : Expr} {es : List Expr} {ta : TA} {p1 p2 pos : Pos}
/-- M.__init__(self, ..), M a class of the module over ValueError -/
theorem pe_vinit {pl : Sem Bool} (V : ViC X.K m) (hg : Gl X m) (hm : X.mg m = some (.ref (He.ga X.K m))) (ha : PA X (e :: es) ta)
    (hc : eval (.Call (.Attribute (.Name m p1) "__init__" p2) (e :: es) [] pos) X.env = (do
      let ov ← eval (.Name m p1) X.env
      standAt p2.atName
      let (f, first) ← holding [ov] (getMethod ov "__init__" pl)
      callWith pos f first (backTo pos (starEach (e :: es) X.env)) (backToKw pos (keywordEach [] X.env))) := by rfl)
    (he : starEach (e :: es) X.env = (false, eval e X.env) :: starEach es X.env := by rfl) (hpl : (backTo pos (starEach es X.env)).any (·.1) = false := by rfl) (hdb : (m == ("__debug__" : Str)) = false := by decide) :
    PE X (.Call (.Attribute (.Name m p1) "__init__" p2) (e :: es) [] pos) (tVeI X.K ta) := by
  refine ⟨fun pins s σ H Q I h => ?_⟩
  refine PySem.W.methodCall_KW (ld_glob I hg hm ?_ hdb) hc
  refine PySem.W.method_cls I.kIn V.g (PySem.W.cls_value I.kIn V.r V.f (by decide +kernel) ?_)
  show wpAny _ _ (callWith pos (Value.builtin "ValueError.__init__") [] (backTo pos (starEach (e :: es) X.env)) []) _ _ _
  refine PyProof.Rows.callWith_method1 (thn (ha.run pos pins _ σ H _ (I.tok _) h) fun us s1 ⟨vs, H1, I1, r1, a, C, ws, ev, hl, T, ea, q⟩ => ?_) he hpl
  subst ev
  cases r1 with
  | @cons _ u0 _ ur ra rw' =>
    obtain rfl : u0 = Value.ref a := ra
    exact oinit_ok T I1 ea (by rw [← rw'.length, sizeLine_eq]; omega) fun s' J => ⟨.non, H1, J, rfl, q⟩
end
/-- __init__ of such a class: f is the one attribute it lays -/
def spExI (K : PySem.W.Frag) (c f : Str) : Sp := sp2 fun x v H Q _ => ∃ a, x = .ref a ∧ H a = some (exo a (He.ga K c) none) ∧ ∀ dx, H dx = none → dx ≠ a → Q .non (upd (upd H dx (exd dx [(f, v)])) a (exo a (He.ga K c) (some dx)))
section
variable {P : Program} {w : World} {K : PySem.W.Frag} {mg : Str → Option Value} {base : Heap}
/-- a class by an __init__ of this kind, that it may be raised -/
structure Exm (P : Program) (w : World) (K : PySem.W.Frag) (mg : Str → Option Value) (base : Heap) (k : Nat) (c : Str) (sp : Sp) (f : Str) : Prop where
  ex : ∃ (fd : FuncData) (ps : List Str), FnOk P w K mg base CX0 k (He.ma K (He.ga K c) "__init__") fd ps sp ∧ Binds K fd ps []
  x : ExC K c f
  g : mg c = some (.ref (He.ga K c))
theorem Sy.exm (T : Sy K mg) {c q f : Str} {i j : Nat} {N ps : List Str} {k : Nat} {sp : Sp} (E : ExC K c f) (F0 : FDx K (dM c "__init__" q i j))
    (S : FnScope N ps (defScope (inClass (top i) j))) (len : ∀ vs H Q E, sp vs H Q E → vs.length = ps.length)
    (hbody : ∀ (cdv : Value) (f : Addr) (A : Around) (outer : List Env) (s : Shared) (H : Hp) (vs : List V) (Q : VK) (E : XK), Room k (A.deeper (envOfC q (defScope (inClass (top i) j)) s.heap.objs.size f cdv)) → sp vs H Q E →
      ∃ t, PSs (cxOf CX0 P w K mg base N q (defScope (inClass (top i) j)) f cdv A outer s H E).nox (defBody (inClass (top i) j)) t ∧ t { nx := fun _ H' => Q .non H', rt := Q } (start N vs) H)
    (hb : ∀ (kV doc pm : Value) (an : Option Addr) (cdv ct : Value) (us : List Value), us.length = ps.length → bindArgs (PySem.W.fnOf "__init__" q (defArgs (inClass (top i) j)) (defBody (inClass (top i) j)) (defScope (inClass (top i) j)) .none kV doc pm an cdv ct) ⟨us, []⟩ = pure (ps.zip us))
    (hg : fa.any (isGlo c) = true := by decide +kernel) : Exm P w K mg base (k + 1) c sp f := by
  obtain ⟨fd, F⟩ := F0
  refine ⟨⟨fd, ps, F.ok S len fun cdv A outer s H vs Q E hr h => ?_, F.bindsN hb⟩, E, T.glo c hg⟩
  obtain ⟨t, h1, h2⟩ := hbody cdv _ A outer s H vs Q E hr h
  exact ⟨t, h1.nox, h2⟩
theorem pmk_x {X : Cx} {k j : Nat} {c f : Str} {sp : Sp} {e : Expr} {es : List Expr} {ta : TA} {p pos : Pos} (m : Exm X.prog X.w X.K X.mg X.base k c sp f) (hr : Room j X.A) (ha : PA X (e :: es) ta) (hk : k + 1 ≤ j := by decide) (hg : Gl X c := by rfl)
    (hdb : (c == ("__debug__" : Str)) = false := by decide) (he : starEach (e :: es) X.env = (false, eval e X.env) :: starEach es X.env := by rfl) (hpl : (backTo pos (starEach es X.env)).any (·.1) = false := by rfl) :
    PMk X (.Call (.Name c p) (e :: es) [] pos) (tMkO (He.ga X.K c) sp [] ta) := by
  obtain ⟨fd, ps, F, b⟩ := m.ex
  exact pmk_oex m.x.o m.x.i m.x.t F (hr.mono hk) b .nil pass0 hg m.g ha hdb he hpl
end
section
variable {K : PySem.W.Frag} {σ : L2.St} {H : Hp} {Q : VK} {D : Ends} {ta : TA} {to te : TE} {f : Str} {C : Addr} {sp : Sp} {dvs : List V}
theorem tVeI_i (q : ta σ H fun vs H1 => ∃ (a C : Addr) (ws : List V), vs = .ref a :: ws ∧ ws.length ≤ 1000 ∧ OexC K C ∧ H1 a = some (exo a C none) ∧ Q .non H1) : tVeI K ta σ H Q := q
theorem tOst_i (q : te σ H fun y H1 => to σ H1 fun x H2 => ∃ a C : Addr, x = .ref a ∧ OexC K C ∧ PySem.W.findIn K (.ref C) f = some none ∧
  ((H2 a = some (exo a C none) ∧ ∀ dx, H2 dx = none → dx ≠ a → D.nx σ (upd (upd H2 dx (exd dx [(f, y)])) a (exo a C (some dx)))) ∨
    ∃ (dx : Addr) (fs : List (Str × V)), H2 a = some (exo a C (some dx)) ∧ H2 dx = some (exd dx fs) ∧ fs.length ≤ 900 ∧ D.nx σ (upd H2 dx (exd dx ((f, y) :: fs))))) : tOst K f to te D σ H := q
theorem tMkO_i {Q : XK} (q : ta σ H fun vs H1 => vs.length ≤ 1000 ∧ ∀ a, H1 a = none → sp (.ref a :: (vs ++ dvs)) (upd H1 a (exo a C none))
  (fun v H2 => v = .non ∧ ∃ (d : Addr) (fs : List (Str × V)), H2 a = some (exo a C (some d)) ∧ H2 d = some (exd d fs) ∧ H1 d = none ∧ Q (.ref C) (some d) (upd (del H2 a) d (.xd fs))) (fun _ _ _ => False)) : tMkO C sp dvs ta σ H Q := q
/-- raise C(v), C's own __init__ as spExI -/
theorem mkx_i {c : Str} {v : V} {Q : XK} (q : ∀ d H', H d = none → Same H H' → H' d = some (.xd [(f, v)]) → Q (.ref (He.ga K c)) (some d) H') :
    ([v] : List V).length ≤ 1000 ∧ ∀ a, H a = none → spExI K c f (.ref a :: ([v] ++ [])) (upd H a (exo a (He.ga K c) none))
      (fun u H2 => u = .non ∧ ∃ (d : Addr) (fs : List (Str × V)), H2 a = some (exo a (He.ga K c) (some d)) ∧ H2 d = some (exd d fs) ∧ H d = none ∧ Q (.ref (He.ga K c)) (some d) (upd (del H2 a) d (.xd fs))) (fun _ _ _ => False) := by
  refine ⟨by show 1 ≤ 1000; decide, fun a ha => ⟨_, _, rfl, a, rfl, upd_same, fun dx hdx ne => ⟨rfl, dx, [(f, v)], upd_same, (upd_ne ne).trans upd_same, ?_, ?_⟩⟩⟩
  · rwa [upd_ne ne] at hdx
  · rw [upd_ne ne] at hdx
    refine q dx _ hdx (fun b o e => ?_) upd_same
    have nb : b ≠ dx := ne_of_none e hdx
    have na : b ≠ a := ne_of_none e ha
    rw [upd_ne nb, L2.del_ne na, upd_ne na, upd_ne nb, upd_ne na]
    exact e
end

end L75
namespace L75
open PySem PySem.Spec PyProof.Rows L2
variable {gd : Bool}
local macro_rules | `(tactic| walk_at "y1") => `(tactic| with_reducible first
  | refine tSeq_i ?_ | refine tAsg_i ?_ | refine tCons_i ?_ | refine tNil_i ?_ | refine tC_i ?_ | refine tOp_i ?_ | refine tIfS_i ?_ | refine tTest_i ?_ | refine exBl_i ?_ | refine tRet_i ?_ | refine tCall_i ?_
  | refine tCB_i ?_ | refine tLst_i ?_ | refine tTup_i ?_ | refine rI0_i ?_ | refine tDrop_i ?_ | refine tNext_i ?_ | refine tB_i ?_ | refine tAnd_i ?_ | refine tOr_i ?_ | refine tNot_i ?_ | refine tAndV_i ?_ | refine tOrV_i ?_ | refine tNotV_i ?_
  | refine tIf_i ?_ | refine tUn_i ?_ | refine tDGet_i ?_ | refine sDPut_i ?_ | refine tFld_i ?_ | refine tRetN_i ?_ | refine tBreak_i ?_ | refine tCont_i ?_ | refine rU_i ?_)
local macro_rules | `(tactic| walk_at "yhead") => `(tactic| dsimp only [L2.start, List.map, List.length_cons, List.length_nil, Nat.reduceAdd, Nat.reduceSub, List.replicate, List.cons_append, List.nil_append])
local macro_rules | `(tactic| walk_at "y2") => `(tactic| first
  | walk_at "y1"
  | ((with_reducible refine tVar_i (v := ?v) ?h ?q); (case h => rfl))
  | ((with_reducible refine gName_i ?_); (dsimp only [List.set]))
  | ((with_reducible refine rEq_i ?h ?q); (case h => rfl)) | ((with_reducible refine rNe_i ?h ?q); (case h => rfl)))
local macro_rules | `(tactic| walk_at "y") => `(tactic| repeat walk_at "y2")

/-! sorted(a tuple of ints) -/
section
open PyProof.Rows
theorem sortedT_raw {prog : Program} {w : World} {A : Around} {E : Value → Shared → Prop} {s : Shared} {l : Addr} {vs : List Value} {ltv : Value → Value → Bool} {Q : Value → Shared → Prop} {o : Obj} {n : Nat} (O : SrtO.Swo ltv)
    (ho : s.heap.get? l = some o) (hc : o.cls = .type "tuple") (hd : o.data = .seq vs.toArray n) (hz : vs.length ≤ sizeLine)
    (hS : 2 ≤ vs.length → ∀ (h₁ : Heap) (a : Addr), SrtO.SortableO prog w A.in1.in1 { s with heap := h₁ } a vs ltv)
    (h : ∀ (out : List Value) (h1 h' : Heap), SrtO.Srtd ltv out → SrtO.Stb ltv out vs → (∀ b u, s.heap.get? b = some u → h1.get? b = some u) → (∀ b u, h1.get? b = some u → h'.get? b = some u) → (∃ e, h'.get? h1.objs.size = some (seqObj "list" out.toArray e)) → Q (.ref h1.objs.size) { s with heap := h' }) :
    wpAny (model prog w) A (call (.builtin "sorted") [.ref l]) Q E s := by
  refine Calls.call_function_entry kind_sorted plain_sorted entry_sorted (args_sorted1 _) ?_
  unfold Builtin.«sorted»
  refine wpAny_bind (m := checkCount "sorted" 1 1 _) (wpAny_pure ?_)
  refine wpAny_bind (wpAny_collect_seq l (.inr rfl) ho hc hd (fun h1 k1 => ?_) (by simpa using hz))
  rw [show (vs.toArray : Array Value).toList = vs by simp]
  refine wpAny_bind (wpAny_newList ?_ hz)
  have hoL : (h1.push (seqObj "list" vs.toArray 0)).get? h1.objs.size = some (seqObj "list" vs.toArray 0) := Heap.get?_push_size _ rfl
  show wpAny _ _ _ _ _ { s with heap := h1.push (seqObj "list" vs.toArray 0) }
  refine wpAny_bind (wpAny_holding (wpAny_call_entry slot_list_sort ⟨_, hoL, rfl⟩ entry_list_sort (SrtO.list_sort_ord O hoL hz (fun h2 => hS h2 _ _) fun out hs hb => ⟨_, rfl, ?_⟩) (args_list_sort _)))
  refine wpAny_pure ⟨_, rfl, h out h1 _ hs hb k1 (fun b u e => ?_) (sortedHeap_at hoL)⟩
  have lt := Heap.lt_size e
  rw [sortedHeap_old (Nat.ne_of_lt lt) (by rw [size_push']; exact Nat.lt_succ_of_lt lt)]
  exact Heap.get?_push_of_some _ e
end
def rSortedT (K : PySem.W.Frag) : List V → Hp → VK → Prop := fun vs H Q => ∃ (a : Addr) (ns : List Int), vs = [V.ref a] ∧ SqT K H a (ns.map V.int) ∧
  ∀ (ns' : List Int) (p : Addr), ns'.Perm ns → ns'.Pairwise (· ≤ ·) → H p = none → Q (.ref p) (upd H p (.lst (ns'.map V.int)))
theorem cr_sortedT2 {X : Cx} : CallR X (.builtin "sorted") (rSortedT X.K) := by
  intro pins s σ H vs us Q I r h
  obtain ⟨a, ns, rfl, hs, q⟩ := h
  obtain ⟨its, rv, hl, hz⟩ := I.tuple hs
  obtain ⟨o, ho, hc, n, hd⟩ := hl
  rw [Vals.ref1 r]
  have hi := rv.ints
  refine sortedT_raw SrtO.swo_int ho hc hd (by rw [← rv.length]; exact hz) (fun h2 h₁ a' => SrtO.ints_sortable hi h2) fun out h1 h' k1 k2 a1 a2 a3 => ?_
  obtain ⟨b1, b2, b3⟩ := SrtO.ints_out hi k1 k2
  obtain ⟨e, he⟩ := a3
  have I1 : Inv X pins σ H { s with heap := h1 } := I.kept (t' := s.toks) a1
  have hlen : ((out.map SrtO.iv).map V.int).length ≤ sizeLine := by
    rw [List.length_map, b2.length_eq]
    rw [List.length_map] at hz
    exact hz
  exact ⟨.ref h1.objs.size, _, I1.laid (t' := s.toks) a2 (Nat.le_refl _) (show ObjOk X.prog X.w _ h' _ (.lst _) from ⟨hlen, out, e, vals_of_ints b1, he⟩), rfl, q _ _ b2 b3 (I1.hok.fresh (Nat.le_refl _))⟩
theorem sorted_uniq {α : Type} {le : α → α → Prop} (anti : ∀ a b, le a b → le b a → a = b) : ∀ {l1 l2 : List α}, l1.Pairwise le → l2.Pairwise le → l1.Perm l2 → l1 = l2
  | [], l2, _, _, p => by rw [List.nil_perm.mp p]
  | a :: l1, [], _, _, p => by have := p.length_eq; simp at this
  | a :: l1, b :: l2, h1, h2, p => by
    have e : a = b := by
      rcases List.mem_cons.mp (p.mem_iff.mp (List.mem_cons_self ..)) with e | m
      · exact e
      · rcases List.mem_cons.mp (p.mem_iff.mpr (List.mem_cons_self ..)) with e | m2
        · exact e.symm
        · exact anti a b ((List.pairwise_cons.mp h1).1 b m2) ((List.pairwise_cons.mp h2).1 a m)
    subst e
    rw [sorted_uniq anti (List.pairwise_cons.mp h1).2 (List.pairwise_cons.mp h2).2 (List.perm_cons a |>.mp p)]
def srt (ns : List Int) : List Int := ns.mergeSort fun a b => decide (a ≤ b)
theorem srt_perm (ns : List Int) : (srt ns).Perm ns := List.mergeSort_perm ..
theorem srt_le (ns : List Int) : (srt ns).Pairwise (· ≤ ·) := by
  have h := List.pairwise_mergeSort (le := fun a b : Int => decide (a ≤ b)) (fun a b c h1 h2 => by have := of_decide_eq_true h1; have := of_decide_eq_true h2; exact decide_eq_true (by omega))
    (fun a b => by rcases Int.le_total a b with h | h <;> simp [h]) ns
  exact h.imp fun h => of_decide_eq_true h
theorem srt_eq {ns ns' : List Int} (p : ns'.Perm ns) (s : ns'.Pairwise (· ≤ ·)) : ns' = srt ns := sorted_uniq (fun _ _ h1 h2 => Int.le_antisymm h1 h2) s (srt_le ns) (p.trans (srt_perm ns).symm)
section
variable {K : PySem.W.Frag} {σ : L2.St} {H : Hp} {Q : VK} {D : Ends} {a b p : Addr} {xs zs : List V}
theorem tTM_i {r : V → List V → Hp → VK → Prop} {to : TE} {t : TA} (q : to σ H fun x H1 => (∃ a o xs, x = .ref a ∧ H1 a = some (.frz o (.tup xs)) ∧ o.cls = .type "tuple" ∧ o.dict = none) ∧ t σ H1 fun xs H2 => r x xs H2 Q) : tTM K r to t σ H Q := q
theorem tPar_i {i j : Nat} {ta : TA} (q : ta σ H fun vs H1 => ∃ v w, vs = [v, w] ∧ D.nx ((σ.set i (some v)).set j (some w)) H1) : tPar i j ta D σ H := q
theorem ext_i (h : H a = some (.lst xs)) (h2 : H b = some (.lst zs)) (hz : xs.length + zs.length ≤ sizeLine) (q : Q .non (upd H a (.lst (xs ++ zs)))) : rExtend (.ref a) [.ref b] H Q := ⟨a, b, xs, zs, rfl, rfl, h, h2, hz, q⟩
theorem tSl_i {r : V → Option Int → Option Int → Hp → VK → Prop} {te : TE} {tl th : TO} (q : te σ H fun x H1 => tl σ H1 fun l H2 => th σ H2 fun u H3 => r x l u H3 Q) : tSl r te tl th σ H Q := q
theorem tNoPart_i {Q : Option Int → Hp → Prop} (q : Q none H) : tNoPart σ H Q := q
theorem tPart_i {t : TE} {Q : Option Int → Hp → Prop} (q : t σ H fun x H1 => ∃ i, x = .int i ∧ Q (some i) H1) : tPart t σ H Q := q
theorem part_i {i : Int} {Q : Option Int → Prop} (q : Q (some i)) : ∃ j, V.int i = .int j ∧ Q (some j) := ⟨i, rfl, q⟩
theorem rSl2_l {lo hi : Option Int} {N : Addr → Hp → Prop} (h : SqL K H a xs) (q : ∀ p, H p = none → Q (.ref p) (upd H p (.lst (cutV xs lo hi)))) : rSl2 K (.ref a) lo hi H Q := .inl ⟨a, xs, rfl, h, q⟩
theorem cut_all {lo hi : Option Int} (h : HT.sIx xs.length 0 lo = 0 ∧ HT.sIx xs.length xs.length hi = xs.length) : cutV xs lo hi = xs := by
  unfold cutV
  rw [h.1, h.2]
  simp
theorem cut_from (k : Nat) : cutV xs (some (k : Int)) none = xs.drop k := by
  unfold cutV
  rw [HT.sIx_nat, HT.sIx_none]
  by_cases h : k ≤ xs.length
  · rw [Nat.min_eq_left h, List.take_of_length_le (by simp)]
  · rw [Nat.min_eq_right (by omega)]
    simp [List.drop_of_length_le (show xs.length ≤ k by omega)]
theorem cut_to (k : Nat) : cutV xs none (some (k : Int)) = xs.take k := by
  unfold cutV
  rw [HT.sIx_nat, HT.sIx_none]
  by_cases h : k ≤ xs.length
  · rw [Nat.min_eq_left h]; simp
  · rw [Nat.min_eq_right (by omega), List.take_of_length_le (show xs.length ≤ k by omega)]; simp
theorem rSl2_t {lo hi : Option Int} (h : SqT K H a xs) (q : ∀ p H', SqT K H' p (cutV xs lo hi) → Same H H' → Q (.ref p) H') : rSl2 K (.ref a) lo hi H Q :=
  .inr ⟨a, xs, rfl, h, fun w => q a H (by rw [cut_all w]; exact h) (Same.refl _), fun _ p hp => q p _ (SqT.of upd_same) (same_upd hp)⟩
end
section
variable {X : Cx} {K : PySem.W.Frag}
theorem pe_tmK {o e : Expr} {es : List Expr} {to : TE} {t : TA} {name : Str} {apos cpos : Pos} {id : String} {r : V → List V → Hp → VK → Prop} (hK : X.K = K) (slot : Slot "tuple" name id) (hty : typeOf (.builtin id) = pure (.type "method_descriptor")) (hm : MtR X id r) (ho : PE X o to) (ha : PA X (e :: es) t)
    (hbase : attributeBase o name X.env (eval o X.env) = eval o X.env := by rfl)
    (hfew : ((backTo cpos (starEach (e :: es) X.env)).all (fun x => !x.1) && (backToKw cpos (keywordEach [] X.env)).all (fun x => x.1.isSome)
      && decide ((e :: es).length + ([] : List Keyword).length + (if ([] : List Keyword).isEmpty then 0 else 1) < 30)) = true := by rfl)
    (hline : (apos.endLine == cpos.line) = true := by rfl) (hs : starEach (e :: es) X.env = (false, eval e X.env) :: starEach es X.env := by rfl) (hplain : (backTo cpos (starEach es X.env)).any (·.1) = false := by rfl) :
    PE X (.Call (.Attribute o name apos) (e :: es) [] cpos) (tTM K r to t) := by
  subst hK
  exact pe_tm slot hty hm ho ha hbase hfew hline hs hplain
end

end L75
namespace L75
open PySem PySem.Spec PyProof.Rows L2
variable {gd : Bool}
local macro_rules | `(tactic| walk_at "y1") => `(tactic| with_reducible first
  | refine tSeq_i ?_ | refine tAsg_i ?_ | refine tCons_i ?_ | refine tNil_i ?_ | refine tC_i ?_ | refine tOp_i ?_ | refine tIfS_i ?_ | refine tTest_i ?_ | refine exBl_i ?_ | refine tRet_i ?_ | refine tCall_i ?_
  | refine tCB_i ?_ | refine tLst_i ?_ | refine tTup_i ?_ | refine rI0_i ?_ | refine tDrop_i ?_ | refine tNext_i ?_ | refine tB_i ?_ | refine tAnd_i ?_ | refine tOr_i ?_ | refine tNot_i ?_ | refine tAndV_i ?_ | refine tOrV_i ?_ | refine tNotV_i ?_
  | refine tIf_i ?_ | refine tUn_i ?_ | refine tDGet_i ?_ | refine sDPut_i ?_ | refine tFld_i ?_ | refine tRetN_i ?_ | refine tBreak_i ?_ | refine tCont_i ?_ | refine rU_i ?_)
local macro_rules | `(tactic| walk_at "yhead") => `(tactic| dsimp only [L2.start, List.map, List.length_cons, List.length_nil, Nat.reduceAdd, Nat.reduceSub, List.replicate, List.cons_append, List.nil_append])
local macro_rules | `(tactic| walk_at "y2") => `(tactic| first
  | walk_at "y1"
  | ((with_reducible refine tVar_i (v := ?v) ?h ?q); (case h => rfl))
  | ((with_reducible refine gName_i ?_); (dsimp only [List.set]))
  | ((with_reducible refine rEq_i ?h ?q); (case h => rfl)) | ((with_reducible refine rNe_i ?h ?q); (case h => rfl)))
local macro_rules | `(tactic| walk_at "y") => `(tactic| repeat walk_at "y2")

/-! a caught exception kept by a name behind the try -/
/-- at a: an exception of the class at C, its dict at dd -/
def exk (a C dd : Addr) : HO := .ext fun h => ∃ (oe : Obj) (vs : Array Value), h.get? a = some oe ∧ oe.cls = .ref C ∧ oe.dict = some dd ∧ oe.data = .fields vs
theorem exk_ok {P : Program} {w : World} {H : Hp} {h : Heap} {a C dd : Addr} {oe : Obj} {vs : Array Value} (e : h.get? a = some oe) (c : oe.cls = .ref C) (d : oe.dict = some dd) (f : oe.data = .fields vs) : ObjOk P w H h a (exk a C dd) :=
  ⟨⟨oe, vs, e, c, d, f⟩, ⟨oe, e⟩, fun h1 h2 ⟨u, us, k1, k2, k3, k4⟩ k => ⟨u, us, k u k1, k2, k3, k4⟩⟩
theorem exk_at {P : Program} {w : World} {H : Hp} {h : Heap} {a C dd : Addr} (hok : HOk P w H h) (e : H a = some (exk a C dd)) : ∃ (oe : Obj) (vs : Array Value), h.get? a = some oe ∧ oe.cls = .ref C ∧ oe.dict = some dd ∧ oe.data = .fields vs :=
  (show ObjOk P w H h a (exk a C dd) from hok a _ e).1
section
variable {X : Cx} {pins : List (Addr × Obj)} {σ : L2.St} {H : Hp} {s : Shared}
/-- an object that nobody follows is followed from here on -/
theorem inv_adopt {a : Addr} {oe : Obj} {vs : Array Value} {o : HO} (I : Inv X pins σ H s) (hn : H a = none) (he : s.heap.get? a = some oe) (hd : oe.data = .fields vs) (h0 : X.s_0.heap.get? a = none) (nL : a ≠ X.env.locals) (np : ∀ p ∈ X.pn ++ pins, p.1 ≠ a)
    (new : ObjOk X.prog X.w (upd H a o) s.heap a o) : Inv X pins σ (upd H a o) s where
  ok := I.ok
  os := I.os
  bare := I.bare
  base := ⟨I.base.keep, I.base.slot, fun b u e n x => by
      rw [upd_ne (show b ≠ a from fun z => by rw [z, h0] at e; cases e)]
      exact I.base.free b u e n x, I.base.there, fun b xs e => by rw [upd_ne (ne_of_none (I.base.tups b xs e) hn)]; exact I.base.tups b xs e,
      fun b u v e => by rw [upd_ne (ne_of_none (I.base.frzs b u v e) hn)]; exact I.base.frzs b u v e, fun b ps e => by
        obtain ⟨m, k⟩ := I.base.tbls b ps e
        exact ⟨m, by rw [upd_ne (ne_of_none k hn)]; exact k⟩⟩
  loc := I.loc
  cell := I.cell
  free := by rw [upd_ne (Ne.symm nL)]; exact I.free
  freeC := fun x c e => by
    have n : c ≠ a := fun z => by
      obtain ⟨v, u, k1, k2⟩ := I.cell x c e
      rw [z, he] at k1
      cases k1
      rw [hd] at k2
      cases k2
    rw [upd_ne n]
    exact I.freeC x c e
  pin := fun p hp => by
    obtain ⟨k1, k2, k3⟩ := I.pin p hp
    exact ⟨k1, by rw [upd_ne (np p hp)]; exact k2, k3⟩
  hok := fun b u e => by
    by_cases hb : b = a
    · subst hb
      rw [upd_same] at e
      cases e
      exact new
    · rw [upd_ne hb] at e
      exact (I.hok b u e).stay (fun c v _ z => z) (fun c k => by rw [upd_ne (ne_of_none k hn)]; exact k) fun c xs k => by rw [upd_ne (ne_of_none k hn)]; exact k
  len := I.len
end
/-- what such a try wishes of an exception -/
def wKeep (K : PySem.W.Frag) (c : Value) (i j : Nat) (D : Ends) : WX := fun cls d σ H => ∃ C dd : Addr, cls = .ref C ∧ d = some dd ∧ PySem.W.exmOne K cls c = some true ∧ ∀ a, H a = none → D.nx (((σ.set i (some (.ref a))).set j (some (.ref a))).set i none) (upd H a (exk a C dd))
section
variable {X : Cx} {i j : Nat} {x n y : Str} {c : Value} {body : List Stmt} {np p1 p2 p3 pos pos' : Pos} {tb : WX → TS}
theorem ps_try_keep (hs : X.stack = X.env :: X.outer) (hf : X.env.frame = some X.env.locals) (hex : X.ex = []) (hN : X.N.Nodup) (hi : X.N[i]? = some n) (hj : X.N[j]? = some y) (hln : X.env.kindOf n = some .local) (hly : X.env.scope.names.lookup y = some .local) (hc : Names X x c)
    (hb : ∀ (W : WX) (pn : List (Addr × Obj)) (xe : Value → Shared → Prop), Takes (X.tr pn xe) W → PassesOwn (model X.prog X.w) X.A X.env xe → PSs (X.tr pn xe) body (tb W))
    (hnd : (n == ("__debug__" : Str)) = false := by decide) (hnc : (n == ("__classdict__" : Str)) = false := by decide) :
    PS X (.Try body [.ExceptHandler (some (.Name x np)) (some n) [.Assign [.Name y p1] (.Name n p2) p3] pos'] [] [] pos) (fun D σ H => tb (wKeep X.K c i j D) D σ H) := by
  refine ⟨fun pins s σ H D I h => ?_⟩
  have ok := I.ok
  have frE : X.A.frames = some (X.env :: X.outer) := by rw [ok.frames, hs]
  refine wpAny_Try_except ?_
  refine wpAny_mono ((hb (wKeep X.K c i j D) (X.pn ++ pins) (fun e t1 => wpAny (model X.prog X.w) X.A (noteFrame e X.env) (fun _ t2 => wpAny (model X.prog X.w) X.A (setFlight e none) (fun _ t3 =>
    wpAny (model X.prog X.w) X.A (handleBy e X.env [.ExceptHandler (some (.Name x np)) (some n) [.Assign [.Name y p1] (.Name n p2) p3] pos']) (SP X pins D) X.xe t3) X.xe t2) X.xe t1) (fun u s' xx => ?_) PassesOwn.looking).run [] s σ H D (I.toTry _) h) (fun f s1 hsp => ?_) (fun e s1 he => he)
  · obtain ⟨a, B, sI, pins', σ', H', cls, d, rfl, J0, nb, up, sky, na, os, ag, C, dd, rfl, rfl, hm, hyes⟩ := xx
    have J : Inv X pins σ' H' sI := J0.ofTry ok
    have sky' : Sky B (X.env :: X.outer) a (Zc (.ref C) (some dd)) X.env.locals s'.heap := by rw [← hs]; exact sky
    show wpAny (model X.prog X.w) X.A (noteFrame (.ref a) X.env) _ _ _
    refine Sky.land Zc.steady frE hf sky' fun h3 fl3 up3 => ?_
    have J3 : Inv X pins σ' H' { s' with heap := h3 } := J.landed nb fl3.1 (up.trans up3) os ag
    obtain ⟨oe3, vs3, he3, hz3, hd3⟩ := fl3.there
    have nfr : a ∉ frs (X.env :: X.outer) := fun hm => by
      obtain ⟨_, o', e', hnf⟩ := fl3.2.2.1.mem hm
      rw [he3] at e'
      cases e'
      exact hnf _ hd3
    have nL : a ≠ X.env.locals := fun z => nfr (List.mem_filterMap.mpr ⟨X.env, List.mem_cons_self, by rw [hf, z]⟩)
    have nF : a ∉ X.fs := fun hm => by
      obtain ⟨e, he, q⟩ := List.mem_filterMap.mp hm
      exact nfr (List.mem_filterMap.mpr ⟨e, List.mem_cons_of_mem _ he, q⟩)
    -- it is newer than all that stood
    have newer : ∀ {b : Addr} {o : Obj}, sI.heap.get? b = some o → b ≠ a := fun {b o} e z => by
      subst z
      have k := nb b o e (by rw [hs]; exact nfr)
      rw [fl3.2.1] at k
      cases k
    have h0 : X.s_0.heap.get? a = none := by
      cases q : X.s_0.heap.get? a with
      | none => rfl
      | some o =>
        obtain ⟨o', k⟩ := J.base.there a o q (by rw [hex]; exact List.not_mem_nil)
        exact absurd rfl (newer k)
    have npA : ∀ p ∈ X.pn ++ pins, p.1 ≠ a := fun p hp => newer (J.pin p hp).1
    have S3 := J3.suite he3 hd3 na nL nF
    refine wpAny_handleBy_cons (codeAny_handlers_test ?_) (by intro q; cases q)
    have LT : PySem.W.Looks (model X.prog X.w) h3 (typeOf (.ref a)) (.ref C) := fun A Q E s k q => wpAny_typeOf_ref (k _ _ he3) (by rw [hz3.1]; exact q)
    have LM := PySem.W.exm_one (M := model X.prog X.w) (J3.kIn) LT hm
    have test : ∀ {Q : Value → Shared → Prop} {E : Value → Shared → Prop}, Q c { s' with heap := h3 } → wpAny (model X.prog X.w) (X.A.mark (some (.ref a))) (eval (.Name x np) X.env) Q E { s' with heap := h3 } := fun {Q E} q => by
      obtain ⟨hg, hdbg, hm | ⟨hm, hv, hnn⟩⟩ := hc
      · exact ld_glob (X := X.suite a ((a, oe3) :: (X.pn ++ pins))) S3 hg hm q hdbg
      · exact ld_blt (X := X.suite a ((a, oe3) :: (X.pn ++ pins))) S3 hg hm hv q hnn hdbg
    refine test (LM.here ?_)
    refine codeAny_handlers_suite_as ?_
    refine HandSPX.lands_againZ fl3 fun h4 fl4 up4 => ?_
    have J4 : Inv X pins σ' H' { s' with heap := h4 } := J.landed nb fl4.1 ((up.trans up3).trans up4) os ag
    obtain ⟨oe4, vs4, he4, hz4, hd4⟩ := fl4.there
    have S4 := J4.suite he4 hd4 na nL nF
    refine store_ok (X := X.suite a ((a, oe4) :: (X.pn ++ pins))) (v := .ref a) S4 hN hi (.inl hln) rfl (fun s5 S5 => ?_) (.inr hln)
    have su : PSs (X.suite a ((a, oe4) :: (X.pn ++ pins))) [.Assign [.Name y p1] (.Name n p2) p3] (tAsg (tVar i) (gName j)) :=
      pss_one (ps_asg (pe_var hi (.inl hln) hnd hnc) (pg_name hN hj (.inl hly) (.inr hly)))
    refine wpAny_mono (su.run [] s5 _ H' { nx := fun σ6 H6 => σ6 = (σ'.set i (some (.ref a))).set j (some (.ref a)) ∧ H6 = H', rt := fun _ _ => False } S5 ⟨.ref a, ?_, rfl, rfl⟩) (fun f s6 hsp => ?_) (fun _ _ z => False.elim z)
    · rw [List.getElem?_set_self (by rw [J.len]; exact (List.getElem?_eq_some_iff.mp hi).1)]
    · cases f with
      | next =>
        obtain ⟨σ6, H6, S6, rfl, rfl⟩ := hsp
        have pinA := S6.pin (a, oe4) (List.mem_append_left _ List.mem_cons_self)
        have J6 : Inv X pins _ H6 s6 := S6.unsuite ok
        have J7 := inv_adopt (o := exk a C dd) J6 na pinA.1 hd4 h0 nL npA (exk_ok pinA.1 hz4.1 hz4.2 hd4)
        exact gone_ok J7 hN hi hln fun s7 J8 => ⟨_, _, J8, hyes a na⟩
      | brk => exact (let ⟨_, _, _, q⟩ := hsp; False.elim q)
      | cont => exact (let ⟨_, _, _, q⟩ := hsp; False.elim q)
      | ret u => exact (let ⟨_, _, _, _, _, q⟩ := hsp; False.elim q)
  · cases f with
    | next =>
      obtain ⟨σ', H', J', q⟩ := hsp
      exact wpAny_execs_nil ⟨σ', H', J'.ofTry ok, q⟩
    | brk =>
      obtain ⟨σ', H', J', q⟩ := hsp
      exact ⟨σ', H', J'.ofTry ok, q⟩
    | cont =>
      obtain ⟨σ', H', J', q⟩ := hsp
      exact ⟨σ', H', J'.ofTry ok, q⟩
    | ret u =>
      obtain ⟨v, σ', H', J', r, q⟩ := hsp
      exact ⟨v, σ', H', J'.ofTry ok, r, q⟩
end
section
open PySem.W
theorem is_exact {prog : Program} {w : World} {A : Around} {E : Value → Shared → Prop} {s : Shared} {a C : Addr} {oe : Obj} {Q : Value → Shared → Prop} (he : s.heap.get? a = some oe) (hc : oe.cls = .ref C) (h : ∀ tk, Q (.bool true) { s with toks := tk }) :
    wpAny (model prog w) A (call (.builtin "isinstance") [.ref a, .ref C]) Q E s := by
  refine call_isinstance (S := fun _ R s => s.heap.get? a = some oe ∧ ∀ tk, R (.ok (.ret (.bool true))) { s with toks := tk }) (fun prog w A R s hs => isinstance_outer ?_ (by intro z; cases z)) ⟨he, h⟩
  obtain ⟨h0, g, d, tt, os⟩ := s
  obtain ⟨k, hq⟩ := hs
  have LT : Looks (model prog w) h0 (typeOf (.ref a)) (.ref C) := hc ▸ (Looks.ld k).andThen .now
  unfold Builtin.«isinstance.nested»
  refine wpAny_bind (LT.at ?_)
  rw [if_pos (show (Value.ref C == Value.ref C) = true by simp)]
  first
    | exact wpAny_bind (wpAny_rule (hq tt))
    | exact wpAny_bind (wpAny_rule (wpAny_pure (hq tt)))
    | exact wpAny_pure (hq tt)
end
/-- isinstance(e, its own class) -/
def rIsK : List V → Hp → VK → Prop := fun xs H Q => ∃ a C dd : Addr, xs = [.ref a, .ref C] ∧ H a = some (exk a C dd) ∧ Q (.bl true) H
theorem call_isK {X : Cx} : CallR X (.builtin "isinstance") rIsK := by
  intro pins s σ H xs us Q I r h
  obtain ⟨a, C, dd, rfl, ha, q⟩ := h
  obtain ⟨u1, u2, rfl, r1, r2⟩ := Vals.two r
  cases (show u1 = Value.ref a from r1)
  cases (show u2 = Value.ref C from r2)
  obtain ⟨oe, vs, e, c, _⟩ := exk_at I.hok ha
  exact is_exact e c fun tk => ⟨.bl true, H, I.tok tk, rfl, q⟩
/-- e.f of a kept exception -/
def tXk (K : PySem.W.Frag) (f : Str) (te : TE) : TE := fun σ H Q => te σ H fun x H1 => ∃ (a C dd : Addr) (fs : List (Str × V)) (v : V), x = .ref a ∧ H1 a = some (exk a C dd) ∧ XfC K C ∧ PySem.W.findIn K (.ref C) f = some none ∧ H1 dd = some (.xd fs) ∧ fs.lookup f = some v ∧ Q v H1
theorem tXk_i {K : PySem.W.Frag} {f : Str} {te : TE} {σ : L2.St} {H : Hp} {Q : VK} (q : te σ H fun x H1 => ∃ (a C dd : Addr) (fs : List (Str × V)) (v : V), x = .ref a ∧ H1 a = some (exk a C dd) ∧ XfC K C ∧ PySem.W.findIn K (.ref C) f = some none ∧ H1 dd = some (.xd fs) ∧ fs.lookup f = some v ∧ Q v H1) : tXk K f te σ H Q := q
theorem pe_xk {X : Cx} {K : PySem.W.Frag} {e : Expr} {te : TE} {pos : Pos} {n : Str} (hK : X.K = K) (he : PE X e te) (hb : attributeBase e n X.env (eval e X.env) = eval e X.env := by rfl) : PE X (.Attribute e n pos) (tXk K n te) := by
  subst hK
  refine ⟨fun pins s σ H Q I h => ?_⟩
  refine attr_of hb (thn (he.run pins s σ H _ I h) fun u s1 hh => ?_)
  obtain ⟨x, H1, I1, rx, a, C, dd, fs, v, rfl, ha, T, hno, ea, l, q⟩ := hh
  cases (show u = Value.ref a from rx)
  obtain ⟨oe, vs, e1, e2, e3, e4⟩ := exk_at I1.hok ha
  obtain ⟨mA, hns, hr⟩ := (show ObjOk X.prog X.w H1 s1.heap dd (.xd fs) from I1.hok dd _ ea)
  obtain ⟨od, ho, hl⟩ := lookIn_ns hns
  obtain ⟨u, hu, ru⟩ := RelO.some_of (v := v) (o := mA n) (by rw [← l]; exact hr n)
  have J : PySem.W.InstAt s1.heap a oe C (some od) := ⟨e1, e2, by unfold PySem.W.notCls; rw [e4] <;> rfl, by rw [e3]; exact ho⟩
  exact HandSPX.exc_get I1.kIn J T.ga T.gg T.exC (PySem.W.findObj_own T.hdC hno rfl (by rw [hl, hu])) (handed_of ru) ⟨v, H1, I1.tok _, ru, q⟩

end L75
namespace L75
open PySem PySem.Spec PyProof.Rows L2
variable {gd : Bool}
local macro_rules | `(tactic| walk_at "y1") => `(tactic| with_reducible first
  | refine tSeq_i ?_ | refine tAsg_i ?_ | refine tCons_i ?_ | refine tNil_i ?_ | refine tC_i ?_ | refine tOp_i ?_ | refine tIfS_i ?_ | refine tTest_i ?_ | refine exBl_i ?_ | refine tRet_i ?_ | refine tCall_i ?_
  | refine tCB_i ?_ | refine tLst_i ?_ | refine tTup_i ?_ | refine rI0_i ?_ | refine tDrop_i ?_ | refine tNext_i ?_ | refine tB_i ?_ | refine tAnd_i ?_ | refine tOr_i ?_ | refine tNot_i ?_ | refine tAndV_i ?_ | refine tOrV_i ?_ | refine tNotV_i ?_
  | refine tIf_i ?_ | refine tUn_i ?_ | refine tDGet_i ?_ | refine sDPut_i ?_ | refine tFld_i ?_ | refine tRetN_i ?_ | refine tBreak_i ?_ | refine tCont_i ?_ | refine rU_i ?_)
local macro_rules | `(tactic| walk_at "yhead") => `(tactic| dsimp only [L2.start, List.map, List.length_cons, List.length_nil, Nat.reduceAdd, Nat.reduceSub, List.replicate, List.cons_append, List.nil_append])
local macro_rules | `(tactic| walk_at "y2") => `(tactic| first
  | walk_at "y1"
  | ((with_reducible refine tVar_i (v := ?v) ?h ?q); (case h => rfl))
  | ((with_reducible refine gName_i ?_); (dsimp only [List.set]))
  | ((with_reducible refine rEq_i ?h ?q); (case h => rfl)) | ((with_reducible refine rNe_i ?h ?q); (case h => rfl)))
local macro_rules | `(tactic| walk_at "y") => `(tactic| repeat walk_at "y2")

/-! calls with keywords -/
section
variable {X : Cx} {CX : CXT} {k m : Nat} {f : Addr} {fd : FuncData} {ps ks : List Str} {sp : Sp} {E : XK} {x : Str} {p pos : Pos} {e : Expr} {es : List Expr} {kws : List Keyword} {t tk : TA} {g : List Value → List Value → List Value} {gV : List V → List V → List V}
theorem runGN {pins : List (Addr × Obj)} {σ : L2.St} {H : Hp} {s : Shared} {Q : VK} {us ws : List Value} {vs zs : List V} (F : FnG gd X.prog X.w X.K X.mg X.base CX k f fd ps sp) (z : RG gd k X.A) (hb : KBn X.K fd ps m ks g gV) (hx : Passes CX X E)
    (I : Inv X pins σ H s) (r : Vals vs us) (rz : Vals zs ws) (l1 : vs.length = m) (l2 : zs.length = ks.length) (h : sp (gV vs zs) H Q E) : wpAny (model X.prog X.w) X.A (call (.ref f) us (ks.zip ws)) (EP X pins σ Q) X.xe s := by
  have r2 := hb.rel r rz
  refine wpAny_call (codeAny_mono (F.run X.A X.stack s H ⟨us, ks.zip ws⟩ (g us ws) (gV vs zs) Q E z I.env0 (hb.to s us ws I.kIn (r.length.symm.trans l1) (rz.length.symm.trans l2)) r2 h) fun r s' hq => ?_)
  cases r with
  | error e => exact hx pins σ H s e s' I hq
  | ok fl => cases fl <;> first | exact I.after hq | exact False.elim hq
theorem pe_callNG (F : FnG gd X.prog X.w X.K X.mg X.base CX k f fd ps sp) (z : RG gd k X.A) (hg : Gl X x) (hm : X.mg x = some (.ref f)) (hk : PySem.W.keepIn X.K (.ref f) = true) (hb : KBn X.K fd ps m ks g gV) (hx : Passes CX X E)
    (ha : PA X (e :: es) t) (hkw : PK X kws tk) (hall : (backToKw pos (keywordEach kws X.env)).all (·.1.isSome) = true := by rfl) (hks : (backToKw pos (keywordEach kws X.env)).filterMap (·.1) = ks := by rfl)
    (hdb : (x == ("__debug__" : Str)) = false := by decide) (he : starEach (e :: es) X.env = (false, eval e X.env) :: starEach es X.env := by rfl)
    (hpl : ((backTo pos (starEach (e :: es) X.env)).any (·.1) || (backToKw pos (keywordEach kws X.env)).any (·.1.isNone)) = false := by rfl) :
    PE X (.Call (.Name x p) (e :: es) kws pos) (tCallN m ks.length sp gV E t tk) := by
  refine ⟨fun pins s σ H Q I h => ?_⟩
  refine wpAny_Call_Name_kw (ld_glob I hg hm ?_ hdb)
  refine PySem.W.callWith_KW (h₀ := X.base) I.ok.mod.kin hk hall (thn (ha.run pos pins s σ H _ I h) fun us s1 ⟨vs, H1, I1, r, q⟩ => ?_) hpl he
  refine thn (hkw.run pos pins s1 σ H1 _ I1 q) fun ws s2 ⟨zs, H2, I2, rz, l1, l2, q2⟩ => ⟨I2.kIn, ?_⟩
  rw [hks]
  exact runGN F z hb hx I2 r rz l1 l2 q2
end
/-- a def with one parameter and one keyword-only one, that has a default -/
structure CalKw (gd : Bool) (P : Program) (w : World) (K : PySem.W.Frag) (mg : Str → Option Value) (base : Heap) (CX : CXT) (k : Nat) (x kw : Str) (d : V) (sp : Sp) : Prop where
  ex : ∃ (f : Addr) (fd : FuncData) (ps : List Str) (ds : List Value), FnG gd P w K mg base CX k f fd ps sp ∧ mg x = some (.ref f) ∧ PySem.W.keepIn K (.ref f) = true ∧ Vals [d] ds ∧ Binds K fd ps ds ∧
    KBn K fd ps 1 [kw] (fun us ws => us ++ ws) (fun vs zs => vs ++ zs)
section
variable {X : Cx} {CX : CXT} {k j : Nat} {kw : Str} {d : V} {sp : Sp} {E : XK} {x : Str} {p pos kp : Pos} {e a : Expr} {t : TA} {ta : TE}
theorem pe_k1 (c : CalKw gd X.prog X.w X.K X.mg X.base CX k x kw d sp) (z : RG gd j X.A) (hx : Passes CX X E) (ha : PA X [e] t) (hk : k ≤ j := by decide) (hg : Gl X x := by rfl)
    (hdb : (x == ("__debug__" : Str)) = false := by decide) (he : starEach [e] X.env = (false, eval e X.env) :: starEach [] X.env := by rfl) (hpl : (backTo pos (starEach [] X.env)).any (·.1) = false := by rfl) :
    PE X (.Call (.Name x p) [e] [] pos) (tCall sp [d] E t) := by
  obtain ⟨f, fd, ps, ds, F, hm, kp, hv, b, _⟩ := c.ex
  exact pe_callG F (z.mono hk) hg hm kp b hv hx ha hdb he hpl
theorem pe_k2 (c : CalKw gd X.prog X.w X.K X.mg X.base CX k x kw d sp) (z : RG gd j X.A) (hx : Passes CX X E) (ha : PA X [e] t) (hkw : PK X [⟨some kw, a, kp⟩] (tCons ta tNil)) (hk : k ≤ j := by decide) (hg : Gl X x := by rfl)
    (hall : (backToKw pos (keywordEach [⟨some kw, a, kp⟩] X.env)).all (·.1.isSome) = true := by rfl) (hks : (backToKw pos (keywordEach [⟨some kw, a, kp⟩] X.env)).filterMap (·.1) = [kw] := by rfl)
    (hdb : (x == ("__debug__" : Str)) = false := by decide) (he : starEach [e] X.env = (false, eval e X.env) :: starEach [] X.env := by rfl)
    (hpl : ((backTo pos (starEach [e] X.env)).any (·.1) || (backToKw pos (keywordEach [⟨some kw, a, kp⟩] X.env)).any (·.1.isNone)) = false := by rfl) :
    PE X (.Call (.Name x p) [e] [⟨some kw, a, kp⟩] pos) (tCallN 1 1 sp (fun vs zs => vs ++ zs) E t (tCons ta tNil)) := by
  obtain ⟨f, fd, ps, ds, F, hm, kp, hv, _, b⟩ := c.ex
  exact pe_callNG F (z.mono hk) hg hm kp b hx ha hkw hall hks hdb he hpl
end
theorem tCallN_i {n m : Nat} {sp : Sp} {gV : List V → List V → List V} {E : XK} {t tk : TA} {σ : L2.St} {H : Hp} {Q : VK} (q : t σ H fun vs H1 => tk σ H1 fun zs H2 => vs.length = n ∧ zs.length = m ∧ sp (gV vs zs) H2 Q E) : tCallN n m sp gV E t tk σ H Q := q

end L75
namespace L75
open PySem PySem.Spec PyProof.Rows L2
variable {gd : Bool}
local macro_rules | `(tactic| walk_at "y1") => `(tactic| with_reducible first
  | refine tSeq_i ?_ | refine tAsg_i ?_ | refine tCons_i ?_ | refine tNil_i ?_ | refine tC_i ?_ | refine tOp_i ?_ | refine tIfS_i ?_ | refine tTest_i ?_ | refine exBl_i ?_ | refine tRet_i ?_ | refine tCall_i ?_
  | refine tCB_i ?_ | refine tLst_i ?_ | refine tTup_i ?_ | refine rI0_i ?_ | refine tDrop_i ?_ | refine tNext_i ?_ | refine tB_i ?_ | refine tAnd_i ?_ | refine tOr_i ?_ | refine tNot_i ?_ | refine tAndV_i ?_ | refine tOrV_i ?_ | refine tNotV_i ?_
  | refine tIf_i ?_ | refine tUn_i ?_ | refine tDGet_i ?_ | refine sDPut_i ?_ | refine tFld_i ?_ | refine tRetN_i ?_ | refine tBreak_i ?_ | refine tCont_i ?_ | refine rU_i ?_)
local macro_rules | `(tactic| walk_at "yhead") => `(tactic| dsimp only [L2.start, List.map, List.length_cons, List.length_nil, Nat.reduceAdd, Nat.reduceSub, List.replicate, List.cons_append, List.nil_append])
local macro_rules | `(tactic| walk_at "y2") => `(tactic| first
  | walk_at "y1"
  | ((with_reducible refine tVar_i (v := ?v) ?h ?q); (case h => rfl))
  | ((with_reducible refine gName_i ?_); (dsimp only [List.set]))
  | ((with_reducible refine rEq_i ?h ?q); (case h => rfl)) | ((with_reducible refine rNe_i ?h ?q); (case h => rfl)))
local macro_rules | `(tactic| walk_at "y") => `(tactic| repeat walk_at "y2")

/-! calls by keywords alone -/
def tCallK0 (m : Nat) (sp : Sp) (gV : List V → List V → List V) (E : XK) (tk : TA) : TE := fun σ H Q => tk σ H fun zs H2 => zs.length = m ∧ sp (gV [] zs) H2 Q E
theorem tCallK0_i {m : Nat} {sp : Sp} {gV : List V → List V → List V} {E : XK} {tk : TA} {σ : L2.St} {H : Hp} {Q : VK} (q : tk σ H fun zs H2 => zs.length = m ∧ sp (gV [] zs) H2 Q E) : tCallK0 m sp gV E tk σ H Q := q
section
variable {X : Cx} {CX : CXT} {k : Nat} {f : Addr} {fd : FuncData} {ps ks : List Str} {sp : Sp} {E : XK} {x : Str} {p pos : Pos} {kws : List Keyword} {tk : TA} {g : List Value → List Value → List Value} {gV : List V → List V → List V}
theorem pe_callK0 (F : FnG gd X.prog X.w X.K X.mg X.base CX k f fd ps sp) (z : RG gd k X.A) (hg : Gl X x) (hm : X.mg x = some (.ref f)) (hk : PySem.W.keepIn X.K (.ref f) = true) (hb : KBn X.K fd ps 0 ks g gV) (hx : Passes CX X E)
    (hkw : PK X kws tk) (hall : (backToKw pos (keywordEach kws X.env)).all (·.1.isSome) = true := by rfl) (hks : (backToKw pos (keywordEach kws X.env)).filterMap (·.1) = ks := by rfl)
    (hdb : (x == ("__debug__" : Str)) = false := by decide)
    (hpl : ((backTo pos (starEach [] X.env)).any (·.1) || (backToKw pos (keywordEach kws X.env)).any (·.1.isNone)) = false := by rfl) :
    PE X (.Call (.Name x p) [] kws pos) (tCallK0 ks.length sp gV E tk) := by
  refine ⟨fun pins s σ H Q I h => ?_⟩
  refine wpAny_Call_Name_kw (ld_glob I hg hm ?_ hdb)
  refine PySem.W.callWith_KW0 (h₀ := X.base) I.ok.mod.kin hk hall (thn (hkw.run pos pins s σ H _ I h) fun ws s2 ⟨zs, H2, I2, rz, l2, q2⟩ => ⟨I2.kIn, ?_⟩) hpl
  rw [hks]
  exact runGN (us := []) (vs := []) F z hb hx I2 .nil rz rfl l2 q2
end

end L75
namespace L75
open PySem PySem.Spec PyProof.Rows L2
variable {gd : Bool}
local macro_rules | `(tactic| walk_at "y1") => `(tactic| with_reducible first
  | refine tSeq_i ?_ | refine tAsg_i ?_ | refine tCons_i ?_ | refine tNil_i ?_ | refine tC_i ?_ | refine tOp_i ?_ | refine tIfS_i ?_ | refine tTest_i ?_ | refine exBl_i ?_ | refine tRet_i ?_ | refine tCall_i ?_
  | refine tCB_i ?_ | refine tLst_i ?_ | refine tTup_i ?_ | refine rI0_i ?_ | refine tDrop_i ?_ | refine tNext_i ?_ | refine tB_i ?_ | refine tAnd_i ?_ | refine tOr_i ?_ | refine tNot_i ?_ | refine tAndV_i ?_ | refine tOrV_i ?_ | refine tNotV_i ?_
  | refine tIf_i ?_ | refine tUn_i ?_ | refine tDGet_i ?_ | refine sDPut_i ?_ | refine tFld_i ?_ | refine tRetN_i ?_ | refine tBreak_i ?_ | refine tCont_i ?_ | refine rU_i ?_)
local macro_rules | `(tactic| walk_at "yhead") => `(tactic| dsimp only [L2.start, List.map, List.length_cons, List.length_nil, Nat.reduceAdd, Nat.reduceSub, List.replicate, List.cons_append, List.nil_append])
local macro_rules | `(tactic| walk_at "y2") => `(tactic| first
  | walk_at "y1"
  | ((with_reducible refine tVar_i (v := ?v) ?h ?q); (case h => rfl))
  | ((with_reducible refine gName_i ?_); (dsimp only [List.set]))
  | ((with_reducible refine rEq_i ?h ?q); (case h => rfl)) | ((with_reducible refine rNe_i ?h ?q); (case h => rfl)))
local macro_rules | `(tactic| walk_at "y") => `(tactic| repeat walk_at "y2")

/-! a def with its own facts, for calls by keywords -/
structure CalF (gd : Bool) (P : Program) (w : World) (K : PySem.W.Frag) (mg : Str → Option Value) (base : Heap) (CX : CXT) (k : Nat) (x : Str) (sp : Sp) (j : Nat) (ps : List Str) : Prop where
  ex : ∃ (f : Addr) (fd : FuncData), FnG gd P w K mg base CX k f fd ps sp ∧ mg x = some (.ref f) ∧ PySem.W.keepIn K (.ref f) = true ∧ Binds K fd ps [] ∧ FunD K x x (defArgs (top j)) (defBody (top j)) (defScope (top j)) [] [] f fd
theorem CalF.cal {P : Program} {w : World} {K : PySem.W.Frag} {mg : Str → Option Value} {base : Heap} {CX : CXT} {k j : Nat} {x : Str} {sp : Sp} {ps : List Str} (c : CalF gd P w K mg base CX k x sp j ps) : Cal gd P w K mg base CX k x sp := let ⟨f, fd, a, b, c, d, _⟩ := c.ex; ⟨f, fd, ps, a, b, c, d⟩
section
variable {P : Program} {w : World} {K : PySem.W.Frag} {mg : Str → Option Value} {base : Heap}
theorem Sy.calF (T : Sy K mg) {x : Str} {j : Nat} {N ps : List Str} {k : Nat} {sp : Sp} (F0 : FDx K (dG x j))
    (S : FnScope N ps (defScope (top j))) (len : ∀ vs H Q E, sp vs H Q E → vs.length = ps.length)
    (hbody : ∀ (cdv : Value) (f : Addr) (A : Around) (outer : List Env) (s : Shared) (H : Hp) (vs : List V) (Q : VK) (E : XK), RG gd k (A.deeper (envOfC x (defScope (top j)) s.heap.objs.size f cdv)) → sp vs H Q E →
      ∃ t, PSs (cxOf CX0 P w K mg base N x (defScope (top j)) f cdv A outer s H E).nox (defBody (top j)) t ∧ t { nx := fun _ H' => Q .non H', rt := Q } (start N vs) H)
    (hb : ∀ (kV doc pm : Value) (an : Option Addr) (cdv ct : Value) (us : List Value), us.length = ps.length → bindArgs (PySem.W.fnOf x x (defArgs (top j)) (defBody (top j)) (defScope (top j)) .none kV doc pm an cdv ct) ⟨us, []⟩ = pure (ps.zip us))
    (hg : fa.any (isGlo x) = true := by decide +kernel) : CalF gd P w K mg base CX0 (k + 1) x sp j ps := by
  obtain ⟨fd, F⟩ := F0
  refine ⟨_, fd, FnG.body F S len fun cdv A outer s H vs Q E hr h => ?_, T.glo x hg, F.kp, F.bindsN hb, F⟩
  obtain ⟨t, h1, h2⟩ := hbody cdv _ A outer s H vs Q E hr h
  exact ⟨t, h1.nox, h2⟩
theorem Sy.calXF (T : Sy K mg) {x : Str} {j : Nat} {N ps : List Str} {k : Nat} {sp : Sp} (F0 : FDx K (dG x j))
    (S : FnScope N ps (defScope (top j))) (len : ∀ vs H Q E, sp vs H Q E → vs.length = ps.length)
    (hbody : ∀ (cdv : Value) (f : Addr) (A : Around) (outer : List Env) (s : Shared) (H : Hp) (vs : List V) (Q : VK) (E : XK), RG gd k (A.deeper (envOfC x (defScope (top j)) s.heap.objs.size f cdv)) → sp vs H Q E →
      ∃ t, PSs (cxOf (CX P w) P w K mg base N x (defScope (top j)) f cdv A outer s H E) (defBody (top j)) t ∧ t { nx := fun _ H' => Q .non H', rt := Q } (start N vs) H)
    (hb : ∀ (kV doc pm : Value) (an : Option Addr) (cdv ct : Value) (us : List Value), us.length = ps.length → bindArgs (PySem.W.fnOf x x (defArgs (top j)) (defBody (top j)) (defScope (top j)) .none kV doc pm an cdv ct) ⟨us, []⟩ = pure (ps.zip us))
    (hg : fa.any (isGlo x) = true := by decide +kernel) : CalF gd P w K mg base (CX P w) (k + 1) x sp j ps := by
  obtain ⟨fd, F⟩ := F0
  exact ⟨_, fd, FnG.body F S len fun cdv A outer s H vs Q E hr h => hbody cdv _ A outer s H vs Q E hr h, T.glo x hg, F.kp, F.bindsN hb, F⟩
end
section
variable {K : PySem.W.Frag} {x qual : Str} {params : Arguments} {body : List Stmt} {scope : Scope} {kws : List (Str × V)} {f : Addr} {fd : FuncData} {ps : List Str}
/-- a def without defaults, called with these keywords -/
theorem FunD.kbN (F : FunD K x qual params body scope [] kws f fd) (n : Nat) (ks : List Str) (g : {α : Type} → List α → List α → List α) (hrel : ∀ {vs zs : List V} {us ws : List Value}, Vals vs us → Vals zs ws → Vals (g vs zs) (g us ws))
    (h : ∀ (kV doc pm : Value) (an : Option Addr) (cdv ct : Value) (us ws : List Value), us.length = n → ws.length = ks.length → bindArgs (PySem.W.fnOf x qual params body scope .none kV doc pm an cdv ct) ⟨us, ks.zip ws⟩ = pure (ps.zip (g us ws))) : KBn K fd ps n ks (fun us ws => g us ws) (fun vs zs => g vs zs) := by
  obtain ⟨oc, od, dV, kV, doc, pm, an, cdv, ct, osl, rfl, lk, hcd, hD, hK⟩ := F.ex
  rcases hD with ⟨_, rfl⟩ | ⟨e, _⟩
  · exact ⟨fun s us ws X l1 l2 => .of_eq (h kV doc pm an cdv ct us ws l1 l2), fun r1 r2 => hrel r1 r2⟩
  · exact absurd rfl e
end
def swp {α : Type} (_ : List α) : List α → List α | [a, b] => [b, a] | l => l
theorem swp_rel {vs zs : List V} {us ws : List Value} (_ : Vals vs us) (h : Vals zs ws) : Vals (swp vs zs) (swp us ws) := by
  cases h with
  | nil => exact .nil
  | cons a t => cases t with
    | nil => exact .cons a .nil
    | cons b t => cases t with
      | nil => exact .cons b (.cons a .nil)
      | cons c t => exact .cons a (.cons b (.cons c t))

end L75
namespace L75
open PySem PySem.Spec PyProof.Rows L2
variable {gd : Bool}
local macro_rules | `(tactic| walk_at "y1") => `(tactic| with_reducible first
  | refine tSeq_i ?_ | refine tAsg_i ?_ | refine tCons_i ?_ | refine tNil_i ?_ | refine tC_i ?_ | refine tOp_i ?_ | refine tIfS_i ?_ | refine tTest_i ?_ | refine exBl_i ?_ | refine tRet_i ?_ | refine tCall_i ?_
  | refine tCB_i ?_ | refine tLst_i ?_ | refine tTup_i ?_ | refine rI0_i ?_ | refine tDrop_i ?_ | refine tNext_i ?_ | refine tB_i ?_ | refine tAnd_i ?_ | refine tOr_i ?_ | refine tNot_i ?_ | refine tAndV_i ?_ | refine tOrV_i ?_ | refine tNotV_i ?_
  | refine tYes_i ?_ | refine tTM_i ?_ | refine tPar_i ?_ | refine tSl_i ?_ | refine tNoPart_i ?_ | refine tPart_i ?_ | refine part_i ?_ | refine tMake_i ?_ | refine tProp_i ?_ | refine tCallOG_i ?_ | refine tVeI_i ?_ | refine tOst_i ?_ | refine tMkO_i ?_ | refine sFld_i ?_ | refine fldaug_i ?_ | refine gCons_i ?_ | refine gNil_i ?_ | refine tChain_i ?_ | refine tBM_i ?_ | refine rAdd2_i ?_ | refine rLe2_i ?_ | refine rEq2_i ?_ | refine rEq2_ss ?_ | refine rNe2_i ?_ | refine rNe2_ss ?_ | refine rIsN_i ?_ | refine rNotN_i ?_ | refine tTup_i2 ?_ | refine tIf_i ?_ | refine tUn_i ?_ | refine tDGet_i ?_ | refine sDPut_i ?_ | refine tFld_i ?_ | refine tRetN_i ?_ | refine tBreak_i ?_ | refine tCont_i ?_ | refine rU_i ?_)
local macro_rules | `(tactic| walk_at "yhead") => `(tactic| dsimp only [L2.start, List.map, List.length_cons, List.length_nil, Nat.reduceAdd, Nat.reduceSub, List.replicate, List.cons_append, List.nil_append])
local macro_rules | `(tactic| walk_at "y2") => `(tactic| first
  | walk_at "y1"
  | ((with_reducible refine tVar_i (v := ?v) ?h ?q); (case h => rfl))
  | ((with_reducible refine gName_i ?_); (dsimp only [L2.wipe, List.set]))
  | with_reducible refine iteT ?_ | with_reducible refine iteF ?_ | with_reducible refine iteNT ?_ | with_reducible refine iteNF ?_
  | ((with_reducible refine iteDT ?h ?q); (case h => first | decide +kernel | omega | assumption | exact nv1 | exact nv2 | exact nv3 | exact nv4)) | ((with_reducible refine iteDF ?h ?q); (case h => first | decide +kernel | omega | assumption | exact nv1 | exact nv2 | exact nv3 | exact nv4))
  | ((with_reducible refine iteNDT ?h ?q); (case h => first | decide +kernel | omega | assumption | exact nv1 | exact nv2 | exact nv3 | exact nv4)) | ((with_reducible refine iteNDF ?h ?q); (case h => first | decide +kernel | omega | assumption | exact nv1 | exact nv2 | exact nv3 | exact nv4))
  | ((with_reducible refine rIsi2_1 (T := ?T) (b := true) ?ty ?h ?q); (case ty => first | exact ty_str | exact ty_int | exact ty_bl | exact ty_non); (case h => decide +kernel))
  | ((with_reducible refine rIsi2_1 (T := ?T) (b := false) ?ty ?h ?q); (case ty => first | exact ty_str | exact ty_int | exact ty_bl | exact ty_non); (case h => decide +kernel))
  | ((with_reducible refine rEq2_s ?h ?q); (case h => rfl)) | ((with_reducible refine rNe2_s ?h ?q); (case h => rfl))
  | ((with_reducible refine rEq_i ?h ?q); (case h => rfl)) | ((with_reducible refine rNe_i ?h ?q); (case h => rfl)))
local macro_rules | `(tactic| walk_at "y") => `(tactic| repeat walk_at "y2")

/-! the package's small tests of texts, for any text -/
def isLetterB (c : Nat) : Bool := (decide (97 ≤ c) && decide (c ≤ 122)) || (decide (65 ≤ c) && decide (c ≤ 90))
def isKindB (s : Str) : Bool := decide (1 ≤ s.length) && (decide (s.length ≤ 12) && ((match s.cps[0]? with | some c => decide (65 ≤ c) && decide (c ≤ 90) | none => false) && s.cps.toList.all isLetterB))
def isLabelC (c : Nat) : Bool := decide (32 ≤ c) && (decide (c ≤ 126) && !decide (c = 37))
def isLabelB (s : Str) : Bool := decide (s.length ≤ 40) && s.cps.toList.all isLabelC
theorem filterMap_cps {β : Type} (g : Nat → β) (a : Array Nat) : ((List.range a.size).filterMap fun i => (a[i]?).map g) = a.toList.map g := by
  have h := filterMap_ix (fun c => some (g c)) a.toList
  rw [Array.length_toList] at h
  rw [show (fun i => (a[i]?).map g) = fun i => (a.toList[i]?).bind fun c => some (g c) by funext i; rw [Array.getElem?_toList]; cases a[i]? <;> rfl, h]
  exact congrFun (List.filterMap_eq_map (f := g)) _
section
variable {P : Program} {w : World} {K : PySem.W.Frag} {mg : Str → Option Value} {base : Heap}
def spLetter : Sp := sp1 fun x H Q _ => ∃ c : Nat, x = .str ⟨#[c]⟩ ∧ Q (.bl (isLetterB c)) H
theorem sc_is_letter : FnScope ["character"] ["character"] (defScope (top 14)) := ⟨rfl, rfl, rfl, by decide +kernel, rfl, by decide +kernel, by decide +kernel⟩
theorem c_is_letter (T : Sy K mg) : Cal gd P w K mg base CX0 1 "is_letter" spLetter := by
  refine T.cal (F_is_letter T) sc_is_letter sp1_len (fun cdv f A outer s H vs Q E z h => ?_) (fun _ _ _ _ _ _ us hl => match us, hl with | [_], _ => rfl)
  have hu1 := hu_1 z; have hu2 := hu_2 z; have hu3 := hu_3 z
  obtain ⟨x0, rfl, h⟩ := h
  obtain ⟨c, rfl, q⟩ := h
  refine ⟨_, (pss_one (ps_ret (pe_or (pe_chain op_le2 op_le2 pe_str (pv 0) pe_str) (pe_one (pe_chain op_le2 op_le2 pe_str (pv 0) pe_str))))), ?_⟩
  walk_at "yhead"; walk_at "y"
  refine rLe2_c1 (n := 97) (by decide +kernel) ?_
  have up : (decide (65 ≤ c) && decide (c ≤ 90)) = isLetterB c → ∀ {Q' : VK}, Q' (.bl (isLetterB c)) H → rLe2 (.str "A") (.str ⟨#[c]⟩) H fun z H3 => ∃ k, z = .bl k ∧ if k = true then tC (.str "Z") [some (.str ⟨#[c]⟩)] H3 fun u H4 => rLe2 (.str ⟨#[c]⟩) u H4 Q' else Q' (.bl false) H3 := fun e {Q'} q' => by
    refine rLe2_c1 (n := 65) (by decide +kernel) ?_
    by_cases h1 : 65 ≤ c
    · refine ⟨_, rfl, iteDT h1 ?_⟩
      walk_at "y"
      refine rLe2_c2 (n := 90) (by decide +kernel) ?_
      rw [← e, decide_eq_true h1, Bool.true_and] at q'
      exact q'
    · refine ⟨_, rfl, iteDF h1 ?_⟩
      rw [← e, decide_eq_false h1, Bool.false_and] at q'
      exact q'
  unfold isLetterB at *
  by_cases h1 : 97 ≤ c
  · refine ⟨_, rfl, iteDT h1 ?_⟩
    walk_at "y"
    refine rLe2_c2 (n := 122) (by decide +kernel) ?_
    by_cases h2 : c ≤ 122
    · refine ⟨_, rfl, iteDT h2 ?_⟩
      rw [decide_eq_true h1, decide_eq_true h2] at q
      exact q
    · refine ⟨_, rfl, iteDF h2 ?_⟩
      walk_at "y"
      exact up (by rw [decide_eq_false h2, Bool.and_false, Bool.false_or]) q
  · refine ⟨_, rfl, iteDF h1 ?_⟩
    walk_at "y"
    exact up (by rw [decide_eq_false h1, Bool.false_and, Bool.false_or]) q
/-- no text -/
def NotS (K : PySem.W.Frag) (H : Hp) (v : V) : Prop := ∃ T, TyX K H v (.type T) ∧ kitB T "str" = some false
def spKind (K : PySem.W.Frag) : Sp := sp1 fun x H Q _ => (∃ s, x = .str s ∧ s.length ≤ 1000 ∧ ∀ H', Same H H' → Q (.bl (isKindB s)) H') ∨ (NotS K H x ∧ Q (.bl false) H)
theorem sc_is_kind : FnScope ["value", "character"] ["value"] (defScope (top 15)) := ⟨rfl, rfl, rfl, by decide +kernel, rfl, by decide +kernel, by decide +kernel⟩
theorem c_is_kind (T : Sy K mg) : Cal gd P w K mg base CX0 2 "is_kind" (spKind K) := by
  refine T.cal (F_is_kind T) sc_is_kind sp1_len (fun cdv f A outer s H vs Q E z h => ?_) (fun _ _ _ _ _ _ us hl => match us, hl with | [_], _ => rfl)
  have hu1 := hu_1 z; have hu2 := hu_2 z; have hu3 := hu_3 z
  obtain ⟨x0, rfl, h⟩ := h
  rcases h with ⟨s, rfl, hs, q⟩ | ⟨⟨U, ty, e⟩, q⟩
  rotate_left
  · refine ⟨_, (pss_cons (ps_if (PW.pt (pw_or (pt_not (pt_val (pe_callB (r := rIsi2 K) call_isi2 (by rfl) (T.free "isinstance") (by decide +kernel) (pa_cons (pv 0) (pa_cons (pe_bltn (v := .ty "str") (u := .type "str") (by rfl) (T.free "str") (by decide +kernel) rfl) pa_nil))))) (pw_or1 (pt_not (pt_chain op_le2 op_le2 pe_int (pe_callB (r := rLen2 K) call_len2 (by rfl) (T.free "len") (by decide +kernel) (pa_cons (pv 0) pa_nil)) (pe_gi (T.int "MOST_LETTERS" 12))))))) (pss_one (ps_ret pe_bl)) pss_nil) (pss_one (ps_ret (pe_and (pe_chain op_le2 op_le2 pe_str (pe_ix (r := rGet K) (ix_get hu3) (pv 0) pe_int (fun _ _ => rfl)) pe_str) (pe_one (pe_callB (r := rAll K) (cr_all rfl) (by rfl) (T.free "all") (by decide +kernel) (pa_cons (pe_lc (own := [("character", 1)]) (g := gName 1) (by rfl) sc_is_kind.nd (pi_anyK (K := K) rfl (pv 0)) (blkOk_by (own := [("character", 1)]) (N := ["value", "character"]) (sc := (defScope (top 15))) (by decide +kernel)) (fun _ _ _ _ _ => (pg_name (i := 1) sc_is_kind.nd rfl (by first | exact Or.inl rfl | exact Or.inr rfl))) (fun _ _ _ _ _ => pts_nil) (fun _ _ _ _ _ => (pe_c (c_is_letter T) z (pa_cons (pv 1) pa_nil)))) pa_nil))))))), ?_⟩
    walk_at "yhead"; walk_at "y"
    refine rIsi2_1 ty e ?_
    walk_at "y"
    exact q
  refine ⟨_, (pss_cons (ps_if (PW.pt (pw_or (pt_not (pt_val (pe_callB (r := rIsi2 K) call_isi2 (by rfl) (T.free "isinstance") (by decide +kernel) (pa_cons (pv 0) (pa_cons (pe_bltn (v := .ty "str") (u := .type "str") (by rfl) (T.free "str") (by decide +kernel) rfl) pa_nil))))) (pw_or1 (pt_not (pt_chain op_le2 op_le2 pe_int (pe_callB (r := rLen2 K) call_len2 (by rfl) (T.free "len") (by decide +kernel) (pa_cons (pv 0) pa_nil)) (pe_gi (T.int "MOST_LETTERS" 12))))))) (pss_one (ps_ret pe_bl)) pss_nil) (pss_one (ps_ret (pe_and (pe_chain op_le2 op_le2 pe_str (pe_ix (r := rGet K) (ix_get hu3) (pv 0) pe_int (fun _ _ => rfl)) pe_str) (pe_one (pe_callB (r := rAll K) (cr_all rfl) (by rfl) (T.free "all") (by decide +kernel) (pa_cons (pe_lc (own := [("character", 1)]) (g := gName 1) (by rfl) sc_is_kind.nd (pi_anyK (K := K) rfl (pv 0)) (blkOk_by (own := [("character", 1)]) (N := ["value", "character"]) (sc := (defScope (top 15))) (by decide +kernel)) (fun _ _ _ _ _ => (pg_name (i := 1) sc_is_kind.nd rfl (by first | exact Or.inl rfl | exact Or.inr rfl))) (fun _ _ _ _ _ => pts_nil) (fun _ _ _ _ _ => (pe_c (c_is_letter T) z (pa_cons (pv 1) pa_nil)))) pa_nil))))))), ?_⟩
  walk_at "yhead"; walk_at "y"
  refine rLen2_s (sz4 hs) ?_
  unfold isKindB at q
  by_cases h1 : 1 ≤ s.length
  · rw [decide_eq_true h1, Bool.true_and] at q
    refine rLe2_i ⟨_, rfl, iteDT (by omega) ?_⟩
    walk_at "y"
    by_cases h2 : s.length ≤ 12
    · rw [decide_eq_true h2, Bool.true_and] at q
      refine iteNDT (by omega) ?_
      walk_at "y"
      obtain ⟨c, hc⟩ : ∃ c, s.cps[0]? = some c := by
        have h3 : 0 < s.cps.size := h1
        exact ⟨s.cps[0], by simp [h3]⟩
      rw [hc] at q
      dsimp only at q
      refine rGet_s (n := 0) (c := c) (sz4 hs) (by rw [Array.getElem?_toList]; exact hc) ?_
      refine rLe2_c1 (n := 65) (by decide +kernel) ?_
      by_cases h3 : 65 ≤ c
      · rw [decide_eq_true h3, Bool.true_and] at q
        refine ⟨_, rfl, iteDT h3 ?_⟩
        walk_at "y"
        refine rLe2_c2 (n := 90) (by decide +kernel) ?_
        by_cases h4 : c ≤ 90
        · rw [decide_eq_true h4, Bool.true_and] at q
          refine ⟨_, rfl, iteDT h4 ?_⟩
          walk_at "y"
          refine lc_s ?_
          walk_at "y"
          refine ⟨_, rfl, lc_pure (walk_str) (sz4 hs) (fun i => (s.cps[i]?).map isLetterB) (firm_FR V.bl) (fun _ _ => trivial) (fun i H0 x H1 y => by obtain ⟨rfl, _⟩ := y; exact Same.refl _) (fun i x H0 H1 hi s0 s1 y N C hC hN => ?_) fun D H1 vs hD s1 h1 pr => ?_⟩
          · obtain ⟨rfl, c', hc', rfl⟩ := y
            walk_at "y"
            refine ⟨rfl, ?_⟩
            walk_at "y"
            exact ⟨_, rfl, c', rfl, hC _ _ (isLetterB c') (Same.refl _) (by rw [hc']; rfl) rfl⟩
          · rw [paired_FR pr, filterMap_cps] at h1
            walk_at "y"
            exact ⟨D, _, rfl, SqL.of h1, by rw [List.all_map]; exact q _ s1⟩
        · rw [decide_eq_false h4, Bool.false_and] at q
          refine ⟨_, rfl, iteDF h4 ?_⟩
          exact q _ (Same.refl _)
      · rw [decide_eq_false h3, Bool.false_and, Bool.false_and] at q
        refine ⟨_, rfl, iteDF h3 ?_⟩
        walk_at "y"
        exact q _ (Same.refl _)
    · rw [decide_eq_false h2, Bool.false_and] at q
      refine iteNDF (by omega) ?_
      walk_at "y"
      exact q _ (Same.refl _)
  · rw [decide_eq_false h1, Bool.false_and] at q
    refine rLe2_i ⟨_, rfl, iteDF (by omega) ?_⟩
    walk_at "y"
    exact q _ (Same.refl _)
def spLabel (K : PySem.W.Frag) : Sp := sp1 fun x H Q _ => (∃ s, x = .str s ∧ s.length ≤ 1000 ∧ ∀ H', Same H H' → Q (.bl (isLabelB s)) H') ∨ (NotS K H x ∧ Q (.bl false) H)
theorem sc_is_label : FnScope ["value", "character"] ["value"] (defScope (top 16)) := ⟨rfl, rfl, rfl, by decide +kernel, rfl, by decide +kernel, by decide +kernel⟩
theorem c_is_label (T : Sy K mg) : Cal gd P w K mg base CX0 2 "is_label" (spLabel K) := by
  refine T.cal (F_is_label T) sc_is_label sp1_len (fun cdv f A outer s H vs Q E z h => ?_) (fun _ _ _ _ _ _ us hl => match us, hl with | [_], _ => rfl)
  have hu1 := hu_1 z; have hu2 := hu_2 z; have hu3 := hu_3 z
  obtain ⟨x0, rfl, h⟩ := h
  rcases h with ⟨s, rfl, hs, q⟩ | ⟨⟨U, ty, e⟩, q⟩
  rotate_left
  · refine ⟨_, (pss_cons (ps_if (PW.pt (pw_or (pt_not (pt_val (pe_callB (r := rIsi2 K) call_isi2 (by rfl) (T.free "isinstance") (by decide +kernel) (pa_cons (pv 0) (pa_cons (pe_bltn (v := .ty "str") (u := .type "str") (by rfl) (T.free "str") (by decide +kernel) rfl) pa_nil))))) (pw_or1 (pt_cmpR op_gt (pe_callB (r := rLen2 K) call_len2 (by rfl) (T.free "len") (by decide +kernel) (pa_cons (pv 0) pa_nil)) (pe_gi (T.int "MOST_LABEL" 40)) (nomark _))))) (pss_one (ps_ret pe_bl)) pss_nil) (pss_one (ps_ret (pe_callB (r := rAll K) (cr_all rfl) (by rfl) (T.free "all") (by decide +kernel) (pa_cons (pe_lc (own := [("character", 1)]) (g := gName 1) (by rfl) sc_is_label.nd (pi_anyK (K := K) rfl (pv 0)) (blkOk_by (own := [("character", 1)]) (N := ["value", "character"]) (sc := (defScope (top 16))) (by decide +kernel)) (fun _ _ _ _ _ => (pg_name (i := 1) sc_is_label.nd rfl (by first | exact Or.inl rfl | exact Or.inr rfl))) (fun _ _ _ _ _ => pts_nil) (fun _ _ _ _ _ => (pe_and (pe_chain op_le2 op_le2 pe_int (pe_callB call_ord (by rfl) (T.free "ord") (by decide +kernel) (pa_cons (pv 1) pa_nil)) pe_int) (pe_one (pe_cmpR (r := rNe2 K) (op_ne2 hu1) (pe_callB call_ord (by rfl) (T.free "ord") (by decide +kernel) (pa_cons (pv 1) pa_nil)) pe_int (nomark _)))))) pa_nil))))), ?_⟩
    walk_at "yhead"; walk_at "y"
    refine rIsi2_1 ty e ?_
    walk_at "y"
    exact q
  refine ⟨_, (pss_cons (ps_if (PW.pt (pw_or (pt_not (pt_val (pe_callB (r := rIsi2 K) call_isi2 (by rfl) (T.free "isinstance") (by decide +kernel) (pa_cons (pv 0) (pa_cons (pe_bltn (v := .ty "str") (u := .type "str") (by rfl) (T.free "str") (by decide +kernel) rfl) pa_nil))))) (pw_or1 (pt_cmpR op_gt (pe_callB (r := rLen2 K) call_len2 (by rfl) (T.free "len") (by decide +kernel) (pa_cons (pv 0) pa_nil)) (pe_gi (T.int "MOST_LABEL" 40)) (nomark _))))) (pss_one (ps_ret pe_bl)) pss_nil) (pss_one (ps_ret (pe_callB (r := rAll K) (cr_all rfl) (by rfl) (T.free "all") (by decide +kernel) (pa_cons (pe_lc (own := [("character", 1)]) (g := gName 1) (by rfl) sc_is_label.nd (pi_anyK (K := K) rfl (pv 0)) (blkOk_by (own := [("character", 1)]) (N := ["value", "character"]) (sc := (defScope (top 16))) (by decide +kernel)) (fun _ _ _ _ _ => (pg_name (i := 1) sc_is_label.nd rfl (by first | exact Or.inl rfl | exact Or.inr rfl))) (fun _ _ _ _ _ => pts_nil) (fun _ _ _ _ _ => (pe_and (pe_chain op_le2 op_le2 pe_int (pe_callB call_ord (by rfl) (T.free "ord") (by decide +kernel) (pa_cons (pv 1) pa_nil)) pe_int) (pe_one (pe_cmpR (r := rNe2 K) (op_ne2 hu1) (pe_callB call_ord (by rfl) (T.free "ord") (by decide +kernel) (pa_cons (pv 1) pa_nil)) pe_int (nomark _)))))) pa_nil))))), ?_⟩
  walk_at "yhead"; walk_at "y"
  refine rLen2_s (sz4 hs) ?_
  unfold isLabelB at q
  by_cases h1 : s.length ≤ 40
  · rw [decide_eq_true h1, Bool.true_and] at q
    walk_at "y"
    refine lc_s ?_
    walk_at "y"
    refine ⟨_, rfl, lc_pure (walk_str) (sz4 hs) (fun i => (s.cps[i]?).map isLabelC) (firm_FR V.bl) (fun _ _ => trivial) (fun i H0 x H1 y => by obtain ⟨rfl, _⟩ := y; exact Same.refl _) (fun i x H0 H1 hi s0 s1 y N C hC hN => ?_) fun D H1 vs hD s1 h1 pr => ?_⟩
    · obtain ⟨rfl, c, hc, rfl⟩ := y
      have fin : ∀ b, isLabelC c = b → C (.bl b) H1 := fun b e => hC _ _ b (Same.refl _) (by rw [hc, Option.map_some, e]) rfl
      have e0 : (({ cps := #[c] } : Str).cps.getD 0 0) = c := rfl
      walk_at "y"
      refine ⟨rfl, ?_⟩
      walk_at "y"
      refine ⟨_, rfl, rfl, ?_⟩
      rw [e0]
      unfold isLabelC at fin
      refine rLe2_i ⟨_, rfl, ?_⟩
      by_cases h1 : 32 ≤ c
      · rw [decide_eq_true h1, Bool.true_and] at fin
        refine iteDT (by omega) ?_
        walk_at "y"
        by_cases h2 : c ≤ 126
        · rw [decide_eq_true h2, Bool.true_and] at fin
          refine iteDT (by omega) ?_
          walk_at "y"
          refine ⟨_, rfl, rfl, ?_⟩
          rw [e0]
          refine rNe2_i ?_
          exact fin _ (by rw [show decide ((c : Int) = 37) = decide (c = 37) from decide_eq_decide.mpr (by omega)])
        · rw [decide_eq_false h2, Bool.false_and] at fin
          refine iteDF (by omega) ?_
          exact fin _ rfl
      · rw [decide_eq_false h1, Bool.false_and] at fin
        refine iteDF (by omega) ?_
        walk_at "y"
        exact fin _ rfl
    · rw [paired_FR pr, filterMap_cps] at h1
      walk_at "y"
      exact ⟨D, _, rfl, SqL.of h1, by rw [List.all_map]; exact q _ s1⟩
  · rw [decide_eq_false h1, Bool.false_and] at q
    walk_at "y"
    exact q _ (Same.refl _)
end

end L75
namespace L75
open PySem PySem.Spec PyProof.Rows L2
variable {gd : Bool}
local macro_rules | `(tactic| walk_at "y1") => `(tactic| with_reducible first
  | refine tSeq_i ?_ | refine tAsg_i ?_ | refine tCons_i ?_ | refine tNil_i ?_ | refine tC_i ?_ | refine tOp_i ?_ | refine tIfS_i ?_ | refine tTest_i ?_ | refine exBl_i ?_ | refine tRet_i ?_ | refine tCall_i ?_
  | refine tCB_i ?_ | refine tLst_i ?_ | refine tTup_i ?_ | refine rI0_i ?_ | refine tDrop_i ?_ | refine tNext_i ?_ | refine tB_i ?_ | refine tAnd_i ?_ | refine tOr_i ?_ | refine tNot_i ?_ | refine tAndV_i ?_ | refine tOrV_i ?_ | refine tNotV_i ?_
  | refine tYes_i ?_ | refine tTM_i ?_ | refine tPar_i ?_ | refine tSl_i ?_ | refine tNoPart_i ?_ | refine tPart_i ?_ | refine part_i ?_ | refine tMake_i ?_ | refine tProp_i ?_ | refine tCallOG_i ?_ | refine tVeI_i ?_ | refine tOst_i ?_ | refine tMkO_i ?_ | refine sFld_i ?_ | refine fldaug_i ?_ | refine gCons_i ?_ | refine gNil_i ?_ | refine tChain_i ?_ | refine tBM_i ?_ | refine rAdd2_i ?_ | refine rLe2_i ?_ | refine rEq2_i ?_ | refine rEq2_ss ?_ | refine rNe2_i ?_ | refine rNe2_ss ?_ | refine rIsN_i ?_ | refine rNotN_i ?_ | refine tTup_i2 ?_ | refine tIf_i ?_ | refine tUn_i ?_ | refine tDGet_i ?_ | refine sDPut_i ?_ | refine tFld_i ?_ | refine tRetN_i ?_ | refine tBreak_i ?_ | refine tCont_i ?_ | refine rU_i ?_)
local macro_rules | `(tactic| walk_at "yhead") => `(tactic| dsimp only [L2.start, List.map, List.length_cons, List.length_nil, Nat.reduceAdd, Nat.reduceSub, List.replicate, List.cons_append, List.nil_append])
local macro_rules | `(tactic| walk_at "y2") => `(tactic| first
  | walk_at "y1"
  | ((with_reducible refine tVar_i (v := ?v) ?h ?q); (case h => rfl))
  | ((with_reducible refine gName_i ?_); (dsimp only [L2.wipe, List.set]))
  | with_reducible refine iteT ?_ | with_reducible refine iteF ?_ | with_reducible refine iteNT ?_ | with_reducible refine iteNF ?_
  | ((with_reducible refine iteDT ?h ?q); (case h => first | decide +kernel | omega | assumption | exact nv1 | exact nv2 | exact nv3 | exact nv4)) | ((with_reducible refine iteDF ?h ?q); (case h => first | decide +kernel | omega | assumption | exact nv1 | exact nv2 | exact nv3 | exact nv4))
  | ((with_reducible refine iteNDT ?h ?q); (case h => first | decide +kernel | omega | assumption | exact nv1 | exact nv2 | exact nv3 | exact nv4)) | ((with_reducible refine iteNDF ?h ?q); (case h => first | decide +kernel | omega | assumption | exact nv1 | exact nv2 | exact nv3 | exact nv4))
  | ((with_reducible refine rIsi2_1 (T := ?T) (b := true) ?ty ?h ?q); (case ty => first | exact ty_str | exact ty_int | exact ty_bl | exact ty_non); (case h => decide +kernel))
  | ((with_reducible refine rIsi2_1 (T := ?T) (b := false) ?ty ?h ?q); (case ty => first | exact ty_str | exact ty_int | exact ty_bl | exact ty_non); (case h => decide +kernel))
  | ((with_reducible refine rEq2_s ?h ?q); (case h => rfl)) | ((with_reducible refine rNe2_s ?h ?q); (case h => rfl))
  | ((with_reducible refine rEq_i ?h ?q); (case h => rfl)) | ((with_reducible refine rNe_i ?h ?q); (case h => rfl)))
local macro_rules | `(tactic| walk_at "y") => `(tactic| repeat walk_at "y2")

/-! items of events, and what the package's small tests tell of them -/
inductive Itm where | non | bl (b : Bool) | int (i : Int) | str (s : Str) | tu (xs : List V) | ls (xs : List V) | dc
def Itm.At (H : Hp) (v : V) : Itm → Prop
  | .non => v = .non | .bl b => v = .bl b | .int i => v = .int i | .str s => v = .str s ∧ s.length ≤ 1000
  | .tu xs => ∃ a, v = .ref a ∧ H a = some (.tup xs) | .ls xs => ∃ a, v = .ref a ∧ H a = some (.lst xs) | .dc => ∃ a, v = .ref a ∧ H a = some (.dK [])
theorem Itm.At.same {H H' : Hp} {v : V} {it : Itm} (h : it.At H v) (s : Same H H') : it.At H' v := by
  cases it with
  | tu xs => exact (let ⟨a, e, k⟩ := h; ⟨a, e, s _ _ k⟩)
  | ls xs => exact (let ⟨a, e, k⟩ := h; ⟨a, e, s _ _ k⟩)
  | dc => exact (let ⟨a, e, k⟩ := h; ⟨a, e, s _ _ k⟩)
  | _ => exact h
def numB : Itm → Bool | .int i => decide (0 ≤ i) | _ => false
def isNameC (c : Nat) : Bool := decide (97 ≤ c) && decide (c ≤ 122)
def isNameB (s : Str) : Bool := decide (1 ≤ s.length) && (decide (s.length ≤ 8) && s.cps.toList.all isNameC)
def nameB : Itm → Bool | .str s => isNameB s | _ => false
def kindB : Itm → Bool | .str s => isKindB s | _ => false
def labelB : Itm → Bool | .str s => isLabelB s | _ => false
def plainB : Itm → Bool | .non => true | .bl _ => true | .int i => decide (-1000000000 ≤ i) && decide (i ≤ 1000000000) | .str s => isLabelB s | _ => false
section
variable {P : Program} {w : World} {K : PySem.W.Frag} {mg : Str → Option Value} {base : Heap}
theorem Itm.At.notS {H : Hp} {v : V} {it : Itm} (h : it.At H v) (n : ∀ s, it ≠ .str s) : NotS K H v := by
  cases it with
  | non => cases (show v = .non from h); exact ⟨_, ty_non, by decide +kernel⟩
  | bl b => cases (show v = .bl b from h); exact ⟨_, ty_bl, by decide +kernel⟩
  | int i => cases (show v = .int i from h); exact ⟨_, ty_int, by decide +kernel⟩
  | str s => exact absurd rfl (n s)
  | tu xs => obtain ⟨a, rfl, k⟩ := h; exact ⟨_, ty_tup k, by decide +kernel⟩
  | ls xs => obtain ⟨a, rfl, k⟩ := h; exact ⟨_, ty_lst k, by decide +kernel⟩
  | dc => obtain ⟨a, rfl, k⟩ := h; exact ⟨_, .base (.dK k), by decide +kernel⟩
def spNum : Sp := sp1 fun x H Q _ => ∃ it : Itm, it.At H x ∧ Q (.bl (numB it)) H
theorem sc_s7_is_number : FnScope ["value"] ["value"] (defScope (top 22)) := ⟨rfl, rfl, rfl, by decide +kernel, rfl, by decide +kernel, by decide +kernel⟩
theorem c_s7_is_number (T : Sy K mg) : Cal gd P w K mg base CX0 1 "s7_is_number" spNum := by
  refine T.cal (F_s7_is_number T) sc_s7_is_number sp1_len (fun cdv f A outer s H vs Q E z h => ?_) (fun _ _ _ _ _ _ us hl => match us, hl with | [_], _ => rfl)
  have hu1 := hu_1 z; have hu2 := hu_2 z; have hu3 := hu_3 z
  obtain ⟨x0, rfl, h⟩ := h
  obtain ⟨it, ha, q⟩ := h
  refine ⟨_, (pss_one (ps_ret (pe_and (pe_callB (r := rIsi2 K) call_isi2 (by rfl) (T.free "isinstance") (by decide +kernel) (pa_cons (pv 0) (pa_cons (pe_bltn (v := .ty "int") (u := .type "int") (by rfl) (T.free "int") (by decide +kernel) rfl) pa_nil))) (pe_and (pe_not (pe_callB (r := rIsi2 K) call_isi2 (by rfl) (T.free "isinstance") (by decide +kernel) (pa_cons (pv 0) (pa_cons (pe_bltn (v := .ty "bool") (u := .type "bool") (by rfl) (T.free "bool") (by decide +kernel) rfl) pa_nil)))) (pe_one (pe_cmpR op_ge (pv 0) pe_int (nomark _))))))), ?_⟩
  cases it with
  | int i => cases (show x0 = .int i from ha); walk_at "yhead"; walk_at "y"; exact q
  | bl b => cases (show x0 = .bl b from ha); walk_at "yhead"; walk_at "y"; exact q
  | non => cases (show x0 = .non from ha); walk_at "yhead"; walk_at "y"; exact q
  | str s => obtain ⟨rfl, _⟩ := ha; walk_at "yhead"; walk_at "y"; exact q
  | tu xs => obtain ⟨a, rfl, k⟩ := ha; walk_at "yhead"; walk_at "y"; refine rIsi2_1 (b := false) (ty_tup k) (by decide +kernel) ?_; walk_at "y"; exact q
  | ls xs => obtain ⟨a, rfl, k⟩ := ha; walk_at "yhead"; walk_at "y"; refine rIsi2_1 (b := false) (ty_lst k) (by decide +kernel) ?_; walk_at "y"; exact q
  | dc => obtain ⟨a, rfl, k⟩ := ha; walk_at "yhead"; walk_at "y"; refine rIsi2_1 (b := false) (.base (.dK k)) (by decide +kernel) ?_; walk_at "y"; exact q
def spName (K : PySem.W.Frag) : Sp := sp1 fun x H Q _ => (∃ s, x = .str s ∧ s.length ≤ 1000 ∧ ∀ H', Same H H' → Q (.bl (isNameB s)) H') ∨ (NotS K H x ∧ Q (.bl false) H)
theorem sc_s7_is_name : FnScope ["value", "letter"] ["value"] (defScope (top 23)) := ⟨rfl, rfl, rfl, by decide +kernel, rfl, by decide +kernel, by decide +kernel⟩
theorem c_s7_is_name (T : Sy K mg) : Cal gd P w K mg base CX0 2 "s7_is_name" (spName K) := by
  refine T.cal (F_s7_is_name T) sc_s7_is_name sp1_len (fun cdv f A outer s H vs Q E z h => ?_) (fun _ _ _ _ _ _ us hl => match us, hl with | [_], _ => rfl)
  have hu1 := hu_1 z; have hu2 := hu_2 z; have hu3 := hu_3 z
  obtain ⟨x0, rfl, h⟩ := h
  rcases h with ⟨s, rfl, hs, q⟩ | ⟨⟨U, ty, e⟩, q⟩
  rotate_left
  · refine ⟨_, (pss_cons (ps_if (PW.pt (pw_or (pt_not (pt_val (pe_callB (r := rIsi2 K) call_isi2 (by rfl) (T.free "isinstance") (by decide +kernel) (pa_cons (pv 0) (pa_cons (pe_bltn (v := .ty "str") (u := .type "str") (by rfl) (T.free "str") (by decide +kernel) rfl) pa_nil))))) (pw_or1 (pt_not (pt_chain op_le2 op_le2 pe_int (pe_callB (r := rLen2 K) call_len2 (by rfl) (T.free "len") (by decide +kernel) (pa_cons (pv 0) pa_nil)) (pe_gi (T.int "MOST_NAME" 8))))))) (pss_one (ps_ret pe_bl)) pss_nil) (pss_one (ps_ret (pe_callB (r := rAll K) (cr_all rfl) (by rfl) (T.free "all") (by decide +kernel) (pa_cons (pe_lc (own := [("letter", 1)]) (g := gName 1) (by rfl) sc_s7_is_name.nd (pi_anyK (K := K) rfl (pv 0)) (blkOk_by (own := [("letter", 1)]) (N := ["value", "letter"]) (sc := (defScope (top 23))) (by decide +kernel)) (fun _ _ _ _ _ => (pg_name (i := 1) sc_s7_is_name.nd rfl (by first | exact Or.inl rfl | exact Or.inr rfl))) (fun _ _ _ _ _ => pts_nil) (fun _ _ _ _ _ => (pe_chain op_le2 op_le2 pe_str (pv 1) pe_str))) pa_nil))))), ?_⟩
    walk_at "yhead"; walk_at "y"
    refine rIsi2_1 ty e ?_
    walk_at "y"
    exact q
  refine ⟨_, (pss_cons (ps_if (PW.pt (pw_or (pt_not (pt_val (pe_callB (r := rIsi2 K) call_isi2 (by rfl) (T.free "isinstance") (by decide +kernel) (pa_cons (pv 0) (pa_cons (pe_bltn (v := .ty "str") (u := .type "str") (by rfl) (T.free "str") (by decide +kernel) rfl) pa_nil))))) (pw_or1 (pt_not (pt_chain op_le2 op_le2 pe_int (pe_callB (r := rLen2 K) call_len2 (by rfl) (T.free "len") (by decide +kernel) (pa_cons (pv 0) pa_nil)) (pe_gi (T.int "MOST_NAME" 8))))))) (pss_one (ps_ret pe_bl)) pss_nil) (pss_one (ps_ret (pe_callB (r := rAll K) (cr_all rfl) (by rfl) (T.free "all") (by decide +kernel) (pa_cons (pe_lc (own := [("letter", 1)]) (g := gName 1) (by rfl) sc_s7_is_name.nd (pi_anyK (K := K) rfl (pv 0)) (blkOk_by (own := [("letter", 1)]) (N := ["value", "letter"]) (sc := (defScope (top 23))) (by decide +kernel)) (fun _ _ _ _ _ => (pg_name (i := 1) sc_s7_is_name.nd rfl (by first | exact Or.inl rfl | exact Or.inr rfl))) (fun _ _ _ _ _ => pts_nil) (fun _ _ _ _ _ => (pe_chain op_le2 op_le2 pe_str (pv 1) pe_str))) pa_nil))))), ?_⟩
  walk_at "yhead"; walk_at "y"
  refine rLen2_s (sz4 hs) ?_
  unfold isNameB at q
  by_cases h1 : 1 ≤ s.length
  · rw [decide_eq_true h1, Bool.true_and] at q
    refine rLe2_i ⟨_, rfl, iteDT (by omega) ?_⟩
    walk_at "y"
    by_cases h2 : s.length ≤ 8
    · rw [decide_eq_true h2, Bool.true_and] at q
      refine iteNDT (by omega) ?_
      walk_at "y"
      refine lc_s ?_
      walk_at "y"
      refine ⟨_, rfl, lc_pure (walk_str) (sz4 hs) (fun i => (s.cps[i]?).map isNameC) (firm_FR V.bl) (fun _ _ => trivial) (fun i H0 x H1 y => by obtain ⟨rfl, _⟩ := y; exact Same.refl _) (fun i x H0 H1 hi s0 s1 y N C hC hN => ?_) fun D H1 vs hD s1 h1 pr => ?_⟩
      · obtain ⟨rfl, c', hc', rfl⟩ := y
        have fin : ∀ b, isNameC c' = b → C (.bl b) H1 := fun b e => hC _ _ b (Same.refl _) (by rw [hc', Option.map_some, e]) rfl
        unfold isNameC at fin
        walk_at "y"
        refine ⟨rfl, ?_⟩
        walk_at "y"
        refine rLe2_c1 (n := 97) (by decide +kernel) ?_
        by_cases h3 : 97 ≤ c'
        · rw [decide_eq_true h3, Bool.true_and] at fin
          refine ⟨_, rfl, iteDT h3 ?_⟩
          walk_at "y"
          refine rLe2_c2 (n := 122) (by decide +kernel) ?_
          exact fin _ rfl
        · rw [decide_eq_false h3, Bool.false_and] at fin
          refine ⟨_, rfl, iteDF h3 ?_⟩
          exact fin _ rfl
      · rw [paired_FR pr, filterMap_cps] at h1
        walk_at "y"
        exact ⟨D, _, rfl, SqL.of h1, by rw [List.all_map]; exact q _ s1⟩
    · rw [decide_eq_false h2, Bool.false_and] at q
      refine iteNDF (by omega) ?_
      walk_at "y"
      exact q _ (Same.refl _)
  · rw [decide_eq_false h1, Bool.false_and] at q
    refine rLe2_i ⟨_, rfl, iteDF (by omega) ?_⟩
    walk_at "y"
    exact q _ (Same.refl _)
def spPlain : Sp := sp1 fun x H Q _ => ∃ it : Itm, it.At H x ∧ ∀ H', Same H H' → Q (.bl (plainB it)) H'
theorem sc_s7_is_plain : FnScope ["value"] ["value"] (defScope (top 24)) := ⟨rfl, rfl, rfl, by decide +kernel, rfl, by decide +kernel, by decide +kernel⟩
theorem c_s7_is_plain (T : Sy K mg) : Cal gd P w K mg base CX0 3 "s7_is_plain" spPlain := by
  refine T.cal (F_s7_is_plain T) sc_s7_is_plain sp1_len (fun cdv f A outer s H vs Q E z h => ?_) (fun _ _ _ _ _ _ us hl => match us, hl with | [_], _ => rfl)
  have hu1 := hu_1 z; have hu2 := hu_2 z; have hu3 := hu_3 z
  obtain ⟨x0, rfl, h⟩ := h
  obtain ⟨it, ha, q⟩ := h
  refine ⟨_, (pss_cons (ps_if (PW.pt (pw_or (pt_cmpR (r := rIsN) op_isN (pv 0) pe_non (nomark _)) (pw_or1 (pt_val (pe_callB (r := rIsi2 K) call_isi2 (by rfl) (T.free "isinstance") (by decide +kernel) (pa_cons (pv 0) (pa_cons (pe_bltn (v := .ty "bool") (u := .type "bool") (by rfl) (T.free "bool") (by decide +kernel) rfl) pa_nil))))))) (pss_one (ps_ret pe_bl)) pss_nil) (pss_cons (ps_if (pt_val (pe_callB (r := rIsi2 K) call_isi2 (by rfl) (T.free "isinstance") (by decide +kernel) (pa_cons (pv 0) (pa_cons (pe_bltn (v := .ty "int") (u := .type "int") (by rfl) (T.free "int") (by decide +kernel) rfl) pa_nil)))) (pss_one (ps_ret (pe_chain op_le2 op_le2 (pe_op op_sub pe_int (pe_gi (T.int "MOST_VALUE" 1000000000))) (pv 0) (pe_gi (T.int "MOST_VALUE" 1000000000))))) pss_nil) (pss_one (ps_ret (pe_c (c_is_label T) z (pa_cons (pv 0) pa_nil)))))), ?_⟩
  cases it with
  | int i =>
    cases (show x0 = .int i from ha)
    walk_at "yhead"; walk_at "y"
    have q := q H (Same.refl _)
    have e0 : decide ((0 : Int) - 1000000000 ≤ i) = decide (-1000000000 ≤ i) := rfl
    rw [e0]
    have e1 : plainB (.int i) = (decide (-1000000000 ≤ i) && decide (i ≤ 1000000000)) := rfl
    rw [e1] at q
    by_cases c : -1000000000 ≤ i
    · rw [decide_eq_true c, Bool.true_and] at q
      rw [decide_eq_true c, if_pos rfl]
      walk_at "y"
      exact q
    · rw [decide_eq_false c, Bool.false_and] at q
      rw [decide_eq_false c, if_neg (by decide)]
      exact q
  | bl b => cases (show x0 = .bl b from ha); walk_at "yhead"; walk_at "y"; exact q _ (Same.refl _)
  | non => cases (show x0 = .non from ha); walk_at "yhead"; walk_at "y"; exact q _ (Same.refl _)
  | str s => obtain ⟨rfl, hs⟩ := ha; walk_at "yhead"; walk_at "y"; exact ⟨_, rfl, .inl ⟨s, rfl, hs, q⟩⟩
  | tu xs => obtain ⟨a, rfl, k⟩ := id ha; walk_at "yhead"; walk_at "y"; refine rIsi2_1 (b := false) (ty_tup k) (by decide +kernel) ?_; walk_at "y"; refine rIsi2_1 (b := false) (ty_tup k) (by decide +kernel) ?_; walk_at "y"; exact ⟨_, rfl, .inr ⟨ha.notS (fun _ z => nomatch z), q _ (Same.refl _)⟩⟩
  | ls xs => obtain ⟨a, rfl, k⟩ := id ha; walk_at "yhead"; walk_at "y"; refine rIsi2_1 (b := false) (ty_lst k) (by decide +kernel) ?_; walk_at "y"; refine rIsi2_1 (b := false) (ty_lst k) (by decide +kernel) ?_; walk_at "y"; exact ⟨_, rfl, .inr ⟨ha.notS (fun _ z => nomatch z), q _ (Same.refl _)⟩⟩
  | dc => obtain ⟨a, rfl, k⟩ := id ha; walk_at "yhead"; walk_at "y"; refine rIsi2_1 (b := false) (.base (.dK k)) (by decide +kernel) ?_; walk_at "y"; refine rIsi2_1 (b := false) (.base (.dK k)) (by decide +kernel) ?_; walk_at "y"; exact ⟨_, rfl, .inr ⟨ha.notS (fun _ z => nomatch z), q _ (Same.refl _)⟩⟩
end

end L75
namespace L75
open PySem PySem.Spec PyProof.Rows L2
variable {gd : Bool}
local macro_rules | `(tactic| walk_at "y1") => `(tactic| with_reducible first
  | refine tSeq_i ?_ | refine tAsg_i ?_ | refine tCons_i ?_ | refine tNil_i ?_ | refine tC_i ?_ | refine tOp_i ?_ | refine tIfS_i ?_ | refine tTest_i ?_ | refine exBl_i ?_ | refine tRet_i ?_ | refine tCall_i ?_
  | refine tCB_i ?_ | refine tLst_i ?_ | refine tTup_i ?_ | refine rI0_i ?_ | refine tDrop_i ?_ | refine tNext_i ?_ | refine tB_i ?_ | refine tAnd_i ?_ | refine tOr_i ?_ | refine tNot_i ?_ | refine tAndV_i ?_ | refine tOrV_i ?_ | refine tNotV_i ?_
  | refine tYes_i ?_ | refine tTM_i ?_ | refine tPar_i ?_ | refine tSl_i ?_ | refine tNoPart_i ?_ | refine tPart_i ?_ | refine part_i ?_ | refine tMake_i ?_ | refine tProp_i ?_ | refine tCallOG_i ?_ | refine tVeI_i ?_ | refine tOst_i ?_ | refine tMkO_i ?_ | refine sFld_i ?_ | refine fldaug_i ?_ | refine gCons_i ?_ | refine gNil_i ?_ | refine tChain_i ?_ | refine tBM_i ?_ | refine rAdd2_i ?_ | refine rLe2_i ?_ | refine rEq2_i ?_ | refine rEq2_ss ?_ | refine rNe2_i ?_ | refine rNe2_ss ?_ | refine rIsN_i ?_ | refine rNotN_i ?_ | refine tTup_i2 ?_ | refine tIf_i ?_ | refine tUn_i ?_ | refine tDGet_i ?_ | refine sDPut_i ?_ | refine tFld_i ?_ | refine tRetN_i ?_ | refine tBreak_i ?_ | refine tCont_i ?_ | refine rU_i ?_)
local macro_rules | `(tactic| walk_at "yhead") => `(tactic| dsimp only [L2.start, List.map, List.length_cons, List.length_nil, Nat.reduceAdd, Nat.reduceSub, List.replicate, List.cons_append, List.nil_append])
local macro_rules | `(tactic| walk_at "y2") => `(tactic| first
  | walk_at "y1"
  | ((with_reducible refine tVar_i (v := ?v) ?h ?q); (case h => rfl))
  | ((with_reducible refine gName_i ?_); (dsimp only [L2.wipe, List.set]))
  | with_reducible refine iteT ?_ | with_reducible refine iteF ?_ | with_reducible refine iteNT ?_ | with_reducible refine iteNF ?_
  | ((with_reducible refine iteDT ?h ?q); (case h => first | decide +kernel | omega | assumption | exact nv1 | exact nv2 | exact nv3 | exact nv4)) | ((with_reducible refine iteDF ?h ?q); (case h => first | decide +kernel | omega | assumption | exact nv1 | exact nv2 | exact nv3 | exact nv4))
  | ((with_reducible refine iteNDT ?h ?q); (case h => first | decide +kernel | omega | assumption | exact nv1 | exact nv2 | exact nv3 | exact nv4)) | ((with_reducible refine iteNDF ?h ?q); (case h => first | decide +kernel | omega | assumption | exact nv1 | exact nv2 | exact nv3 | exact nv4))
  | ((with_reducible refine rIsi2_1 (T := ?T) (b := true) ?ty ?h ?q); (case ty => first | exact ty_str | exact ty_int | exact ty_bl | exact ty_non); (case h => decide +kernel))
  | ((with_reducible refine rIsi2_1 (T := ?T) (b := false) ?ty ?h ?q); (case ty => first | exact ty_str | exact ty_int | exact ty_bl | exact ty_non); (case h => decide +kernel))
  | ((with_reducible refine rEq2_s ?h ?q); (case h => rfl)) | ((with_reducible refine rNe2_s ?h ?q); (case h => rfl))
  | ((with_reducible refine rEq_i ?h ?q); (case h => rfl)) | ((with_reducible refine rNe_i ?h ?q); (case h => rfl)))
local macro_rules | `(tactic| walk_at "y") => `(tactic| repeat walk_at "y2")

/-- a flat value of an item -/
def FlatOk : V → Prop | .non => True | .bl _ => True | .int _ => True | .str s => s.length ≤ 1000 | _ => False
def vItm : V → Itm | .bl b => .bl b | .int i => .int i | .str s => .str s | _ => .non
theorem FlatOk.at_ {H : Hp} {v : V} (h : FlatOk v) : (vItm v).At H v := by
  cases v with
  | non => rfl
  | bl b => rfl
  | int i => rfl
  | str s => exact ⟨rfl, h⟩
  | _ => exact h.elim
def Itm.Ok : Itm → Prop | .tu xs => ∀ x ∈ xs, FlatOk x | _ => True
def wordB (ws : List V) : Itm → Bool | .str s => inV (.str s) ws | _ => false
def shownB : Itm → Bool
  | .tu [a, b] => wordB [.str "fault", .str "stack"] (vItm a) && numB (vItm b)
  | .tu _ => false
  | it => plainB it
section
variable {P : Program} {w : World} {K : PySem.W.Frag} {mg : Str → Option Value} {base : Heap}
def spWord (K : PySem.W.Frag) : Sp := sp2 fun v p H Q _ => ∃ (a : Addr) (ws : List V) (it : Itm), p = .ref a ∧ H a = some (.tup ws) ∧ ws.all flatV = true ∧ it.At H v ∧ Q (.bl (wordB ws it)) H
theorem sc_s7_is_word : FnScope ["value", "words"] ["value", "words"] (defScope (top 26)) := ⟨rfl, rfl, rfl, by decide +kernel, rfl, by decide +kernel, by decide +kernel⟩
theorem c_s7_is_word (T : Sy K mg) : Cal gd P w K mg base CX0 1 "s7_is_word" (spWord K) := by
  refine T.cal (F_s7_is_word T) sc_s7_is_word sp2_len (fun cdv f A outer s H vs Q E z h => ?_) (fun _ _ _ _ _ _ us hl => match us, hl with | [_, _], _ => rfl)
  have hu1 := hu_1 z; have hu2 := hu_2 z; have hu3 := hu_3 z
  obtain ⟨x0, x1, rfl, h⟩ := h
  obtain ⟨a, ws, it, rfl, ha, hw, hi, q⟩ := h
  by_cases hs : ∃ s, it = .str s
  · obtain ⟨s, rfl⟩ := hs
    obtain ⟨rfl, hl⟩ := hi
    refine ⟨_, (pss_one (ps_ret (pe_and (pe_callB (r := rIsi2 K) call_isi2 (by rfl) (T.free "isinstance") (by decide +kernel) (pa_cons (pv 0) (pa_cons (pe_bltn (v := .ty "str") (u := .type "str") (by rfl) (T.free "str") (by decide +kernel) rfl) pa_nil))) (pe_one (pe_cmpR (r := rIn2 K) (op_in2 hu2) (pv 0) (pv 1) rfl))))), ?_⟩
    walk_at "yhead"; walk_at "y"
    exact rIn2_f (b := false) (SqT.of ha) rfl hw q
  · obtain ⟨U, ty, e⟩ := hi.notS (K := K) (fun s z => hs ⟨s, z⟩)
    have eq : wordB ws it = false := by
      cases it with
      | str s => exact absurd ⟨s, rfl⟩ hs
      | _ => rfl
    rw [eq] at q
    refine ⟨_, (pss_one (ps_ret (pe_and (pe_callB (r := rIsi2 K) call_isi2 (by rfl) (T.free "isinstance") (by decide +kernel) (pa_cons (pv 0) (pa_cons (pe_bltn (v := .ty "str") (u := .type "str") (by rfl) (T.free "str") (by decide +kernel) rfl) pa_nil))) (pe_one (pe_cmpR (r := rIn2 K) (op_in2 hu2) (pv 0) (pv 1) rfl))))), ?_⟩
    walk_at "yhead"; walk_at "y"
    refine rIsi2_1 ty e ?_
    walk_at "y"
    exact q
theorem Itm.At.notT {H : Hp} {v : V} {it : Itm} (h : it.At H v) (n : ∀ xs, it ≠ .tu xs) : ∃ T, TyX K H v (.type T) ∧ kitB T "tuple" = some false := by
  cases it with
  | non => cases (show v = .non from h); exact ⟨_, ty_non, by decide +kernel⟩
  | bl b => cases (show v = .bl b from h); exact ⟨_, ty_bl, by decide +kernel⟩
  | int i => cases (show v = .int i from h); exact ⟨_, ty_int, by decide +kernel⟩
  | str s => obtain ⟨rfl, _⟩ := h; exact ⟨_, ty_str, by decide +kernel⟩
  | tu xs => exact absurd rfl (n xs)
  | ls xs => obtain ⟨a, rfl, k⟩ := h; exact ⟨_, ty_lst k, by decide +kernel⟩
  | dc => obtain ⟨a, rfl, k⟩ := h; exact ⟨_, .base (.dK k), by decide +kernel⟩
def spShown : Sp := sp1 fun x H Q _ => ∃ it : Itm, it.At H x ∧ it.Ok ∧ ∀ H', Same H H' → Q (.bl (shownB it)) H'
theorem sc_s7_is_shown : FnScope ["value"] ["value"] (defScope (top 25)) := ⟨rfl, rfl, rfl, by decide +kernel, rfl, by decide +kernel, by decide +kernel⟩
theorem c_s7_is_shown (T : Sy K mg) : Cal gd P w K mg base CX0 4 "s7_is_shown" spShown := by
  refine T.cal (F_s7_is_shown T) sc_s7_is_shown sp1_len (fun cdv f A outer s H vs Q E z h => ?_) (fun _ _ _ _ _ _ us hl => match us, hl with | [_], _ => rfl)
  have hu1 := hu_1 z; have hu2 := hu_2 z; have hu3 := hu_3 z
  obtain ⟨x0, rfl, h⟩ := h
  obtain ⟨it, ha, ok, q⟩ := h
  by_cases ht : ∃ xs, it = .tu xs
  · obtain ⟨xs, rfl⟩ := ht
    obtain ⟨a, rfl, k⟩ := ha
    refine ⟨_, (pss_cons (ps_if (pt_not (pt_val (pe_callB (r := rIsi2 K) call_isi2 (by rfl) (T.free "isinstance") (by decide +kernel) (pa_cons (pv 0) (pa_cons (pe_bltn (v := .ty "tuple") (u := .type "tuple") (by rfl) (T.free "tuple") (by decide +kernel) rfl) pa_nil))))) (pss_one (ps_ret (pe_c (c_s7_is_plain T) z (pa_cons (pv 0) pa_nil)))) pss_nil) (pss_one (ps_ret (pe_and (pe_cmpR (r := rEq2 K) (op_eq2 hu1) (pe_callB (r := rLen2 K) call_len2 (by rfl) (T.free "len") (by decide +kernel) (pa_cons (pv 0) pa_nil)) pe_int (nomark _)) (pe_and (pe_c (c_s7_is_word T) z (pa_cons (pe_ix (r := rGet K) (ix_get hu3) (pv 0) pe_int (fun _ _ => rfl)) (pa_cons (pe_tup (pa_cons pe_str (pa_cons pe_str pa_nil))) pa_nil))) (pe_one (pe_c (c_s7_is_number T) z (pa_cons (pe_ix (r := rGet K) (ix_get hu3) (pv 0) pe_int (fun _ _ => rfl)) pa_nil)))))))), ?_⟩
    walk_at "yhead"; walk_at "y"
    refine rIsi2_1 (b := true) (ty_tup k) (by decide +kernel) ?_
    walk_at "y"
    refine rLen2_t (n := xs.length) (SqT.of k) ?_
    walk_at "y"
    by_cases hl : xs.length = 2
    · obtain ⟨y1, y2, rfl⟩ : ∃ y1 y2, xs = [y1, y2] := by
        match xs, hl with
        | [y1, y2], _ => exact ⟨y1, y2, rfl⟩
      rw [if_pos (show decide ((([y1, y2] : List V).length : Int) = 2) = true from rfl)]
      walk_at "y"
      refine rGet_t (n := 0) (SqT.of k) rfl ?_
      walk_at "y"
      refine ⟨sz4 (by simp), fun T1 nT1 => ?_⟩
      have sH1 := same_upd (H := H) (o := .tup [.str "fault", .str "stack"]) nT1
      have eT1 := upd_same (H := H) (a := T1) (o := .tup [.str "fault", .str "stack"])
      generalize upd H T1 (.tup [.str "fault", .str "stack"]) = H1 at sH1 eT1 ⊢
      have k1 := sH1 _ _ k
      refine ⟨_, _, rfl, T1, [.str "fault", .str "stack"], vItm y1, rfl, eT1, rfl, (ok y1 (by simp)).at_, ?_⟩
      have q := q H1 sH1
      have eq : shownB (.tu [y1, y2]) = (wordB [.str "fault", .str "stack"] (vItm y1) && numB (vItm y2)) := rfl
      rw [eq] at q
      cases hw : wordB [.str "fault", .str "stack"] (vItm y1) with
      | false =>
        rw [hw, Bool.false_and] at q
        walk_at "y"
        exact q
      | true =>
        rw [hw, Bool.true_and] at q
        walk_at "y"
        refine rGet_t (n := 1) (SqT.of k1) rfl ?_
        walk_at "y"
        exact ⟨_, rfl, vItm y2, (ok y2 (by simp)).at_, q⟩
    · have eq : shownB (.tu xs) = false := by
        match xs, hl with
        | [], _ => rfl
        | [_], _ => rfl
        | [_, _], h => exact absurd rfl h
        | _ :: _ :: _ :: _, _ => rfl
      rw [eq] at q
      rw [decide_eq_false (show ¬ ((xs.length : Int) = 2) by omega), if_neg (by decide)]
      exact q H (Same.refl _)
  · have eq : shownB it = plainB it := by
      cases it with
      | tu xs => exact absurd ⟨xs, rfl⟩ ht
      | _ => rfl
    rw [eq] at q
    obtain ⟨U, ty, e⟩ := ha.notT (K := K) (fun xs z => ht ⟨xs, z⟩)
    refine ⟨_, (pss_cons (ps_if (pt_not (pt_val (pe_callB (r := rIsi2 K) call_isi2 (by rfl) (T.free "isinstance") (by decide +kernel) (pa_cons (pv 0) (pa_cons (pe_bltn (v := .ty "tuple") (u := .type "tuple") (by rfl) (T.free "tuple") (by decide +kernel) rfl) pa_nil))))) (pss_one (ps_ret (pe_c (c_s7_is_plain T) z (pa_cons (pv 0) pa_nil)))) pss_nil) (pss_one (ps_ret (pe_and (pe_cmpR (r := rEq2 K) (op_eq2 hu1) (pe_callB (r := rLen2 K) call_len2 (by rfl) (T.free "len") (by decide +kernel) (pa_cons (pv 0) pa_nil)) pe_int (nomark _)) (pe_and (pe_c (c_s7_is_word T) z (pa_cons (pe_ix (r := rGet K) (ix_get hu3) (pv 0) pe_int (fun _ _ => rfl)) (pa_cons (pe_tup (pa_cons pe_str (pa_cons pe_str pa_nil))) pa_nil))) (pe_one (pe_c (c_s7_is_number T) z (pa_cons (pe_ix (r := rGet K) (ix_get hu3) (pv 0) pe_int (fun _ _ => rfl)) pa_nil)))))))), ?_⟩
    walk_at "yhead"; walk_at "y"
    refine rIsi2_1 ty e ?_
    walk_at "y"
    exact ⟨_, rfl, it, ha, q⟩
end

end L75
namespace L75
open PySem PySem.Spec PyProof.Rows L2
variable {gd : Bool}
local macro_rules | `(tactic| walk_at "y1") => `(tactic| with_reducible first
  | refine tSeq_i ?_ | refine tAsg_i ?_ | refine tCons_i ?_ | refine tNil_i ?_ | refine tC_i ?_ | refine tOp_i ?_ | refine tIfS_i ?_ | refine tTest_i ?_ | refine exBl_i ?_ | refine tRet_i ?_ | refine tCall_i ?_
  | refine tCB_i ?_ | refine tLst_i ?_ | refine tTup_i ?_ | refine rI0_i ?_ | refine tDrop_i ?_ | refine tNext_i ?_ | refine tB_i ?_ | refine tAnd_i ?_ | refine tOr_i ?_ | refine tNot_i ?_ | refine tAndV_i ?_ | refine tOrV_i ?_ | refine tNotV_i ?_
  | refine tYes_i ?_ | refine tTM_i ?_ | refine tPar_i ?_ | refine tSl_i ?_ | refine tNoPart_i ?_ | refine tPart_i ?_ | refine part_i ?_ | refine tMake_i ?_ | refine tProp_i ?_ | refine tCallOG_i ?_ | refine tVeI_i ?_ | refine tOst_i ?_ | refine tMkO_i ?_ | refine sFld_i ?_ | refine fldaug_i ?_ | refine gCons_i ?_ | refine gNil_i ?_ | refine tChain_i ?_ | refine tBM_i ?_ | refine rAdd2_i ?_ | refine rLe2_i ?_ | refine rEq2_i ?_ | refine rEq2_ss ?_ | refine rNe2_i ?_ | refine rNe2_ss ?_ | refine rIsN_i ?_ | refine rNotN_i ?_ | refine tTup_i2 ?_ | refine tIf_i ?_ | refine tUn_i ?_ | refine tDGet_i ?_ | refine sDPut_i ?_ | refine tFld_i ?_ | refine tRetN_i ?_ | refine tBreak_i ?_ | refine tCont_i ?_ | refine rU_i ?_)
local macro_rules | `(tactic| walk_at "yhead") => `(tactic| dsimp only [L2.start, List.map, List.length_cons, List.length_nil, Nat.reduceAdd, Nat.reduceSub, List.replicate, List.cons_append, List.nil_append])
local macro_rules | `(tactic| walk_at "y2") => `(tactic| first
  | walk_at "y1"
  | ((with_reducible refine tVar_i (v := ?v) ?h ?q); (case h => rfl))
  | ((with_reducible refine gName_i ?_); (dsimp only [L2.wipe, List.set]))
  | with_reducible refine iteT ?_ | with_reducible refine iteF ?_ | with_reducible refine iteNT ?_ | with_reducible refine iteNF ?_
  | ((with_reducible refine iteDT ?h ?q); (case h => first | decide +kernel | omega | assumption | exact nv1 | exact nv2 | exact nv3 | exact nv4)) | ((with_reducible refine iteDF ?h ?q); (case h => first | decide +kernel | omega | assumption | exact nv1 | exact nv2 | exact nv3 | exact nv4))
  | ((with_reducible refine iteNDT ?h ?q); (case h => first | decide +kernel | omega | assumption | exact nv1 | exact nv2 | exact nv3 | exact nv4)) | ((with_reducible refine iteNDF ?h ?q); (case h => first | decide +kernel | omega | assumption | exact nv1 | exact nv2 | exact nv3 | exact nv4))
  | ((with_reducible refine rIsi2_1 (T := ?T) (b := true) ?ty ?h ?q); (case ty => first | exact ty_str | exact ty_int | exact ty_bl | exact ty_non); (case h => decide +kernel))
  | ((with_reducible refine rIsi2_1 (T := ?T) (b := false) ?ty ?h ?q); (case ty => first | exact ty_str | exact ty_int | exact ty_bl | exact ty_non); (case h => decide +kernel))
  | ((with_reducible refine rEq2_s ?h ?q); (case h => rfl)) | ((with_reducible refine rNe2_s ?h ?q); (case h => rfl))
  | ((with_reducible refine rEq_i ?h ?q); (case h => rfl)) | ((with_reducible refine rNe_i ?h ?q); (case h => rfl)))
local macro_rules | `(tactic| walk_at "y") => `(tactic| repeat walk_at "y2")

section
variable {X : Cx}
/-- t == () -/
def rEqT0 : R2 := fun x y H Q => ∃ a b xs, x = .ref a ∧ y = .ref b ∧ H a = some (.tup xs) ∧ H b = some (.tup []) ∧ Q (.bl (decide (xs.length = 0))) H
theorem op_eqT0 (hu : X.A.units + 1 < cLine) : OpR X (compareOp .Eq) rEqT0 := by
  intro pins s σ H x y v u Q I rx ry h
  obtain ⟨a, b, xs, rfl, rfl, ha, hb, q⟩ := h
  cases (show v = Value.ref a from rx)
  cases (show u = Value.ref b from ry)
  obtain ⟨its, r, pl, hz⟩ := I.tuple (SqT.of (K := X.K) ha)
  obtain ⟨its2, r2, pl2, hz2⟩ := I.tuple (SqT.of (K := X.K) hb)
  cases r2
  have hn := r.length
  refine SeqAt.eq_tupleAt (e := fun _ => true) pl pl2 (by omega) (fun j h1 h2 => absurd h2 (by simp)) ⟨.bl _, H, I, rfl, ?_⟩
  have e : ((List.range (min its.toArray.size ([] : List Value).toArray.size)).all (fun _ => true) && its.toArray.size == ([] : List Value).toArray.size) = decide (xs.length = 0) := by
    rw [hn]
    cases its <;> simp
  rw [e]
  exact q
end
section
variable {P : Program} {w : World} {K : PySem.W.Frag} {mg : Str → Option Value} {base : Heap}
def noteB : List Itm → Bool | [p] => plainB p | _ => false
def showB : List Itm → Bool | [a, b] => nameB a && shownB b | _ => false
def faultB : List Itm → Bool | [n, k, l] => numB n && (kindB k && labelB l) | _ => false
def oneB : List Itm → Bool | [n] => numB n | _ => false
def isEventB : List Itm → Bool
  | .str w :: ps => if w = Str.ofString "note" then noteB ps else if w = Str.ofString "show" then showB ps else if w = Str.ofString "fault" then faultB ps else inV (.str w) [.str "open", .str "shut"] && oneB ps
  | _ => false
theorem evB {wd : Str} {ps : List Itm} : isEventB (.str wd :: ps) = if wd = Str.ofString "note" then noteB ps else if wd = Str.ofString "show" then showB ps else if wd = Str.ofString "fault" then faultB ps else inV (.str wd) [.str "open", .str "shut"] && oneB ps := rfl
theorem noteB_ne : ∀ {ps : List Itm}, ps.length ≠ 1 → noteB ps = false
  | [], _ => rfl
  | [_], h => absurd rfl h
  | _ :: _ :: _, _ => rfl
theorem oneB_ne : ∀ {ps : List Itm}, ps.length ≠ 1 → oneB ps = false
  | [], _ => rfl
  | [_], h => absurd rfl h
  | _ :: _ :: _, _ => rfl
theorem showB_ne : ∀ {ps : List Itm}, ps.length ≠ 2 → showB ps = false
  | [], _ => rfl
  | [_], _ => rfl
  | [_, _], h => absurd rfl h
  | _ :: _ :: _ :: _, _ => rfl
theorem faultB_ne : ∀ {ps : List Itm}, ps.length ≠ 3 → faultB ps = false
  | [], _ => rfl
  | [_], _ => rfl
  | [_, _], _ => rfl
  | [_, _, _], h => absurd rfl h
  | _ :: _ :: _ :: _ :: _, _ => rfl
def NotT (K : PySem.W.Frag) (H : Hp) (v : V) : Prop := ∃ T, TyX K H v (.type T) ∧ kitB T "tuple" = some false
def spEvent (K : PySem.W.Frag) : Sp := sp1 fun x H Q _ => (∃ p vs its, x = .ref p ∧ H p = some (.tup vs) ∧ Paired (fun v (it : Itm) => it.At H v) vs its ∧ (∀ it ∈ its, it.Ok) ∧ its.length ≤ 8 ∧ ∀ H', Same H H' → Q (.bl (isEventB its)) H') ∨ (NotT K H x ∧ Q (.bl false) H)
theorem name_i {H : Hp} {v : V} {it : Itm} {C : VK} {E : XK} (h : it.At H v) (q : ∀ H', Same H H' → C (.bl (nameB it)) H') : spName K ([v] ++ []) H C E := by
  by_cases hs : ∃ s, it = .str s
  · obtain ⟨s, rfl⟩ := hs
    obtain ⟨rfl, hl⟩ := h
    exact ⟨_, rfl, .inl ⟨s, rfl, hl, q⟩⟩
  · have e : nameB it = false := by
      cases it with
      | str s => exact absurd ⟨s, rfl⟩ hs
      | _ => rfl
    rw [e] at q
    exact ⟨_, rfl, .inr ⟨h.notS (fun s z => hs ⟨s, z⟩), q H (Same.refl _)⟩⟩
theorem kind_i {H : Hp} {v : V} {it : Itm} {C : VK} {E : XK} (h : it.At H v) (q : ∀ H', Same H H' → C (.bl (kindB it)) H') : spKind K ([v] ++ []) H C E := by
  by_cases hs : ∃ s, it = .str s
  · obtain ⟨s, rfl⟩ := hs
    obtain ⟨rfl, hl⟩ := h
    exact ⟨_, rfl, .inl ⟨s, rfl, hl, q⟩⟩
  · have e : kindB it = false := by
      cases it with
      | str s => exact absurd ⟨s, rfl⟩ hs
      | _ => rfl
    rw [e] at q
    exact ⟨_, rfl, .inr ⟨h.notS (fun s z => hs ⟨s, z⟩), q H (Same.refl _)⟩⟩
theorem label_i {H : Hp} {v : V} {it : Itm} {C : VK} {E : XK} (h : it.At H v) (q : ∀ H', Same H H' → C (.bl (labelB it)) H') : spLabel K ([v] ++ []) H C E := by
  by_cases hs : ∃ s, it = .str s
  · obtain ⟨s, rfl⟩ := hs
    obtain ⟨rfl, hl⟩ := h
    exact ⟨_, rfl, .inl ⟨s, rfl, hl, q⟩⟩
  · have e : labelB it = false := by
      cases it with
      | str s => exact absurd ⟨s, rfl⟩ hs
      | _ => rfl
    rw [e] at q
    exact ⟨_, rfl, .inr ⟨h.notS (fun s z => hs ⟨s, z⟩), q H (Same.refl _)⟩⟩
theorem sc_is_event : FnScope ["value", "word", "parts"] ["value"] (defScope (top 27)) := ⟨rfl, rfl, rfl, by decide +kernel, rfl, by decide +kernel, by decide +kernel⟩
theorem cf_is_event (T : Sy K mg) : CalF gd P w K mg base CX0 5 "is_event" (spEvent K) 27 ["value"] := by
  refine T.calF (F_is_event T) sc_is_event sp1_len (fun cdv f A outer s H vs Q E z h => ?_) (fun _ _ _ _ _ _ us hl => match us, hl with | [_], _ => rfl)
  have hu1 := hu_1 z; have hu2 := hu_2 z; have hu3 := hu_3 z
  obtain ⟨x0, rfl, h⟩ := h
  rcases h with ⟨p, vs, its, rfl, hp, pr, ok, hl, q⟩ | ⟨⟨U, ty, e⟩, q⟩
  rotate_left
  · refine ⟨_, (pss_cons (ps_if (PW.pt (pw_or (pt_not (pt_val (pe_callB (r := rIsi2 K) call_isi2 (by rfl) (T.free "isinstance") (by decide +kernel) (pa_cons (pv 0) (pa_cons (pe_bltn (v := .ty "tuple") (u := .type "tuple") (by rfl) (T.free "tuple") (by decide +kernel) rfl) pa_nil))))) (pw_or (pt_cmpR (r := rEqT0) (op_eqT0 hu3) (pv 0) (pe_tup pa_nil) (nomark _)) (pw_or1 (pt_not (pt_val (pe_callB (r := rIsi2 K) call_isi2 (by rfl) (T.free "isinstance") (by decide +kernel) (pa_cons (pe_ix (r := rGet K) (ix_get hu3) (pv 0) pe_int (fun _ _ => rfl)) (pa_cons (pe_bltn (v := .ty "str") (u := .type "str") (by rfl) (T.free "str") (by decide +kernel) rfl) pa_nil))))))))) (pss_one (ps_ret pe_bl)) pss_nil) (pss_cons (ps_asg (pv 0) (pg_starK (K := K) (n := 2) (i := 1) rfl (by rfl) (pgs_cons (pg_name (i := 1) sc_is_event.nd rfl (by first | exact Or.inl rfl | exact Or.inr rfl)) (pgs_star (pg_name (i := 2) sc_is_event.nd rfl (by first | exact Or.inl rfl | exact Or.inr rfl)) pgs_nil)) rfl rfl (by decide))) (pss_cons (ps_if (pt_cmpR (r := rEq2 K) (op_eq2 hu1) (pv 1) pe_str (nomark _)) (pss_one (ps_ret (pe_and (pe_cmpR (r := rEq2 K) (op_eq2 hu1) (pe_callB (r := rLen2 K) call_len2 (by rfl) (T.free "len") (by decide +kernel) (pa_cons (pv 2) pa_nil)) pe_int (nomark _)) (pe_one (pe_c (c_s7_is_plain T) z (pa_cons (pe_ix (r := rGet K) (ix_get hu3) (pv 2) pe_int (fun _ _ => rfl)) pa_nil)))))) pss_nil) (pss_cons (ps_if (pt_cmpR (r := rEq2 K) (op_eq2 hu1) (pv 1) pe_str (nomark _)) (pss_one (ps_ret (pe_and (pe_cmpR (r := rEq2 K) (op_eq2 hu1) (pe_callB (r := rLen2 K) call_len2 (by rfl) (T.free "len") (by decide +kernel) (pa_cons (pv 2) pa_nil)) pe_int (nomark _)) (pe_and (pe_c (c_s7_is_name T) z (pa_cons (pe_ix (r := rGet K) (ix_get hu3) (pv 2) pe_int (fun _ _ => rfl)) pa_nil)) (pe_one (pe_c (c_s7_is_shown T) z (pa_cons (pe_ix (r := rGet K) (ix_get hu3) (pv 2) pe_int (fun _ _ => rfl)) pa_nil))))))) pss_nil) (pss_cons (ps_if (pt_cmpR (r := rEq2 K) (op_eq2 hu1) (pv 1) pe_str (nomark _)) (pss_one (ps_ret (pe_and (pe_cmpR (r := rEq2 K) (op_eq2 hu1) (pe_callB (r := rLen2 K) call_len2 (by rfl) (T.free "len") (by decide +kernel) (pa_cons (pv 2) pa_nil)) pe_int (nomark _)) (pe_and (pe_c (c_s7_is_number T) z (pa_cons (pe_ix (r := rGet K) (ix_get hu3) (pv 2) pe_int (fun _ _ => rfl)) pa_nil)) (pe_and (pe_c (c_is_kind T) z (pa_cons (pe_ix (r := rGet K) (ix_get hu3) (pv 2) pe_int (fun _ _ => rfl)) pa_nil)) (pe_one (pe_c (c_is_label T) z (pa_cons (pe_ix (r := rGet K) (ix_get hu3) (pv 2) pe_int (fun _ _ => rfl)) pa_nil)))))))) pss_nil) (pss_one (ps_ret (pe_and (pe_cmpR (r := rIn2 K) (op_in2 hu2) (pv 1) (pe_tup (pa_cons pe_str (pa_cons pe_str pa_nil))) rfl) (pe_and (pe_cmpR (r := rEq2 K) (op_eq2 hu1) (pe_callB (r := rLen2 K) call_len2 (by rfl) (T.free "len") (by decide +kernel) (pa_cons (pv 2) pa_nil)) pe_int (nomark _)) (pe_one (pe_c (c_s7_is_number T) z (pa_cons (pe_ix (r := rGet K) (ix_get hu3) (pv 2) pe_int (fun _ _ => rfl)) pa_nil)))))))))))), ?_⟩
    walk_at "yhead"; walk_at "y"
    refine rIsi2_1 ty e ?_
    walk_at "y"
    exact q
  refine ⟨_, (pss_cons (ps_if (PW.pt (pw_or (pt_not (pt_val (pe_callB (r := rIsi2 K) call_isi2 (by rfl) (T.free "isinstance") (by decide +kernel) (pa_cons (pv 0) (pa_cons (pe_bltn (v := .ty "tuple") (u := .type "tuple") (by rfl) (T.free "tuple") (by decide +kernel) rfl) pa_nil))))) (pw_or (pt_cmpR (r := rEqT0) (op_eqT0 hu3) (pv 0) (pe_tup pa_nil) (nomark _)) (pw_or1 (pt_not (pt_val (pe_callB (r := rIsi2 K) call_isi2 (by rfl) (T.free "isinstance") (by decide +kernel) (pa_cons (pe_ix (r := rGet K) (ix_get hu3) (pv 0) pe_int (fun _ _ => rfl)) (pa_cons (pe_bltn (v := .ty "str") (u := .type "str") (by rfl) (T.free "str") (by decide +kernel) rfl) pa_nil))))))))) (pss_one (ps_ret pe_bl)) pss_nil) (pss_cons (ps_asg (pv 0) (pg_starK (K := K) (n := 2) (i := 1) rfl (by rfl) (pgs_cons (pg_name (i := 1) sc_is_event.nd rfl (by first | exact Or.inl rfl | exact Or.inr rfl)) (pgs_star (pg_name (i := 2) sc_is_event.nd rfl (by first | exact Or.inl rfl | exact Or.inr rfl)) pgs_nil)) rfl rfl (by decide))) (pss_cons (ps_if (pt_cmpR (r := rEq2 K) (op_eq2 hu1) (pv 1) pe_str (nomark _)) (pss_one (ps_ret (pe_and (pe_cmpR (r := rEq2 K) (op_eq2 hu1) (pe_callB (r := rLen2 K) call_len2 (by rfl) (T.free "len") (by decide +kernel) (pa_cons (pv 2) pa_nil)) pe_int (nomark _)) (pe_one (pe_c (c_s7_is_plain T) z (pa_cons (pe_ix (r := rGet K) (ix_get hu3) (pv 2) pe_int (fun _ _ => rfl)) pa_nil)))))) pss_nil) (pss_cons (ps_if (pt_cmpR (r := rEq2 K) (op_eq2 hu1) (pv 1) pe_str (nomark _)) (pss_one (ps_ret (pe_and (pe_cmpR (r := rEq2 K) (op_eq2 hu1) (pe_callB (r := rLen2 K) call_len2 (by rfl) (T.free "len") (by decide +kernel) (pa_cons (pv 2) pa_nil)) pe_int (nomark _)) (pe_and (pe_c (c_s7_is_name T) z (pa_cons (pe_ix (r := rGet K) (ix_get hu3) (pv 2) pe_int (fun _ _ => rfl)) pa_nil)) (pe_one (pe_c (c_s7_is_shown T) z (pa_cons (pe_ix (r := rGet K) (ix_get hu3) (pv 2) pe_int (fun _ _ => rfl)) pa_nil))))))) pss_nil) (pss_cons (ps_if (pt_cmpR (r := rEq2 K) (op_eq2 hu1) (pv 1) pe_str (nomark _)) (pss_one (ps_ret (pe_and (pe_cmpR (r := rEq2 K) (op_eq2 hu1) (pe_callB (r := rLen2 K) call_len2 (by rfl) (T.free "len") (by decide +kernel) (pa_cons (pv 2) pa_nil)) pe_int (nomark _)) (pe_and (pe_c (c_s7_is_number T) z (pa_cons (pe_ix (r := rGet K) (ix_get hu3) (pv 2) pe_int (fun _ _ => rfl)) pa_nil)) (pe_and (pe_c (c_is_kind T) z (pa_cons (pe_ix (r := rGet K) (ix_get hu3) (pv 2) pe_int (fun _ _ => rfl)) pa_nil)) (pe_one (pe_c (c_is_label T) z (pa_cons (pe_ix (r := rGet K) (ix_get hu3) (pv 2) pe_int (fun _ _ => rfl)) pa_nil)))))))) pss_nil) (pss_one (ps_ret (pe_and (pe_cmpR (r := rIn2 K) (op_in2 hu2) (pv 1) (pe_tup (pa_cons pe_str (pa_cons pe_str pa_nil))) rfl) (pe_and (pe_cmpR (r := rEq2 K) (op_eq2 hu1) (pe_callB (r := rLen2 K) call_len2 (by rfl) (T.free "len") (by decide +kernel) (pa_cons (pv 2) pa_nil)) pe_int (nomark _)) (pe_one (pe_c (c_s7_is_number T) z (pa_cons (pe_ix (r := rGet K) (ix_get hu3) (pv 2) pe_int (fun _ _ => rfl)) pa_nil)))))))))))), ?_⟩
  walk_at "yhead"; walk_at "y"
  refine rIsi2_1 (b := true) (ty_tup hp) (by decide +kernel) ?_
  walk_at "y"
  refine ⟨sz4 (by simp), fun T1 nT1 => ?_⟩
  have sH1 := same_upd (H := H) (o := .tup []) nT1
  have eT1 := upd_same (H := H) (a := T1) (o := .tup [])
  generalize upd H T1 (.tup []) = H1 at sH1 eT1 ⊢
  have hp1 := sH1 _ _ hp
  refine ⟨p, T1, vs, rfl, rfl, hp1, eT1, ?_⟩
  cases pr with
  | nil =>
    walk_at "y"
    exact q _ sH1
  | @cons v0 it0 vs its h0 pr =>
  rw [decide_eq_false (show ¬ ((v0 :: vs).length = 0) by simp)]
  walk_at "y"
  refine rGet_t (n := 0) (SqT.of hp1) rfl ?_
  walk_at "y"
  by_cases hs : ∃ s, it0 = .str s
  rotate_left
  · obtain ⟨U, ty, e⟩ := (h0.same sH1).notS (K := K) (fun s z => hs ⟨s, z⟩)
    have eq : isEventB (it0 :: its) = false := by
      cases it0 with
      | str s => exact absurd ⟨s, rfl⟩ hs
      | _ => rfl
    rw [eq] at q
    refine rIsi2_1 ty e ?_
    walk_at "y"
    exact q _ sH1
  obtain ⟨wd, rfl⟩ := hs
  obtain ⟨rfl, hw⟩ := h0
  walk_at "y"
  refine gStar_2U (SqT.of hp1) fun d H2 nd eD sH2 => ?_
  have s02 := sH1.trans sH2
  have prD : Paired (fun v (it : Itm) => it.At H2 v) vs its := pr.mono fun v it h => h.same s02
  have okI : ∀ it ∈ its, it.Ok := fun it h => ok it (List.mem_cons_of_mem _ h)
  have lvs : vs.length = its.length := prD.length
  walk_at "y"
  have one : ∀ {vs' : List V} {its' : List Itm}, Paired (fun v (it : Itm) => it.At H2 v) vs' its' → vs'.length = 1 → ∃ v1 i1, vs' = [v1] ∧ its' = [i1] ∧ i1.At H2 v1 := fun p h => by
    cases p with
    | nil => cases h
    | cons r t => cases t with
      | nil => exact ⟨_, _, rfl, rfl, r⟩
      | cons _ _ => simp at h
  by_cases c1 : wd = Str.ofString "note"
  · rw [evB, if_pos c1] at q
    rw [decide_eq_true c1, if_pos rfl]
    walk_at "y"
    refine rLen2_l (n := vs.length) (SqL.of eD) ?_
    walk_at "y"
    by_cases hl1 : vs.length = 1
    · obtain ⟨v1, i1, rfl, rfl, h1⟩ := one prD hl1
      rw [if_pos (show decide ((([v1] : List V).length : Int) = 1) = true from rfl)]
      walk_at "y"
      refine rGet_l (n := 0) (SqL.of eD) rfl ?_
      exact ⟨_, rfl, i1, h1, fun H3 s3 => q _ (s02.trans s3)⟩
    · rw [noteB_ne (by omega)] at q
      rw [decide_eq_false (show ¬ ((vs.length : Int) = 1) by omega), if_neg (by decide)]
      exact q _ s02
  rw [decide_eq_false c1, if_neg (by decide)]
  walk_at "y"
  by_cases c2 : wd = Str.ofString "show"
  · rw [evB, if_neg c1, if_pos c2] at q
    rw [decide_eq_true c2, if_pos rfl]
    walk_at "y"
    refine rLen2_l (n := vs.length) (SqL.of eD) ?_
    walk_at "y"
    by_cases hl1 : vs.length = 2
    · obtain ⟨v1, v2, i1, i2, rfl, rfl, h1, h2⟩ : ∃ v1 v2 i1 i2, vs = [v1, v2] ∧ its = [i1, i2] ∧ i1.At H2 v1 ∧ i2.At H2 v2 := by
        cases prD with
        | nil => cases hl1
        | cons r t => cases t with
          | nil => cases hl1
          | cons r2 t2 => cases t2 with
            | nil => exact ⟨_, _, _, _, rfl, rfl, r, r2⟩
            | cons _ _ => simp at hl1
      rw [if_pos (show decide ((([v1, v2] : List V).length : Int) = 2) = true from rfl)]
      walk_at "y"
      refine rGet_l (n := 0) (SqL.of eD) rfl ?_
      have rest : ∀ H3, Same H2 H3 → nameB i1 = true → tCall spShown [] E0 (tCons (tOp (rGet K) (tVar 2) (tC (V.int 1))) tNil) [some (.ref p), some (.str wd), some (.ref d)] H3 Q := fun H3 s3 hn => by
        have q : ∀ H', Same H H' → Q (.bl (nameB i1 && shownB i2)) H' := q
        rw [hn, Bool.true_and] at q
        walk_at "y"
        refine rGet_l (n := 1) (SqL.of (s3 _ _ eD)) rfl ?_
        exact ⟨_, rfl, i2, h2.same s3, okI i2 (by simp), fun H4 s4 => q _ ((s02.trans s3).trans s4)⟩
      have q : ∀ H', Same H H' → Q (.bl (nameB i1 && shownB i2)) H' := q
      walk_at "y"
      refine name_i h1 fun H3 s3 => ⟨_, rfl, ?_⟩
      cases hn : nameB i1 with
      | true => rw [if_pos rfl]; exact rest H3 s3 hn
      | false =>
        rw [hn, Bool.false_and] at q
        rw [if_neg (by decide)]
        exact q _ (s02.trans s3)
    · rw [showB_ne (by omega)] at q
      rw [decide_eq_false (show ¬ ((vs.length : Int) = 2) by omega), if_neg (by decide)]
      exact q _ s02
  rw [decide_eq_false c2, if_neg (by decide)]
  walk_at "y"
  by_cases c3 : wd = Str.ofString "fault"
  · rw [evB, if_neg c1, if_neg c2, if_pos c3] at q
    rw [decide_eq_true c3, if_pos rfl]
    walk_at "y"
    refine rLen2_l (n := vs.length) (SqL.of eD) ?_
    walk_at "y"
    by_cases hl1 : vs.length = 3
    · obtain ⟨v1, v2, v3, i1, i2, i3, rfl, rfl, h1, h2, h3⟩ : ∃ v1 v2 v3 i1 i2 i3, vs = [v1, v2, v3] ∧ its = [i1, i2, i3] ∧ i1.At H2 v1 ∧ i2.At H2 v2 ∧ i3.At H2 v3 := by
        cases prD with
        | nil => cases hl1
        | cons r t => cases t with
          | nil => cases hl1
          | cons r2 t2 => cases t2 with
            | nil => cases hl1
            | cons r3 t3 => cases t3 with
              | nil => exact ⟨_, _, _, _, _, _, rfl, rfl, r, r2, r3⟩
              | cons _ _ => simp at hl1
      rw [if_pos (show decide ((([v1, v2, v3] : List V).length : Int) = 3) = true from rfl)]
      replace q : ∀ H', Same H H' → Q (.bl (numB i1 && (kindB i2 && labelB i3))) H' := q
      walk_at "y"
      refine rGet_l (n := 0) (SqL.of eD) rfl ?_
      refine ⟨_, rfl, i1, h1, ?_⟩
      cases hn : numB i1 with
      | false =>
        rw [hn, Bool.false_and] at q
        walk_at "y"
        exact q _ s02
      | true =>
        rw [hn, Bool.true_and] at q
        walk_at "y"
        refine rGet_l (n := 1) (SqL.of eD) rfl ?_
        refine kind_i h2 fun H3 s3 => ⟨_, rfl, ?_⟩
        cases hk : kindB i2 with
        | false =>
          rw [hk, Bool.false_and] at q
          rw [if_neg (by decide)]
          exact q _ (s02.trans s3)
        | true =>
          rw [hk, Bool.true_and] at q
          rw [if_pos rfl]
          walk_at "y"
          refine rGet_l (n := 2) (SqL.of (s3 _ _ eD)) rfl ?_
          exact label_i (h3.same s3) fun H4 s4 => q _ ((s02.trans s3).trans s4)
    · rw [faultB_ne (by omega)] at q
      rw [decide_eq_false (show ¬ ((vs.length : Int) = 3) by omega), if_neg (by decide)]
      exact q _ s02
  rw [evB, if_neg c1, if_neg c2, if_neg c3] at q
  rw [decide_eq_false c3, if_neg (by decide)]
  walk_at "y"
  refine ⟨sz4 (by simp), fun T9 nT9 => ?_⟩
  have sH3 := same_upd (H := H2) (o := .tup [.str "open", .str "shut"]) nT9
  have eT9 := upd_same (H := H2) (a := T9) (o := .tup [.str "open", .str "shut"])
  generalize upd H2 T9 (.tup [.str "open", .str "shut"]) = H3 at sH3 eT9 ⊢
  refine rIn2_f (b := false) (SqT.of eT9) rfl rfl ?_
  have s03 := s02.trans sH3
  have eD3 := sH3 _ _ eD
  cases hi : inV (.str wd) [.str "open", .str "shut"] with
  | false =>
    rw [hi, Bool.false_and] at q
    walk_at "y"
    exact q _ s03
  | true =>
    rw [hi, Bool.true_and] at q
    walk_at "y"
    refine rLen2_l (n := vs.length) (SqL.of eD3) ?_
    walk_at "y"
    by_cases hl1 : vs.length = 1
    · obtain ⟨v1, i1, rfl, rfl, h1⟩ := one prD hl1
      rw [if_pos (show decide ((([v1] : List V).length : Int) = 1) = true from rfl)]
      walk_at "y"
      refine rGet_l (n := 0) (SqL.of eD3) rfl ?_
      exact ⟨_, rfl, i1, h1.same sH3, q _ s03⟩
    · rw [oneB_ne (by omega)] at q
      rw [decide_eq_false (show ¬ ((vs.length : Int) = 1) by omega), if_neg (by decide)]
      exact q _ s03
theorem c_is_event (T : Sy K mg) : Cal gd P w K mg base CX0 5 "is_event" (spEvent K) := (cf_is_event T).cal
end

end L75
namespace L75
open PySem PySem.Spec PyProof.Rows L2
variable {gd : Bool}
local macro_rules | `(tactic| walk_at "y1") => `(tactic| with_reducible first
  | refine tSeq_i ?_ | refine tAsg_i ?_ | refine tCons_i ?_ | refine tNil_i ?_ | refine tC_i ?_ | refine tOp_i ?_ | refine tIfS_i ?_ | refine tTest_i ?_ | refine exBl_i ?_ | refine tRet_i ?_ | refine tCall_i ?_
  | refine tCB_i ?_ | refine tLst_i ?_ | refine tTup_i ?_ | refine rI0_i ?_ | refine tDrop_i ?_ | refine tNext_i ?_ | refine tB_i ?_ | refine tAnd_i ?_ | refine tOr_i ?_ | refine tNot_i ?_ | refine tAndV_i ?_ | refine tOrV_i ?_ | refine tNotV_i ?_
  | refine tIf_i ?_ | refine tUn_i ?_ | refine tDGet_i ?_ | refine sDPut_i ?_ | refine tFld_i ?_ | refine tRetN_i ?_ | refine tBreak_i ?_ | refine tCont_i ?_ | refine rU_i ?_)
local macro_rules | `(tactic| walk_at "yhead") => `(tactic| dsimp only [L2.start, List.map, List.length_cons, List.length_nil, Nat.reduceAdd, Nat.reduceSub, List.replicate, List.cons_append, List.nil_append])
local macro_rules | `(tactic| walk_at "y2") => `(tactic| first
  | walk_at "y1"
  | ((with_reducible refine tVar_i (v := ?v) ?h ?q); (case h => rfl))
  | ((with_reducible refine gName_i ?_); (dsimp only [List.set]))
  | ((with_reducible refine rEq_i ?h ?q); (case h => rfl)) | ((with_reducible refine rNe_i ?h ?q); (case h => rfl)))
local macro_rules | `(tactic| walk_at "y") => `(tactic| repeat walk_at "y2")

/-! the own facts of the head, k75 -/
section
variable {K : PySem.W.Frag} {mg : Str → Option Value}
structure XF (K : PySem.W.Frag) : Prop where
  fi : IsC K "Fault"
  cm : CmpC K (He.ga K "Fault")
  bl : ExC K "BadLog" "index"
  me : ViC K "ModelError"
  xl : XfC K (He.ga K "BadLog")
  ml : PySem.W.exmOne K (.ref (He.ga K "BadLog")) (.ref (He.ga K "ModelError")) = some true
  cl : IsC K "BadLog"
  no : ExT K "NoPlace" "index"
  ab : BiC K "Absent" "LookupError.__init__"
theorem Sy.xF (T : Sy K mg) : XF K := by
  have h := T.b
  unfold xb at h
  obtain ⟨a0, h⟩ := He.ba h
  obtain ⟨c0, h⟩ := He.ba h
  obtain ⟨a1, h⟩ := He.ba h
  obtain ⟨a2, h⟩ := He.ba h
  obtain ⟨a3, h⟩ := He.ba h
  obtain ⟨a4, h⟩ := He.ba h
  obtain ⟨a5, h⟩ := He.ba h
  obtain ⟨a6, h⟩ := He.ba h
  obtain ⟨a7, _⟩ := He.ba h
  exact ⟨isB_ok a0, cmpB_ok c0, exB_ok a1, viB_ok a2, xfB_ok a3, of_decide_eq_true a4, isB_ok a5, exTB_ok a6, biB_ok a7⟩
/-- isinstance of an own class -/
theorem ty_ins {H : Hp} {a dx : Addr} {c : Str} {fs : List (Str × V)} (h : H a = some (.ins (He.ga K c) dx fs)) (cl : Cls K (He.ga K c)) (i : IsC K c) : TyX K H (.ref a) (.ref (He.ga K c)) := .base (.ins h cl i.ha i.hn i.ht i.hm)
theorem rIsi2_o {H : Hp} {Q : VK} {x : V} {t : Value} {C : Addr} {b : Bool} (ty : TyX K H x t) (h : PySem.W.kitOne K t (.ref C) = some b) (q : Q (.bl b) H) : rIsi2 K [x, .ref C] H Q := .inl ⟨x, .ref C, t, .ref C, b, rfl, .own C, ty, h, q⟩
theorem kit_self {t : Value} : PySem.W.kitOne K t t = some true := by
  unfold PySem.W.kitOne
  rw [if_pos (by simp)]
/-- a value of a built-in type is no instance of an own class -/
theorem kit_bt {c : Str} {T : String} (i : IsC K c) (h : (fastBuiltinMro T).map (·.contains (.ref (He.ga K c))) = some false) : PySem.W.kitOne K (.type T) (.ref (He.ga K c)) = some false := by
  unfold PySem.W.kitOne
  rw [if_neg (by simp)]
  show (if _ then _ else _) = _
  rw [if_pos i.hk]
  exact h
end

end L75
namespace L75
open PySem PySem.Spec PyProof.Rows L2
variable {gd : Bool}
local macro_rules | `(tactic| walk_at "y1") => `(tactic| with_reducible first
  | refine tSeq_i ?_ | refine tAsg_i ?_ | refine tCons_i ?_ | refine tNil_i ?_ | refine tC_i ?_ | refine tOp_i ?_ | refine tIfS_i ?_ | refine tTest_i ?_ | refine exBl_i ?_ | refine tRet_i ?_ | refine tCall_i ?_
  | refine tCB_i ?_ | refine tLst_i ?_ | refine tTup_i ?_ | refine rI0_i ?_ | refine tDrop_i ?_ | refine tNext_i ?_ | refine tB_i ?_ | refine tAnd_i ?_ | refine tOr_i ?_ | refine tNot_i ?_ | refine tAndV_i ?_ | refine tOrV_i ?_ | refine tNotV_i ?_
  | refine tYes_i ?_ | refine tTM_i ?_ | refine tPar_i ?_ | refine tSl_i ?_ | refine tNoPart_i ?_ | refine tPart_i ?_ | refine part_i ?_ | refine tMake_i ?_ | refine tProp_i ?_ | refine tCallOG_i ?_ | refine tVeI_i ?_ | refine tOst_i ?_ | refine tMkO_i ?_ | refine sFld_i ?_ | refine fldaug_i ?_ | refine gCons_i ?_ | refine gNil_i ?_ | refine tChain_i ?_ | refine tBM_i ?_ | refine rAdd2_i ?_ | refine rLe2_i ?_ | refine rEq2_i ?_ | refine rEq2_ss ?_ | refine rNe2_i ?_ | refine rNe2_ss ?_ | refine rIsN_i ?_ | refine rNotN_i ?_ | refine tTup_i2 ?_ | refine tIf_i ?_ | refine tUn_i ?_ | refine tDGet_i ?_ | refine sDPut_i ?_ | refine tFld_i ?_ | refine tRetN_i ?_ | refine tBreak_i ?_ | refine tCont_i ?_ | refine rU_i ?_)
local macro_rules | `(tactic| walk_at "yhead") => `(tactic| dsimp only [L2.start, List.map, List.length_cons, List.length_nil, Nat.reduceAdd, Nat.reduceSub, List.replicate, List.cons_append, List.nil_append])
local macro_rules | `(tactic| walk_at "y2") => `(tactic| first
  | walk_at "y1"
  | ((with_reducible refine tVar_i (v := ?v) ?h ?q); (case h => rfl))
  | ((with_reducible refine gName_i ?_); (dsimp only [L2.wipe, List.set]))
  | with_reducible refine iteT ?_ | with_reducible refine iteF ?_ | with_reducible refine iteNT ?_ | with_reducible refine iteNF ?_
  | ((with_reducible refine iteDT ?h ?q); (case h => first | decide +kernel | omega | assumption | exact nv1 | exact nv2 | exact nv3 | exact nv4)) | ((with_reducible refine iteDF ?h ?q); (case h => first | decide +kernel | omega | assumption | exact nv1 | exact nv2 | exact nv3 | exact nv4))
  | ((with_reducible refine iteNDT ?h ?q); (case h => first | decide +kernel | omega | assumption | exact nv1 | exact nv2 | exact nv3 | exact nv4)) | ((with_reducible refine iteNDF ?h ?q); (case h => first | decide +kernel | omega | assumption | exact nv1 | exact nv2 | exact nv3 | exact nv4))
  | ((with_reducible refine rIsi2_1 (T := ?T) (b := true) ?ty ?h ?q); (case ty => first | exact ty_str | exact ty_int | exact ty_bl | exact ty_non); (case h => decide +kernel))
  | ((with_reducible refine rIsi2_1 (T := ?T) (b := false) ?ty ?h ?q); (case ty => first | exact ty_str | exact ty_int | exact ty_bl | exact ty_non); (case h => decide +kernel))
  | ((with_reducible refine rEq2_s ?h ?q); (case h => rfl)) | ((with_reducible refine rNe2_s ?h ?q); (case h => rfl))
  | ((with_reducible refine rEq_i ?h ?q); (case h => rfl)) | ((with_reducible refine rNe_i ?h ?q); (case h => rfl)))
local macro_rules | `(tactic| walk_at "y") => `(tactic| repeat walk_at "y2")

section
variable {P : Program} {w : World} {K : PySem.W.Frag} {mg : Str → Option Value} {base : Heap}
/-- a def that may raise -/
theorem Sy.calX (T : Sy K mg) {x : Str} {j : Nat} {N ps : List Str} {k : Nat} {sp : Sp} (F0 : FDx K (dG x j))
    (S : FnScope N ps (defScope (top j))) (len : ∀ vs H Q E, sp vs H Q E → vs.length = ps.length)
    (hbody : ∀ (cdv : Value) (f : Addr) (A : Around) (outer : List Env) (s : Shared) (H : Hp) (vs : List V) (Q : VK) (E : XK), RG gd k (A.deeper (envOfC x (defScope (top j)) s.heap.objs.size f cdv)) → sp vs H Q E →
      ∃ t, PSs (cxOf (CX P w) P w K mg base N x (defScope (top j)) f cdv A outer s H E) (defBody (top j)) t ∧ t { nx := fun _ H' => Q .non H', rt := Q } (start N vs) H)
    (hb : ∀ (kV doc pm : Value) (an : Option Addr) (cdv ct : Value) (us : List Value), us.length = ps.length → bindArgs (PySem.W.fnOf x x (defArgs (top j)) (defBody (top j)) (defScope (top j)) .none kV doc pm an cdv ct) ⟨us, []⟩ = pure (ps.zip us))
    (hg : fa.any (isGlo x) = true := by decide +kernel) : Cal gd P w K mg base (CX P w) (k + 1) x sp := by
  obtain ⟨fd, F⟩ := F0
  refine ⟨_, fd, ps, FnG.body F S len fun cdv A outer s H vs Q E hr h => hbody cdv _ A outer s H vs Q E hr h, T.glo x hg, F.kp, F.bindsN hb⟩
theorem sc_BadLog___init__ : FnScope ["self", "index"] ["self", "index"] (defScope (inClass (top 8) 0)) := ⟨rfl, rfl, rfl, by decide +kernel, rfl, by decide +kernel, by decide +kernel⟩
theorem x_BadLog (T : Sy K mg) : Exm P w K mg base 1 "BadLog" (spExI K "BadLog" "index") "index" := by
  refine T.exm T.xF.bl (F_BadLog___init__ T) sc_BadLog___init__ sp2_len (fun cdv f A outer s H vs Q E hr h => ?_) (fun _ _ _ _ _ _ us hl => match us, hl with | [_, _], _ => rfl)
  obtain ⟨_, v, rfl, a, rfl, ha, q⟩ := h
  refine ⟨_, (pss_cons (ps_expr (pe_vinit T.xF.me (by rfl) (T.glo "ModelError") (pa_cons (pv 0) (pa_cons pe_str pa_nil)))) (pss_one (ps_ost (pv 0) (pv 1)))), ?_⟩
  walk_at "yhead"; walk_at "y"
  refine ⟨a, He.ga K "BadLog", [.str "not a log"], rfl, by show 1 ≤ 1000; decide, T.xF.bl.o, ha, ?_⟩
  exact ⟨v, rfl, _, rfl, a, He.ga K "BadLog", rfl, T.xF.bl.o, T.xF.bl.n, .inl ⟨ha, q⟩⟩
/-- what an exception of the class c is told of -/
def RaiseX (K : PySem.W.Frag) (c f : Str) (v : V) (H : Hp) (E : XK) : Prop := ∀ d H', H d = none → Same H H' → H' d = some (.xd [(f, v)]) → E (.ref (He.ga K c)) (some d) H'
theorem RaiseX.mono {c f : Str} {v : V} {H H1 : Hp} {E : XK} (h : RaiseX K c f v H E) (s : Same H H1) : RaiseX K c f v H1 E := fun d H' hd s' e => h d H' (s.free hd) (s.trans s') e
theorem mkx_r {c f : Str} {v : V} {H : Hp} {E : XK} (q : RaiseX K c f v H E) :
    ([v] : List V).length ≤ 1000 ∧ ∀ a, H a = none → spExI K c f (.ref a :: ([v] ++ [])) (upd H a (exo a (He.ga K c) none))
      (fun u H2 => u = .non ∧ ∃ (d : Addr) (fs : List (Str × V)), H2 a = some (exo a (He.ga K c) (some d)) ∧ H2 d = some (exd d fs) ∧ H d = none ∧ E (.ref (He.ga K c)) (some d) (upd (del H2 a) d (.xd fs))) (fun _ _ _ => False) := mkx_i q
/-- an item of a log: a tuple of items, or no tuple -/
def EvAt (K : PySem.W.Frag) (H : Hp) (v : V) : Option (List Itm) → Prop
  | some its => ∃ p vs, v = .ref p ∧ H p = some (.tup vs) ∧ Paired (fun v (it : Itm) => it.At H v) vs its ∧ (∀ it ∈ its, it.Ok) ∧ its.length ≤ 8
  | none => ∃ it : Itm, it.At H v ∧ ∀ xs, it ≠ .tu xs
theorem EvAt.same {H H' : Hp} {v : V} {e : Option (List Itm)} (h : EvAt K H v e) (s : Same H H') : EvAt K H' v e := by
  cases e with
  | some its => exact (let ⟨p, vs, a, b, c, d⟩ := h; ⟨p, vs, a, s _ _ b, c.mono fun v it h => h.same s, d⟩)
  | none => exact (let ⟨it, a, b⟩ := h; ⟨it, a.same s, b⟩)
def evGood : Option (List Itm) → Bool | some its => isEventB its | none => false
/-- the first item that is no event -/
def firstBad : List (Option (List Itm)) → Nat → Option Nat
  | [], _ => none
  | e :: r, i => if evGood e = true then firstBad r (i + 1) else some i
theorem firstBad_at : ∀ (es : List (Option (List Itm))) (n i : Nat) (e : Option (List Itm)), es[i]? = some e → (∀ j, j < i → ∀ x, es[j]? = some x → evGood x = true) → evGood e = false → firstBad es n = some (n + i)
  | [], n, i, e, h, _, _ => by simp at h
  | x :: r, n, 0, e, h, _, g => by
    cases (show some x = some e from h)
    show (if evGood x = true then _ else some n) = _
    rw [g, if_neg (by decide)]
    rfl
  | x :: r, n, i + 1, e, h, hb, g => by
    show (if evGood x = true then firstBad r (n + 1) else some n) = _
    rw [if_pos (hb 0 (Nat.succ_pos _) x rfl), firstBad_at r (n + 1) i e h (fun j hj y hy => hb (j + 1) (Nat.succ_lt_succ hj) y hy) g]
    congr 1
    omega
theorem event_i {H : Hp} {v : V} {e : Option (List Itm)} {C : VK} {E : XK} (h : EvAt K H v e) (q : ∀ H', Same H H' → C (.bl (evGood e)) H') : spEvent K ([v] ++ []) H C E := by
  cases e with
  | some its =>
    obtain ⟨p, vs, rfl, hp, pr, ok, hl⟩ := h
    exact ⟨_, rfl, .inl ⟨p, vs, its, rfl, hp, pr, ok, hl, q⟩⟩
  | none =>
    obtain ⟨it, a, b⟩ := h
    exact ⟨_, rfl, .inr ⟨a.notT b, q H (Same.refl _)⟩⟩
def spCheck (K : PySem.W.Frag) : Sp := sp1 fun x H Q E => (∃ b p vs es, x = .ref p ∧ H p = some (sq b vs) ∧ Paired (EvAt K H) vs es ∧ ((firstBad es 0 = none ∧ ∀ H', Same H H' → Q .non H') ∨ ∃ i : Nat, firstBad es 0 = some i ∧ RaiseX K "BadLog" "index" (.int i) H E)) ∨
  (∃ it : Itm, it.At H x ∧ (∀ xs, it ≠ .tu xs) ∧ (∀ xs, it ≠ .ls xs) ∧ RaiseX K "BadLog" "index" .non H E)
end

end L75
namespace L75
open PySem PySem.Spec PyProof.Rows L2
variable {gd : Bool}
local macro_rules | `(tactic| walk_at "y1") => `(tactic| with_reducible first
  | refine tSeq_i ?_ | refine tAsg_i ?_ | refine tCons_i ?_ | refine tNil_i ?_ | refine tC_i ?_ | refine tOp_i ?_ | refine tIfS_i ?_ | refine tTest_i ?_ | refine exBl_i ?_ | refine tRet_i ?_ | refine tCall_i ?_
  | refine tCB_i ?_ | refine tLst_i ?_ | refine tTup_i ?_ | refine rI0_i ?_ | refine tDrop_i ?_ | refine tNext_i ?_ | refine tB_i ?_ | refine tAnd_i ?_ | refine tOr_i ?_ | refine tNot_i ?_ | refine tAndV_i ?_ | refine tOrV_i ?_ | refine tNotV_i ?_
  | refine tYes_i ?_ | refine tTM_i ?_ | refine tPar_i ?_ | refine tSl_i ?_ | refine tNoPart_i ?_ | refine tPart_i ?_ | refine part_i ?_ | refine tMake_i ?_ | refine tProp_i ?_ | refine tCallOG_i ?_ | refine tVeI_i ?_ | refine tOst_i ?_ | refine tMkO_i ?_ | refine sFld_i ?_ | refine fldaug_i ?_ | refine gCons_i ?_ | refine gNil_i ?_ | refine tChain_i ?_ | refine tBM_i ?_ | refine rAdd2_i ?_ | refine rLe2_i ?_ | refine rEq2_i ?_ | refine rEq2_ss ?_ | refine rNe2_i ?_ | refine rNe2_ss ?_ | refine rIsN_i ?_ | refine rNotN_i ?_ | refine tTup_i2 ?_ | refine tIf_i ?_ | refine tUn_i ?_ | refine tDGet_i ?_ | refine sDPut_i ?_ | refine tFld_i ?_ | refine tRetN_i ?_ | refine tBreak_i ?_ | refine tCont_i ?_ | refine rU_i ?_)
local macro_rules | `(tactic| walk_at "yhead") => `(tactic| dsimp only [L2.start, List.map, List.length_cons, List.length_nil, Nat.reduceAdd, Nat.reduceSub, List.replicate, List.cons_append, List.nil_append])
local macro_rules | `(tactic| walk_at "y2") => `(tactic| first
  | walk_at "y1"
  | ((with_reducible refine tVar_i (v := ?v) ?h ?q); (case h => rfl))
  | ((with_reducible refine gName_i ?_); (dsimp only [L2.wipe, List.set]))
  | with_reducible refine iteT ?_ | with_reducible refine iteF ?_ | with_reducible refine iteNT ?_ | with_reducible refine iteNF ?_
  | ((with_reducible refine iteDT ?h ?q); (case h => first | decide +kernel | omega | assumption | exact nv1 | exact nv2 | exact nv3 | exact nv4)) | ((with_reducible refine iteDF ?h ?q); (case h => first | decide +kernel | omega | assumption | exact nv1 | exact nv2 | exact nv3 | exact nv4))
  | ((with_reducible refine iteNDT ?h ?q); (case h => first | decide +kernel | omega | assumption | exact nv1 | exact nv2 | exact nv3 | exact nv4)) | ((with_reducible refine iteNDF ?h ?q); (case h => first | decide +kernel | omega | assumption | exact nv1 | exact nv2 | exact nv3 | exact nv4))
  | ((with_reducible refine rIsi2_1 (T := ?T) (b := true) ?ty ?h ?q); (case ty => first | exact ty_str | exact ty_int | exact ty_bl | exact ty_non); (case h => decide +kernel))
  | ((with_reducible refine rIsi2_1 (T := ?T) (b := false) ?ty ?h ?q); (case ty => first | exact ty_str | exact ty_int | exact ty_bl | exact ty_non); (case h => decide +kernel))
  | ((with_reducible refine rEq2_s ?h ?q); (case h => rfl)) | ((with_reducible refine rNe2_s ?h ?q); (case h => rfl))
  | ((with_reducible refine rEq_i ?h ?q); (case h => rfl)) | ((with_reducible refine rNe_i ?h ?q); (case h => rfl)))
local macro_rules | `(tactic| walk_at "y") => `(tactic| repeat walk_at "y2")

section
variable {P : Program} {w : World} {K : PySem.W.Frag} {mg : Str → Option Value} {base : Heap}
theorem firstBad_none : ∀ (es : List (Option (List Itm))) (n : Nat), (∀ x ∈ es, evGood x = true) → firstBad es n = none
  | [], _, _ => rfl
  | x :: r, n, h => by
    show (if evGood x = true then firstBad r (n + 1) else some n) = none
    rw [if_pos (h x List.mem_cons_self)]
    exact firstBad_none r (n + 1) fun y hy => h y (List.mem_cons_of_mem _ hy)
theorem Itm.At.notLT {H : Hp} {v : V} {it : Itm} (h : it.At H v) (n : ∀ xs, it ≠ .tu xs) (n2 : ∀ xs, it ≠ .ls xs) : ∃ T, TyX K H v (.type T) ∧ kitB T "list" = some false ∧ kitB T "tuple" = some false := by
  cases it with
  | non => cases (show v = .non from h); exact ⟨_, ty_non, by decide +kernel, by decide +kernel⟩
  | bl b => cases (show v = .bl b from h); exact ⟨_, ty_bl, by decide +kernel, by decide +kernel⟩
  | int i => cases (show v = .int i from h); exact ⟨_, ty_int, by decide +kernel, by decide +kernel⟩
  | str s => obtain ⟨rfl, _⟩ := h; exact ⟨_, ty_str, by decide +kernel, by decide +kernel⟩
  | tu xs => exact absurd rfl (n xs)
  | ls xs => exact absurd rfl (n2 xs)
  | dc => obtain ⟨a, rfl, k⟩ := h; exact ⟨_, .base (.dK k), by decide +kernel, by decide +kernel⟩
theorem sc_check_log : FnScope ["log", "place", "event"] ["log"] (defScope (top 28)) := ⟨rfl, rfl, rfl, by decide +kernel, rfl, by decide +kernel, by decide +kernel⟩
theorem cf_check_log (T : Sy K mg) : CalF gd P w K mg base (CX P w) 6 "check_log" (spCheck K) 28 ["log"] := by
  refine T.calXF (F_check_log T) sc_check_log sp1_len (fun cdv f A outer s H vs Q E z h => ?_) (fun _ _ _ _ _ _ us hl => match us, hl with | [_], _ => rfl)
  have hu1 := hu_1 z; have hu2 := hu_2 z; have hu3 := hu_3 z
  obtain ⟨x0, rfl, h⟩ := h
  refine ⟨_, (pss_cons (ps_if (pt_not (pt_val (pe_callB (r := rIsi2 K) call_isi2 (by rfl) (T.free "isinstance") (by decide +kernel) (pa_cons (pv 0) (pa_cons (pe_tup (pa_cons (pe_bltn (v := .ty "list") (u := .type "list") (by rfl) (T.free "list") (by decide +kernel) rfl) (pa_cons (pe_bltn (v := .ty "tuple") (u := .type "tuple") (by rfl) (T.free "tuple") (by decide +kernel) rfl) pa_nil))) pa_nil))))) (pss_one (ps_raise rfl (takes_of rfl rfl rfl rfl) (pmk_x (x_BadLog T) z.r (pa_cons pe_non pa_nil)))) pss_nil) (pss_one (ps_for (passes_of rfl) (by rfl) (pi_enum2K (K := K) rfl (by rfl) (T.free "enumerate") (pv 0)) (pg_tupK (K := K) rfl (by rfl) (pgs_cons (pg_name (i := 1) sc_check_log.nd rfl (by first | exact Or.inl rfl | exact Or.inr rfl)) (pgs_cons (pg_name (i := 2) sc_check_log.nd rfl (by first | exact Or.inl rfl | exact Or.inr rfl)) pgs_nil))) (pss_one (ps_if (pt_not (pt_val (pe_c (c_is_event T) z (pa_cons (pv 2) pa_nil)))) (pss_one (ps_raise rfl (takes_of rfl rfl rfl rfl) (pmk_x (x_BadLog T) z.r (pa_cons (pv 1) pa_nil)))) pss_nil))))), ?_⟩
  rcases h with ⟨b, p, vs, es, rfl, h1, h2, h⟩ | ⟨it, ia, i1, i2, rx⟩
  rotate_left
  · walk_at "yhead"; walk_at "y"
    refine ⟨sz4 (by simp), fun T1 nT1 => ?_⟩
    have sH1 := same_upd (H := H) (o := .tup [.ty "list", .ty "tuple"]) nT1
    have eT1 := upd_same (H := H) (a := T1) (o := .tup [.ty "list", .ty "tuple"])
    generalize upd H T1 (.tup [.ty "list", .ty "tuple"]) = H1 at sH1 eT1 ⊢
    obtain ⟨U, ty, e1, e2⟩ := (ia.same sH1).notLT (K := K) i1 i2
    walk_at "y"
    refine rIsi2_2 (b := false) (b2 := false) ty eT1 e1 e2 ?_
    refine ⟨_, rfl, ?_⟩
    rw [if_pos (by decide)]
    walk_at "y"
    exact mkx_r (rx.mono sH1)
  walk_at "yhead"; walk_at "y"
  refine ⟨sz4 (by simp), fun T1 nT1 => ?_⟩
  have sH1 := same_upd (H := H) (o := .tup [.ty "list", .ty "tuple"]) nT1
  have eT1 := upd_same (H := H) (a := T1) (o := .tup [.ty "list", .ty "tuple"])
  generalize upd H T1 (.tup [.ty "list", .ty "tuple"]) = H1 at sH1 eT1 ⊢
  have i2 : ∀ {Q : VK}, Q (.bl true) H1 → rIsi2 K [.ref p, .ref T1] H1 Q := fun q => by
    cases b
    · exact rIsi2_2 (b := false) (b2 := true) (ty_tup (sH1 _ _ h1)) eT1 (by decide +kernel) (by decide +kernel) q
    · exact rIsi2_2 (b := true) (b2 := false) (ty_lst (sH1 _ _ h1)) eT1 (by decide +kernel) (by decide +kernel) q
  refine i2 ?_
  walk_at "y"
  refine for_eb b ?_
  walk_at "y"
  refine ⟨p, vs, rfl, SqB.of (sH1 _ _ h1), for_it walk_eb (Pv := fun i σ H' => Same H H' ∧ (∃ a c, σ = [some (.ref p), a, c]) ∧ ∀ j, j < i → ∀ x, es[j]? = some x → evGood x = true) ⟨sH1, ⟨_, _, rfl⟩, fun j hj => absurd hj (Nat.not_lt_zero _)⟩ (fun i σ H' _ hp => hp.1 _ _ h1) (fun i x σ H0 H' hi hp y => ?_) fun σ H' hp => ?_⟩
  · obtain ⟨s0, ⟨a, c, rfl⟩, hg⟩ := hp
    obtain ⟨tt, v1, v2, rfl, ht, rfl, e1, e2⟩ := y
    cases e1
    have sY := same_upd (o := .tup [.int i, v2]) ht
    obtain ⟨ev, e3, e4⟩ := paired_of h2 e2
    refine gTup_i (SqT.of upd_same) ?_
    have s1 := s0.trans sY
    generalize upd H0 tt (.tup [.int i, v2]) = H2 at sY s1 ⊢
    walk_at "y"
    refine event_i (e4.same s1) fun H3 s3 => ⟨_, rfl, ?_⟩
    cases hgd : evGood ev with
    | true =>
      walk_at "y"
      refine ⟨s1.trans s3, ⟨_, _, rfl⟩, fun j hj x hx => ?_⟩
      by_cases c2 : j = i
      · subst c2
        rw [e3] at hx
        cases hx
        exact hgd
      · exact hg j (by omega) x hx
    | false =>
      walk_at "y"
      have fb := firstBad_at es 0 i ev e3 hg hgd
      rcases h with ⟨h, _⟩ | ⟨k, h, rx⟩
      · rw [h] at fb; cases fb
      · rw [h] at fb
        have ek : k = i := by have := Option.some.inj fb; omega
        subst ek
        exact mkx_r (rx.mono (s1.trans s3))
  · obtain ⟨s0, ⟨a, c, rfl⟩, hg⟩ := hp
    have fb : firstBad es 0 = none := firstBad_none es 0 fun x hx => by
      obtain ⟨j, hj⟩ := List.getElem?_of_mem hx
      refine hg j ?_ x hj
      rw [h2.length]
      exact (List.getElem?_eq_some_iff.mp hj).1
    rcases h with ⟨_, q⟩ | ⟨k, h, _⟩
    · exact q _ s0
    · rw [fb] at h; cases h
theorem c_check_log (T : Sy K mg) : Cal gd P w K mg base (CX P w) 6 "check_log" (spCheck K) := (cf_check_log T).cal
end

end L75
namespace L75
open PySem PySem.Spec PyProof.Rows L2
variable {gd : Bool}
local macro_rules | `(tactic| walk_at "y1") => `(tactic| with_reducible first
  | refine tSeq_i ?_ | refine tAsg_i ?_ | refine tCons_i ?_ | refine tNil_i ?_ | refine tC_i ?_ | refine tOp_i ?_ | refine tIfS_i ?_ | refine tTest_i ?_ | refine exBl_i ?_ | refine tRet_i ?_ | refine tCall_i ?_
  | refine tCB_i ?_ | refine tLst_i ?_ | refine tTup_i ?_ | refine rI0_i ?_ | refine tDrop_i ?_ | refine tNext_i ?_ | refine tB_i ?_ | refine tAnd_i ?_ | refine tOr_i ?_ | refine tNot_i ?_ | refine tAndV_i ?_ | refine tOrV_i ?_ | refine tNotV_i ?_
  | refine tYes_i ?_ | refine tTM_i ?_ | refine tPar_i ?_ | refine tSl_i ?_ | refine tNoPart_i ?_ | refine tPart_i ?_ | refine part_i ?_ | refine tMake_i ?_ | refine tProp_i ?_ | refine tCallOG_i ?_ | refine tVeI_i ?_ | refine tOst_i ?_ | refine tMkO_i ?_ | refine sFld_i ?_ | refine fldaug_i ?_ | refine gCons_i ?_ | refine gNil_i ?_ | refine tChain_i ?_ | refine tBM_i ?_ | refine rAdd2_i ?_ | refine rLe2_i ?_ | refine rEq2_i ?_ | refine rEq2_ss ?_ | refine rNe2_i ?_ | refine rNe2_ss ?_ | refine rIsN_i ?_ | refine rNotN_i ?_ | refine tTup_i2 ?_ | refine tIf_i ?_ | refine tUn_i ?_ | refine tDGet_i ?_ | refine sDPut_i ?_ | refine tFld_i ?_ | refine tRetN_i ?_ | refine tBreak_i ?_ | refine tCont_i ?_ | refine rU_i ?_)
local macro_rules | `(tactic| walk_at "yhead") => `(tactic| dsimp only [L2.start, List.map, List.length_cons, List.length_nil, Nat.reduceAdd, Nat.reduceSub, List.replicate, List.cons_append, List.nil_append])
local macro_rules | `(tactic| walk_at "y2") => `(tactic| first
  | walk_at "y1"
  | ((with_reducible refine tVar_i (v := ?v) ?h ?q); (case h => rfl))
  | ((with_reducible refine gName_i ?_); (dsimp only [L2.wipe, List.set]))
  | with_reducible refine iteT ?_ | with_reducible refine iteF ?_ | with_reducible refine iteNT ?_ | with_reducible refine iteNF ?_
  | ((with_reducible refine iteDT ?h ?q); (case h => first | decide +kernel | omega | assumption | exact nv1 | exact nv2 | exact nv3 | exact nv4)) | ((with_reducible refine iteDF ?h ?q); (case h => first | decide +kernel | omega | assumption | exact nv1 | exact nv2 | exact nv3 | exact nv4))
  | ((with_reducible refine iteNDT ?h ?q); (case h => first | decide +kernel | omega | assumption | exact nv1 | exact nv2 | exact nv3 | exact nv4)) | ((with_reducible refine iteNDF ?h ?q); (case h => first | decide +kernel | omega | assumption | exact nv1 | exact nv2 | exact nv3 | exact nv4))
  | ((with_reducible refine rIsi2_1 (T := ?T) (b := true) ?ty ?h ?q); (case ty => first | exact ty_str | exact ty_int | exact ty_bl | exact ty_non); (case h => decide +kernel))
  | ((with_reducible refine rIsi2_1 (T := ?T) (b := false) ?ty ?h ?q); (case ty => first | exact ty_str | exact ty_int | exact ty_bl | exact ty_non); (case h => decide +kernel))
  | ((with_reducible refine rEq2_s ?h ?q); (case h => rfl)) | ((with_reducible refine rNe2_s ?h ?q); (case h => rfl))
  | ((with_reducible refine rEq_i ?h ?q); (case h => rfl)) | ((with_reducible refine rNe_i ?h ?q); (case h => rfl)))
local macro_rules | `(tactic| walk_at "y") => `(tactic| repeat walk_at "y2")

section
variable {P : Program} {w : World} {K : PySem.W.Frag} {mg : Str → Option Value} {base : Heap}
theorem sc__law_is_number : FnScope ["_law_thing"] ["_law_thing"] (defScope (top 43)) := ⟨rfl, rfl, rfl, by decide +kernel, rfl, by decide +kernel, by decide +kernel⟩
theorem c__law_is_number (T : Sy K mg) : Cal gd P w K mg base CX0 1 "_law_is_number" spNum := by
  refine T.cal (F_law_is_number T) sc__law_is_number sp1_len (fun cdv f A outer s H vs Q E z h => ?_) (fun _ _ _ _ _ _ us hl => match us, hl with | [_], _ => rfl)
  have hu1 := hu_1 z; have hu2 := hu_2 z; have hu3 := hu_3 z
  obtain ⟨x0, rfl, h⟩ := h
  obtain ⟨it, ha, q⟩ := h
  refine ⟨_, (pss_one (ps_ret (pe_and (pe_callB (r := rIsi2 K) call_isi2 (by rfl) (T.free "isinstance") (by decide +kernel) (pa_cons (pv 0) (pa_cons (pe_bltn (v := .ty "int") (u := .type "int") (by rfl) (T.free "int") (by decide +kernel) rfl) pa_nil))) (pe_and (pe_not (pe_callB (r := rIsi2 K) call_isi2 (by rfl) (T.free "isinstance") (by decide +kernel) (pa_cons (pv 0) (pa_cons (pe_bltn (v := .ty "bool") (u := .type "bool") (by rfl) (T.free "bool") (by decide +kernel) rfl) pa_nil)))) (pe_one (pe_cmpR op_ge (pv 0) pe_int (nomark _))))))), ?_⟩
  cases it with
  | int i => cases (show x0 = .int i from ha); walk_at "yhead"; walk_at "y"; exact q
  | bl b => cases (show x0 = .bl b from ha); walk_at "yhead"; walk_at "y"; exact q
  | non => cases (show x0 = .non from ha); walk_at "yhead"; walk_at "y"; exact q
  | str s => obtain ⟨rfl, _⟩ := ha; walk_at "yhead"; walk_at "y"; exact q
  | tu xs => obtain ⟨a, rfl, k⟩ := ha; walk_at "yhead"; walk_at "y"; refine rIsi2_1 (b := false) (ty_tup k) (by decide +kernel) ?_; walk_at "y"; exact q
  | ls xs => obtain ⟨a, rfl, k⟩ := ha; walk_at "yhead"; walk_at "y"; refine rIsi2_1 (b := false) (ty_lst k) (by decide +kernel) ?_; walk_at "y"; exact q
  | dc => obtain ⟨a, rfl, k⟩ := ha; walk_at "yhead"; walk_at "y"; refine rIsi2_1 (b := false) (.base (.dK k)) (by decide +kernel) ?_; walk_at "y"; exact q
end

end L75
namespace L75
open PySem PySem.Spec PyProof.Rows L2
variable {gd : Bool}
local macro_rules | `(tactic| walk_at "y1") => `(tactic| with_reducible first
  | refine tSeq_i ?_ | refine tAsg_i ?_ | refine tCons_i ?_ | refine tNil_i ?_ | refine tC_i ?_ | refine tOp_i ?_ | refine tIfS_i ?_ | refine tTest_i ?_ | refine exBl_i ?_ | refine tRet_i ?_ | refine tCall_i ?_
  | refine tCB_i ?_ | refine tLst_i ?_ | refine tTup_i ?_ | refine rI0_i ?_ | refine tDrop_i ?_ | refine tNext_i ?_ | refine tB_i ?_ | refine tAnd_i ?_ | refine tOr_i ?_ | refine tNot_i ?_ | refine tAndV_i ?_ | refine tOrV_i ?_ | refine tNotV_i ?_
  | refine tYes_i ?_ | refine tTM_i ?_ | refine tPar_i ?_ | refine tSl_i ?_ | refine tNoPart_i ?_ | refine tPart_i ?_ | refine part_i ?_ | refine tMake_i ?_ | refine tProp_i ?_ | refine tCallOG_i ?_ | refine tVeI_i ?_ | refine tOst_i ?_ | refine tMkO_i ?_ | refine sFld_i ?_ | refine fldaug_i ?_ | refine gCons_i ?_ | refine gNil_i ?_ | refine tChain_i ?_ | refine tBM_i ?_ | refine rAdd2_i ?_ | refine rLe2_i ?_ | refine rEq2_i ?_ | refine rEq2_ss ?_ | refine rNe2_i ?_ | refine rNe2_ss ?_ | refine rIsN_i ?_ | refine rNotN_i ?_ | refine tTup_i2 ?_ | refine tIf_i ?_ | refine tUn_i ?_ | refine tDGet_i ?_ | refine sDPut_i ?_ | refine tFld_i ?_ | refine tRetN_i ?_ | refine tBreak_i ?_ | refine tCont_i ?_ | refine rU_i ?_)
local macro_rules | `(tactic| walk_at "yhead") => `(tactic| dsimp only [L2.start, List.map, List.length_cons, List.length_nil, Nat.reduceAdd, Nat.reduceSub, List.replicate, List.cons_append, List.nil_append])
local macro_rules | `(tactic| walk_at "y2") => `(tactic| first
  | walk_at "y1"
  | ((with_reducible refine tVar_i (v := ?v) ?h ?q); (case h => rfl))
  | ((with_reducible refine gName_i ?_); (dsimp only [L2.wipe, List.set]))
  | with_reducible refine iteT ?_ | with_reducible refine iteF ?_ | with_reducible refine iteNT ?_ | with_reducible refine iteNF ?_
  | ((with_reducible refine iteDT ?h ?q); (case h => first | decide +kernel | omega | assumption | exact nv1 | exact nv2 | exact nv3 | exact nv4)) | ((with_reducible refine iteDF ?h ?q); (case h => first | decide +kernel | omega | assumption | exact nv1 | exact nv2 | exact nv3 | exact nv4))
  | ((with_reducible refine iteNDT ?h ?q); (case h => first | decide +kernel | omega | assumption | exact nv1 | exact nv2 | exact nv3 | exact nv4)) | ((with_reducible refine iteNDF ?h ?q); (case h => first | decide +kernel | omega | assumption | exact nv1 | exact nv2 | exact nv3 | exact nv4))
  | ((with_reducible refine rIsi2_1 (T := ?T) (b := true) ?ty ?h ?q); (case ty => first | exact ty_str | exact ty_int | exact ty_bl | exact ty_non); (case h => decide +kernel))
  | ((with_reducible refine rIsi2_1 (T := ?T) (b := false) ?ty ?h ?q); (case ty => first | exact ty_str | exact ty_int | exact ty_bl | exact ty_non); (case h => decide +kernel))
  | ((with_reducible refine rEq2_s ?h ?q); (case h => rfl)) | ((with_reducible refine rNe2_s ?h ?q); (case h => rfl))
  | ((with_reducible refine rEq_i ?h ?q); (case h => rfl)) | ((with_reducible refine rNe_i ?h ?q); (case h => rfl)))
local macro_rules | `(tactic| walk_at "y") => `(tactic| repeat walk_at "y2")

section
variable {P : Program} {w : World} {K : PySem.W.Frag} {mg : Str → Option Value} {base : Heap}
/-- a watcher's fields -/
structure WSt where
  seen : Int
  opened : Int
  made : Int
  opn : List Int
  most : Int
def WSt.fs (s : WSt) (l : Addr) : List (Str × V) := [("s7_seen", .int s.seen), ("s7_opened", .int s.opened), ("s7_made", .int s.made), ("s7_open", .ref l), ("s7_most", .int s.most)]
def WSt.new : WSt := ⟨0, 0, 0, [], 0⟩
/-- a watcher at x, its list at l -/
def WAt (K : PySem.W.Frag) (H : Hp) (x dx l : Addr) (s : WSt) : Prop := H x = some (.ins (He.ga K "Watcher") dx (s.fs l)) ∧ H l = some (.lst (s.opn.map V.int))
def spWInit (K : PySem.W.Frag) : Sp := sp1 fun v H Q _ => ∃ x dx, v = .ref x ∧ H x = some (.ins (He.ga K "Watcher") dx []) ∧ ∀ l H', H l = none → (∀ b o, H b = some o → b ≠ x → H' b = some o) → WAt K H' x dx l .new → Q .non H'
theorem sc_Watcher___init__ : FnScope ["self"] ["self"] (defScope (inClass (top 29) 0)) := ⟨rfl, rfl, rfl, by decide +kernel, rfl, by decide +kernel, by decide +kernel⟩
theorem m_Watcher (T : Sy K mg) : Mak gd P w K mg base CX0 1 "Watcher" (spWInit K) := by
  refine T.mak (F_Watcher___init__ T) sc_Watcher___init__ sp1_len (fun cdv f A outer s H vs Q E z h => ?_) (fun _ _ _ _ _ _ us hl => match us, hl with | [_], _ => rfl)
  obtain ⟨_, rfl, x, dx, rfl, hx, q⟩ := h
  refine ⟨_, (pss_cons (ps_fldK (K := K) rfl (pv 0) pe_int) (pss_cons (ps_fldK (K := K) rfl (pv 0) pe_int) (pss_cons (ps_fldK (K := K) rfl (pv 0) pe_int) (pss_cons (ps_fldK (K := K) rfl (pv 0) (pe_lst pa_nil)) (pss_one (ps_fldK (K := K) rfl (pv 0) pe_int)))))), ?_⟩
  have cl := T.cls "Watcher"
  walk_at "yhead"; walk_at "y"
  refine fst_i hx cl (T.noat "Watcher" "s7_seen") (by decide) ?_
  walk_at "y"
  refine fst_i upd_same cl (T.noat "Watcher" "s7_opened") (by decide) ?_
  walk_at "y"
  refine fst_i upd_same cl (T.noat "Watcher" "s7_made") (by decide) ?_
  walk_at "y"
  refine ⟨sz4, fun l hl => ?_⟩
  have nx : x ≠ l := ne_of_none upd_same hl
  walk_at "y"
  refine fst_i ((upd_ne nx).trans upd_same) cl (T.noat "Watcher" "s7_open") (ltB (by kernel_rfl)) ?_
  walk_at "y"
  refine fst_i upd_same cl (T.noat "Watcher" "s7_most") (ltB (by kernel_rfl)) ?_
  rw [upd_ne (Ne.symm nx), upd_ne (Ne.symm nx), upd_ne (Ne.symm nx)] at hl
  refine q l _ hl (fun b o e n => ?_) ⟨by rw [upd_same]; kernel_rfl, ?_⟩
  · have nl : b ≠ l := ne_of_none e hl
    rw [upd_ne n, upd_ne n, upd_ne nl, upd_ne n, upd_ne n, upd_ne n]
    exact e
  · rw [upd_ne (Ne.symm nx), upd_ne (Ne.symm nx), upd_same]
    rfl
end

end L75
namespace L75
open PySem PySem.Spec PyProof.Rows L2
variable {gd : Bool}
local macro_rules | `(tactic| walk_at "y1") => `(tactic| with_reducible first
  | refine tSeq_i ?_ | refine tAsg_i ?_ | refine tCons_i ?_ | refine tNil_i ?_ | refine tC_i ?_ | refine tOp_i ?_ | refine tIfS_i ?_ | refine tTest_i ?_ | refine exBl_i ?_ | refine tRet_i ?_ | refine tCall_i ?_
  | refine tCB_i ?_ | refine tLst_i ?_ | refine tTup_i ?_ | refine rI0_i ?_ | refine tDrop_i ?_ | refine tNext_i ?_ | refine tB_i ?_ | refine tAnd_i ?_ | refine tOr_i ?_ | refine tNot_i ?_ | refine tAndV_i ?_ | refine tOrV_i ?_ | refine tNotV_i ?_
  | refine tYes_i ?_ | refine tTM_i ?_ | refine tPar_i ?_ | refine tSl_i ?_ | refine tNoPart_i ?_ | refine tPart_i ?_ | refine part_i ?_ | refine tMake_i ?_ | refine tProp_i ?_ | refine tCallOG_i ?_ | refine tVeI_i ?_ | refine tOst_i ?_ | refine tMkO_i ?_ | refine sFld_i ?_ | refine fldaug_i ?_ | refine gCons_i ?_ | refine gNil_i ?_ | refine tChain_i ?_ | refine tBM_i ?_ | refine rAdd2_i ?_ | refine rLe2_i ?_ | refine rEq2_i ?_ | refine rEq2_ss ?_ | refine rNe2_i ?_ | refine rNe2_ss ?_ | refine rIsN_i ?_ | refine rNotN_i ?_ | refine tTup_i2 ?_ | refine tIf_i ?_ | refine tUn_i ?_ | refine tDGet_i ?_ | refine sDPut_i ?_ | refine tFld_i ?_ | refine tRetN_i ?_ | refine tBreak_i ?_ | refine tCont_i ?_ | refine rU_i ?_)
local macro_rules | `(tactic| walk_at "yhead") => `(tactic| dsimp only [L2.start, List.map, List.length_cons, List.length_nil, Nat.reduceAdd, Nat.reduceSub, List.replicate, List.cons_append, List.nil_append])
local macro_rules | `(tactic| walk_at "y2") => `(tactic| first
  | walk_at "y1"
  | ((with_reducible refine tVar_i (v := ?v) ?h ?q); (case h => rfl))
  | ((with_reducible refine gName_i ?_); (dsimp only [L2.wipe, List.set]))
  | with_reducible refine iteT ?_ | with_reducible refine iteF ?_ | with_reducible refine iteNT ?_ | with_reducible refine iteNF ?_
  | ((with_reducible refine iteDT ?h ?q); (case h => first | decide +kernel | omega | assumption | exact nv1 | exact nv2 | exact nv3 | exact nv4)) | ((with_reducible refine iteDF ?h ?q); (case h => first | decide +kernel | omega | assumption | exact nv1 | exact nv2 | exact nv3 | exact nv4))
  | ((with_reducible refine iteNDT ?h ?q); (case h => first | decide +kernel | omega | assumption | exact nv1 | exact nv2 | exact nv3 | exact nv4)) | ((with_reducible refine iteNDF ?h ?q); (case h => first | decide +kernel | omega | assumption | exact nv1 | exact nv2 | exact nv3 | exact nv4))
  | ((with_reducible refine rIsi2_1 (T := ?T) (b := true) ?ty ?h ?q); (case ty => first | exact ty_str | exact ty_int | exact ty_bl | exact ty_non); (case h => decide +kernel))
  | ((with_reducible refine rIsi2_1 (T := ?T) (b := false) ?ty ?h ?q); (case ty => first | exact ty_str | exact ty_int | exact ty_bl | exact ty_non); (case h => decide +kernel))
  | ((with_reducible refine rEq2_s ?h ?q); (case h => rfl)) | ((with_reducible refine rNe2_s ?h ?q); (case h => rfl))
  | ((with_reducible refine rEq_i ?h ?q); (case h => rfl)) | ((with_reducible refine rNe_i ?h ?q); (case h => rfl)))
local macro_rules | `(tactic| walk_at "y") => `(tactic| repeat walk_at "y2")

section
variable {K : PySem.W.Frag} {σ : L2.St} {H : Hp} {a : Addr} {v y : V} {Q : VK}
theorem tPairs_c {tk tv : TE} {r : List (TE × TE)} {Q : List (V × V) → Hp → Prop} (q : tk σ H fun x H1 => tv σ H1 fun y H2 => tPairs r σ H2 fun ps H3 => Q ((x, y) :: ps) H3) : tPairs ((tk, tv) :: r) σ H Q := q
theorem tPairs_n {Q : List (V × V) → Hp → Prop} (q : Q [] H) : tPairs [] σ H Q := q
theorem dputU_i {N : L2.St → Hp → Prop} {kvs kvs' : List (Key × V)} {k : Key} (h : H a = some (.dK kvs)) (hy : y = kV k) (hl : kvs.length < sizeLine) (e : putK kvs k v = kvs') (q : ∀ H2, H2 a = some (.dK kvs') → (∀ b, b ≠ a → H2 b = H b) → N σ H2) : ∃ a' H4, V.ref a = .ref a' ∧ DPut H a' y v H4 ∧ N σ H4 :=
  dput_i h hy hl (q _ (by rw [upd_same, e]) fun b nb => upd_ne nb)
end
section
variable {P : Program} {w : World} {K : PySem.W.Frag} {mg : Str → Option Value} {base : Heap}
def spMixed : Sp := sp2 fun x y H Q _ => ∃ (c k : Int), x = .int c ∧ y = .int k ∧ 0 ≤ k ∧ k < 1000000000 ∧ ∀ (r : Int) (H' : Hp), 0 ≤ r → r < 2147483647 → Same H H' → Q (.int r) H'
theorem sc__law_mixed : FnScope ["_law_cell", "_law_n", "_law_number"] ["_law_cell", "_law_n"] (defScope (top 40)) := ⟨rfl, rfl, rfl, by decide +kernel, rfl, by decide +kernel, by decide +kernel⟩
theorem c__law_mixed (T : Sy K mg) : Cal gd P w K mg base CX0 1 "_law_mixed" spMixed := by
  refine T.cal (F_law_mixed T) sc__law_mixed sp2_len (fun cdv f A outer s H vs Q E z h => ?_) (fun _ _ _ _ _ _ us hl => match us, hl with | [_, _], _ => rfl)
  have hu1 := hu_1 z; have hu2 := hu_2 z; have hu3 := hu_3 z
  obtain ⟨x0, x1, rfl, h⟩ := h
  obtain ⟨c, k, rfl, rfl, k0, k1, q⟩ := h
  refine ⟨_, (pss_cons (ps_set (i := 2) sc__law_mixed.nd rfl (by first | exact Or.inl rfl | exact Or.inr rfl) (pe_op (r := rAdd2 K) op_add2 (pe_op (r := rAdd2 K) op_add2 (pe_op op_mod (pv 0) (pe_ix (r := rGet K) (ix_get hu3) (pe_lst (pa_cons pe_int (pa_cons pe_int (pa_cons pe_int (pa_cons pe_int pa_nil))))) (pe_op op_mod (pv 1) pe_int) (fun _ _ => rfl))) (pe_op (r := rMul2 K) op_mul2 pe_int (pv 1))) pe_int)) (pss_one (ps_ret (pe_op op_mod (pe_op (r := rMul2 K) op_mul2 (pe_op op_mod (pe_op (r := rMul2 K) op_mul2 (pv 2) (pv 2)) pe_int) pe_int) pe_int)))), ?_⟩
  walk_at "yhead"; walk_at "y"
  refine ⟨sz4 (by simp), fun D nD => ?_⟩
  have sH2 := same_upd (H := H) (o := .lst [.int 1000000007, .int 998244353, .int 2147483629, .int 1000000009]) nD
  have eD := upd_same (H := H) (a := D) (o := .lst [.int 1000000007, .int 998244353, .int 2147483629, .int 1000000009])
  generalize upd H D (.lst [.int 1000000007, .int 998244353, .int 2147483629, .int 1000000009]) = H2 at sH2 eD ⊢
  walk_at "y"
  refine rI_i (show (0 : Int) < 4 by decide) ?_
  have m0 := Int.emod_nonneg k (show (4 : Int) ≠ 0 by decide)
  have m1 := Int.emod_lt_of_pos k (show (0 : Int) < 4 by decide)
  rcases (show k % 4 = 0 ∨ k % 4 = 1 ∨ k % 4 = 2 ∨ k % 4 = 3 by omega) with e | e | e | e <;> rw [e]
  · refine rGet_l (n := 0) (SqL.of eD) rfl ?_
    refine rI_i (show (0 : Int) < 1000000007 by decide) ?_
    walk_at "y"
    refine rMul2_i (.inl ⟨by decide, by decide⟩) ?_
    walk_at "y"
    have q1 := Int.emod_nonneg c (show (1000000007 : Int) ≠ 0 by decide)
    have q2 := Int.emod_lt_of_pos c (show (0 : Int) < 1000000007 by decide)
    generalize he : c % 1000000007 + 7919 * k + 13 = e
    have b1 : 0 ≤ e ∧ e < 100000000000000 := by omega
    refine rMul2_i (.inl ⟨by omega, by omega⟩) ?_
    walk_at "y"
    refine rI_i (show (0 : Int) < 2147483647 by decide) ?_
    walk_at "y"
    have q3 := Int.emod_nonneg (e * e) (show (2147483647 : Int) ≠ 0 by decide)
    have q4 := Int.emod_lt_of_pos (e * e) (show (0 : Int) < 2147483647 by decide)
    refine rMul2_i (.inl ⟨by omega, by omega⟩) ?_
    walk_at "y"
    refine rI_i (show (0 : Int) < 2147483647 by decide) ?_
    exact q _ _ (Int.emod_nonneg _ (by decide)) (Int.emod_lt_of_pos _ (by decide)) sH2
  · refine rGet_l (n := 1) (SqL.of eD) rfl ?_
    refine rI_i (show (0 : Int) < 998244353 by decide) ?_
    walk_at "y"
    refine rMul2_i (.inl ⟨by decide, by decide⟩) ?_
    walk_at "y"
    have q1 := Int.emod_nonneg c (show (998244353 : Int) ≠ 0 by decide)
    have q2 := Int.emod_lt_of_pos c (show (0 : Int) < 998244353 by decide)
    generalize he : c % 998244353 + 7919 * k + 13 = e
    have b1 : 0 ≤ e ∧ e < 100000000000000 := by omega
    refine rMul2_i (.inl ⟨by omega, by omega⟩) ?_
    walk_at "y"
    refine rI_i (show (0 : Int) < 2147483647 by decide) ?_
    walk_at "y"
    have q3 := Int.emod_nonneg (e * e) (show (2147483647 : Int) ≠ 0 by decide)
    have q4 := Int.emod_lt_of_pos (e * e) (show (0 : Int) < 2147483647 by decide)
    refine rMul2_i (.inl ⟨by omega, by omega⟩) ?_
    walk_at "y"
    refine rI_i (show (0 : Int) < 2147483647 by decide) ?_
    exact q _ _ (Int.emod_nonneg _ (by decide)) (Int.emod_lt_of_pos _ (by decide)) sH2
  · refine rGet_l (n := 2) (SqL.of eD) rfl ?_
    refine rI_i (show (0 : Int) < 2147483629 by decide) ?_
    walk_at "y"
    refine rMul2_i (.inl ⟨by decide, by decide⟩) ?_
    walk_at "y"
    have q1 := Int.emod_nonneg c (show (2147483629 : Int) ≠ 0 by decide)
    have q2 := Int.emod_lt_of_pos c (show (0 : Int) < 2147483629 by decide)
    generalize he : c % 2147483629 + 7919 * k + 13 = e
    have b1 : 0 ≤ e ∧ e < 100000000000000 := by omega
    refine rMul2_i (.inl ⟨by omega, by omega⟩) ?_
    walk_at "y"
    refine rI_i (show (0 : Int) < 2147483647 by decide) ?_
    walk_at "y"
    have q3 := Int.emod_nonneg (e * e) (show (2147483647 : Int) ≠ 0 by decide)
    have q4 := Int.emod_lt_of_pos (e * e) (show (0 : Int) < 2147483647 by decide)
    refine rMul2_i (.inl ⟨by omega, by omega⟩) ?_
    walk_at "y"
    refine rI_i (show (0 : Int) < 2147483647 by decide) ?_
    exact q _ _ (Int.emod_nonneg _ (by decide)) (Int.emod_lt_of_pos _ (by decide)) sH2
  · refine rGet_l (n := 3) (SqL.of eD) rfl ?_
    refine rI_i (show (0 : Int) < 1000000009 by decide) ?_
    walk_at "y"
    refine rMul2_i (.inl ⟨by decide, by decide⟩) ?_
    walk_at "y"
    have q1 := Int.emod_nonneg c (show (1000000009 : Int) ≠ 0 by decide)
    have q2 := Int.emod_lt_of_pos c (show (0 : Int) < 1000000009 by decide)
    generalize he : c % 1000000009 + 7919 * k + 13 = e
    have b1 : 0 ≤ e ∧ e < 100000000000000 := by omega
    refine rMul2_i (.inl ⟨by omega, by omega⟩) ?_
    walk_at "y"
    refine rI_i (show (0 : Int) < 2147483647 by decide) ?_
    walk_at "y"
    have q3 := Int.emod_nonneg (e * e) (show (2147483647 : Int) ≠ 0 by decide)
    have q4 := Int.emod_lt_of_pos (e * e) (show (0 : Int) < 2147483647 by decide)
    refine rMul2_i (.inl ⟨by omega, by omega⟩) ?_
    walk_at "y"
    refine rI_i (show (0 : Int) < 2147483647 by decide) ?_
    exact q _ _ (Int.emod_nonneg _ (by decide)) (Int.emod_lt_of_pos _ (by decide)) sH2
/-- the law's state -/
def stK (L c t : Int) : List (Key × V) := [(Sum.inr "left", .int L), (Sum.inr "cell", .int c), (Sum.inr "turns", .int t)]
def spDraw : Sp := sp2 fun x y H Q _ => ∃ (c k : Int), x = .int c ∧ y = .int k ∧ 0 ≤ k ∧ k < 1000000 ∧ ∀ p L H', 0 ≤ L → H p = none → Same H H' → H' p = some (.dK (stK L c (1000 * k))) → Q (.ref p) H'
theorem sc__law_draw : FnScope ["_law_cell", "_law_n"] ["_law_cell", "_law_n"] (defScope (top 41)) := ⟨rfl, rfl, rfl, by decide +kernel, rfl, by decide +kernel, by decide +kernel⟩
theorem c__law_draw (T : Sy K mg) : Cal gd P w K mg base CX0 1 "_law_draw" spDraw := by
  refine T.cal (F_law_draw T) sc__law_draw sp2_len (fun cdv f A outer s H vs Q E z h => ?_) (fun _ _ _ _ _ _ us hl => match us, hl with | [_, _], _ => rfl)
  have hu1 := hu_1 z; have hu2 := hu_2 z; have hu3 := hu_3 z
  obtain ⟨x0, x1, rfl, h⟩ := h
  obtain ⟨c, k, rfl, rfl, k0, k1, q⟩ := h
  refine ⟨_, (pss_one (ps_ret (pe_disp (pps_cons pe_str (pe_ifExp (pt_cmpR op_ge (pv 0) (pe_op op_pow pe_int pe_int) (nomark _)) (pv 0) pe_int) (pps_cons pe_str (pv 0) (pps_cons pe_str (pe_op (r := rMul2 K) op_mul2 pe_int (pv 1)) pps_nil))) (by rfl) (by rfl) (fun z => by cases z) (by decide)))), ?_⟩
  walk_at "yhead"; walk_at "y"
  intro p hp
  refine tPairs_c ?_
  walk_at "y"
  refine rI_i ⟨by decide, by decide, by decide⟩ ?_
  walk_at "y"
  have fin : ∀ L : Int, 0 ≤ L → tPairs [(tC (.str "cell"), tVar 0), (tC (.str "turns"), tOp (rMul2 K) (tC (.int 1000)) (tVar 1))] [some (.int c), some (.int k)] (upd H p (.dK [])) fun ps H2 => H2 p = some (.dK []) ∧ ∃ kvs : List (Key × V), (V.str "left", V.int L) :: ps = kvs.map (fun kv => (kV kv.1, kv.2)) ∧ kvs.length ≤ 15 ∧ Q (.ref p) (upd H2 p (.dK (mergeK [] kvs))) := fun L hL => by
    refine tPairs_c ?_
    walk_at "y"
    refine tPairs_c ?_
    walk_at "y"
    refine rMul2_i (.inl ⟨by decide, by decide⟩) ?_
    refine tPairs_n ?_
    refine ⟨upd_same, stK L c (1000 * k), rfl, by show 3 ≤ 15; decide, ?_⟩
    rw [show mergeK [] (stK L c (1000 * k)) = stK L c (1000 * k) by kernel_rfl, upd_upd]
    exact q p L _ hL hp (same_upd hp) upd_same
  by_cases hc : (10 : Int) ^ (18 : Int).toNat ≤ c
  · walk_at "y"
    exact fin c (Int.le_trans (by decide) hc)
  · walk_at "y"
    exact fin 0 (Int.le_refl _)
def spDigit : Sp := sp2 fun sv zv H Q _ => ∃ p L c t z, sv = .ref p ∧ zv = .int z ∧ H p = some (.dK (stK L c t)) ∧ 0 ≤ L ∧ 0 ≤ t ∧ t < 100000000 ∧ 1 ≤ z ∧ z ≤ 40 ∧
  ∀ d L' t' H', 0 ≤ d → d < z → 0 ≤ L' → t ≤ t' → t' ≤ t + 4 → (∀ b o, H b = some o → b ≠ p → H' b = some o) → H' p = some (.dK (stK L' c t')) → Q (.int d) H'
theorem sc__law_digit : FnScope ["_law_state", "_law_size", "_law_j", "_law_found"] ["_law_state", "_law_size"] (defScope (top 42)) := ⟨rfl, rfl, rfl, by decide +kernel, rfl, by decide +kernel, by decide +kernel⟩
theorem c__law_digit (T : Sy K mg) : Cal gd P w K mg base CX0 2 "_law_digit" spDigit := by
  refine T.cal (F_law_digit T) sc__law_digit sp2_len (fun cdv f A outer s H vs Q E z h => ?_) (fun _ _ _ _ _ _ us hl => match us, hl with | [_, _], _ => rfl)
  have hu1 := hu_1 z; have hu2 := hu_2 z; have hu3 := hu_3 z
  obtain ⟨x0, x1, rfl, h⟩ := h
  obtain ⟨p, L, c, t, n, rfl, rfl, hp, L0, t0, t1, n0, n1, q⟩ := h
  refine ⟨_, (pss_cons (ps_if (pt_cmpR (r := rEq2 K) (op_eq2 hu1) (pe_ix (r := rGet K) (ix_get hu3) (pv 0) pe_str (fun _ _ => rfl)) pe_int (nomark _)) (pss_one (ps_for PassesOwn.never (by rfl) (pi_range1 (by rfl) (T.free "range") (pa_cons pe_int pa_nil)) (pg_name (i := 2) sc__law_digit.nd rfl (by first | exact Or.inl rfl | exact Or.inr rfl)) (pss_cons (ps_dput hu3 (pv 0) pe_str (pe_op (r := rAdd2 K) op_add2 (pe_ix (r := rGet K) (ix_get hu3) (pv 0) pe_str (fun _ _ => rfl)) pe_int) rfl) (pss_one (ps_dput hu3 (pv 0) pe_str (pe_op (r := rAdd2 K) op_add2 (pe_op (r := rMul2 K) op_mul2 (pe_ix (r := rGet K) (ix_get hu3) (pv 0) pe_str (fun _ _ => rfl)) pe_int) (pe_c (c__law_mixed T) z (pa_cons (pe_ix (r := rGet K) (ix_get hu3) (pv 0) pe_str (fun _ _ => rfl)) (pa_cons (pe_ix (r := rGet K) (ix_get hu3) (pv 0) pe_str (fun _ _ => rfl)) pa_nil)))) rfl))))) pss_nil) (pss_cons (ps_set (i := 3) sc__law_digit.nd rfl (by first | exact Or.inl rfl | exact Or.inr rfl) (pe_op op_mod (pe_ix (r := rGet K) (ix_get hu3) (pv 0) pe_str (fun _ _ => rfl)) (pv 1))) (pss_cons (ps_dput hu3 (pv 0) pe_str (pe_op op_fdiv (pe_ix (r := rGet K) (ix_get hu3) (pv 0) pe_str (fun _ _ => rfl)) (pv 1)) rfl) (pss_one (ps_ret (pv 3)))))), ?_⟩
  walk_at "yhead"; walk_at "y"
  refine rGet_d (k := Sum.inr "left") (v := .int L) hp (by kernel_rfl) ?_
  walk_at "y"
  -- what follows the refill
  have fin : ∀ (L' t' : Int) (H' : Hp) (j f : Option V), 0 ≤ L' → t ≤ t' → t' ≤ t + 4 → (∀ b o, H b = some o → b ≠ p → H' b = some o) → H' p = some (.dK (stK L' c t')) →
      tSeq (tAsg (tOp (rI (fun _ j => 0 < j) fun i j => .int (i % j)) (tOp (rGet K) (tVar 0) (tC (.str "left"))) (tVar 1)) (gName 3)) (tSeq (sDPut (tVar 0) (tC (.str "left")) (tOp (rI CDiv fun i j => .int (i / j)) (tOp (rGet K) (tVar 0) (tC (.str "left"))) (tVar 1))) (tRet (tVar 3))) { nx := fun _ H' => Q .non H', rt := Q } [some (.ref p), some (.int n), j, f] H' := fun L' t' H' j f h1 h2 h3 off hp' => by
    walk_at "y"
    refine rGet_d (k := Sum.inr "left") (v := .int L') hp' (by kernel_rfl) ?_
    walk_at "y"
    refine rI_i (show (0 : Int) < n by omega) ?_
    walk_at "y"
    refine rGet_d (k := Sum.inr "left") (v := .int L') hp' (by kernel_rfl) ?_
    walk_at "y"
    refine rI_i ⟨by omega, by omega⟩ ?_
    walk_at "y"
    refine dputU_i (kvs' := stK (L' / n) c t') hp' (k := Sum.inr "left") rfl (Nat.lt_of_lt_of_le (show 3 < 17 by decide) (sz4 (n := 17))) (by kernel_rfl) fun H2 k2 u2 => ?_
    walk_at "y"
    exact q _ _ _ H2 (Int.emod_nonneg _ (by omega)) (Int.emod_lt_of_pos _ (by omega)) (Int.ediv_nonneg h1 (by omega)) h2 h3 (fun b o e nb => (u2 b nb).trans (off b o e nb)) k2
  by_cases hL : L = 0
  · walk_at "y"
    refine for_r1 ?_
    walk_at "y"
    refine ⟨4, rfl, by decide, by decide, for_it walk_range (Pv := fun i σ H' => ∃ L' j, σ = [some (.ref p), some (.int n), j, none] ∧ 0 ≤ L' ∧ (∀ b o, H b = some o → b ≠ p → H' b = some o) ∧ H' p = some (.dK (stK L' c (t + (i : Nat))))) ⟨L, none, rfl, L0, fun b o e _ => e, by simpa using hp⟩ (fun _ _ _ _ _ => trivial) (fun i x σ H2 H3 hi hp y => ?_) fun σ H' hp => ?_⟩
    · obtain ⟨L', j, rfl, h0, off, hp2⟩ := hp
      obtain ⟨rfl, rfl⟩ := y
      have i4 : i < 4 := hi
      walk_at "y"
      refine rGet_d (k := Sum.inr "turns") (v := .int (t + (i : Nat))) hp2 (by kernel_rfl) ?_
      walk_at "y"
      refine dputU_i (kvs' := stK L' c (t + (i : Nat) + 1)) hp2 (k := Sum.inr "turns") rfl (Nat.lt_of_lt_of_le (show 3 < 17 by decide) (sz4 (n := 17))) (by kernel_rfl) fun H3 k3 u3 => ?_
      walk_at "y"
      refine rGet_d (k := Sum.inr "left") (v := .int L') k3 (by kernel_rfl) ?_
      walk_at "y"
      refine rMul2_i (.inr ⟨by decide, by decide⟩) ?_
      walk_at "y"
      refine rGet_d (k := Sum.inr "cell") (v := .int c) k3 (by kernel_rfl) ?_
      walk_at "y"
      refine rGet_d (k := Sum.inr "turns") (v := .int (t + (i : Nat) + 1)) k3 (by kernel_rfl) ?_
      refine ⟨_, _, rfl, c, _, rfl, rfl, by omega, by omega, fun r H4 r0 r1 s4 => ?_⟩
      walk_at "y"
      have k4 := s4 _ _ k3
      refine dputU_i (kvs' := stK (L' * 2147483647 + r) c (t + (i : Nat) + 1)) k4 (k := Sum.inr "left") rfl (Nat.lt_of_lt_of_le (show 3 < 17 by decide) (sz4 (n := 17))) (by kernel_rfl) fun H5 k5 u5 => ?_
      walk_at "y"
      refine ⟨L' * 2147483647 + r, _, rfl, by omega, fun b o e nb => (u5 b nb).trans (s4 _ _ ((u3 b nb).trans (off b o e nb))), ?_⟩
      rw [k5, show t + ((i + 1 : Nat) : Int) = t + (i : Nat) + 1 by omega]
    · obtain ⟨L', j, rfl, h0, off, hp2⟩ := hp
      exact fin L' _ H' j none h0 (by omega) (by omega) off hp2
  · refine iteDF hL ?_
    exact fin L t H none none L0 (by omega) (by omega) (fun b o e _ => e) hp
end

end L75
namespace L75
open PySem PySem.Spec PyProof.Rows L2
variable {gd : Bool}
local macro_rules | `(tactic| walk_at "y1") => `(tactic| with_reducible first
  | refine tSeq_i ?_ | refine tAsg_i ?_ | refine tCons_i ?_ | refine tNil_i ?_ | refine tC_i ?_ | refine tOp_i ?_ | refine tIfS_i ?_ | refine tTest_i ?_ | refine exBl_i ?_ | refine tRet_i ?_ | refine tCall_i ?_
  | refine tCB_i ?_ | refine tLst_i ?_ | refine tTup_i ?_ | refine rI0_i ?_ | refine tDrop_i ?_ | refine tNext_i ?_ | refine tB_i ?_ | refine tAnd_i ?_ | refine tOr_i ?_ | refine tNot_i ?_ | refine tAndV_i ?_ | refine tOrV_i ?_ | refine tNotV_i ?_
  | refine tIf_i ?_ | refine tUn_i ?_ | refine tDGet_i ?_ | refine sDPut_i ?_ | refine tFld_i ?_ | refine tRetN_i ?_ | refine tBreak_i ?_ | refine tCont_i ?_ | refine rU_i ?_)
local macro_rules | `(tactic| walk_at "yhead") => `(tactic| dsimp only [L2.start, List.map, List.length_cons, List.length_nil, Nat.reduceAdd, Nat.reduceSub, List.replicate, List.cons_append, List.nil_append])
local macro_rules | `(tactic| walk_at "y2") => `(tactic| first
  | walk_at "y1"
  | ((with_reducible refine tVar_i (v := ?v) ?h ?q); (case h => rfl))
  | ((with_reducible refine gName_i ?_); (dsimp only [List.set]))
  | ((with_reducible refine rEq_i ?h ?q); (case h => rfl)) | ((with_reducible refine rNe_i ?h ?q); (case h => rfl)))
local macro_rules | `(tactic| walk_at "y") => `(tactic| repeat walk_at "y2")

/-! a lambda whose one parameter has a whole number as its default, handed to a def -/
open LamX
structure LamD (N : List Str) (sc scope : Scope) : Prop where
  kind : scope.kind = .function
  co : scope.isCoroutine = false
  gen : scope.isGenerator = false
  own : ∀ y ∈ scope.names, y.2 ≠ .cell
  loc : ∀ y ∈ N, scope.names.lookup y ≠ some .local
  free : ∀ y ∈ scope.names, y.2 = .free → sc.names.lookup y.1 = some .cell ∨ sc.names.lookup y.1 = some .free
theorem LamD.has {X : Cx} {scope : Scope} (L : LamD X.N X.env.scope scope) (ok : X.Ok) : ∀ y ∈ scope.names, y.2 = .free → ∃ c, X.env.cells.lookup y.1 = some c := fun y hy e => (L.free y hy e).elim (fun k => ok.has _ (.inl k)) fun k => ok.has _ (.inr k)
section
variable {X : Cx} {pins : List (Addr × Obj)} {σ : L2.St} {H : Hp} {s : Shared}
abbrev lamOb (X : Cx) (params : Arguments) (body : Expr) (scope : Scope) (t : Addr) (doc pm : Value) (c' : Addr) (ctv : Value) : Obj := PySem.W.kdv_obj "<lambda>" (X.env.qual ++ "<lambda>") params (.expr body) scope (cloFrom X.env.cells scope.names []) (.ref t) doc pm c' ctv
theorem lam_makeD {T : List (Addr × Str)} {c P : Addr} {params : Arguments} {body : Expr} {scope : Scope} {pos : Pos} {E : Value → Shared → Prop} {Q : Value → Shared → Prop} {i : Int} {j : Nat} {p1 : Pos} (I : Inv X pins σ H s) (TB : TabB X.base X.mg c P) (hcode : X.env.code = .ref c)
    (hm : (P, X.env.qual ++ "<lambda>") ∈ T) (hu : ∀ p ∈ T, p.1 = P → p.2 = X.env.qual ++ "<lambda>") (hT : Tabs T H) (hd : params.defaults = [.Constant (.int i) j p1]) (hk0 : params.kw_defaults = []) (hfree : ∀ y ∈ scope.names, y.2 = .free → ∃ c, X.env.cells.lookup y.1 = some c)
    (h : ∀ (f c' t : Addr) (tk0 : Tok) (doc pm ctv : Value) (H1 : Hp) (s' : Shared), Inv X pins σ H1 s' → ExtN H H1 → Tabs T H1 → s'.heap.get? f = some (lamOb X params body scope t doc pm c' ctv) → s'.heap.get? t = some (PySem.W.kdv_tup [.int i tk0]) →
      H1 f = none → H1 t = none → f ∉ frs X.stack → t ∉ frs X.stack → H1 c' = some (CodeO c' (X.env.qual ++ "<lambda>")) → Q (.ref f) s') :
    wpAny (model X.prog X.w) X.A (eval (.Lambda params body scope pos) X.env) Q E s := by
  refine PySem.W.kdv_lam (by rw [hd]; rfl) hk0 ?_
  rw [hd]
  refine PySem.W.kdv_all1 (wpAny_Constant_int (PySem.W.kdv_all0 ?_))
  rw [makeFunction_eq]
  simp only [List.zip_nil_right, List.filterMap_nil, List.isEmpty_nil, List.isEmpty_cons, if_true, pure_bind, Bool.false_eq_true, if_false]
  refine wpAny_bind (wpAny_newTextTuple ?_)
  generalize hdv : ([Value.int i _] : List Value) = dv
  obtain ⟨tk0, hdv⟩ : ∃ tk0, dv = [Value.int i tk0] := ⟨_, hdv.symm⟩
  have I0 : Inv X pins σ H { s with heap := s.heap.push { cls := .type "tuple", data := .seq dv.toArray }, toks := s.toks + 1 } := I.kept (t' := s.toks + 1) fun b o e => Heap.get?_push_of_some _ e
  have tE : (s.heap.push { cls := .type "tuple", data := .seq dv.toArray }).get? s.heap.objs.size = some (PySem.W.kdv_tup [.int i tk0]) := by rw [← hdv]; exact Heap.get?_push_size _ rfl
  have nt : H s.heap.objs.size = none := I.hok.fresh (Nat.le_refl _)
  have nofr : ∀ f, s.heap.objs.size ≤ f → f ∉ frs X.stack := fun f hf z => by
    rcases List.mem_cons.mp (I.stkSub _ z) with e | e
    · have h1 := I.lt
      rw [← e] at h1
      exact Nat.lt_irrefl _ (Nat.lt_of_lt_of_le h1 hf)
    · exact I.nofs hf e
  have ltt := Heap.lt_size tE
  generalize s.heap.objs.size = t at tE nt nofr ltt
  generalize hs0 : ({ s with heap := s.heap.push { cls := .type "tuple", data := .seq dv.toArray }, toks := s.toks + 1 } : Shared) = s0 at I0
  have es0 : s.heap.push { cls := .type "tuple", data := .seq dv.toArray } = s0.heap := by rw [← hs0]
  rw [es0] at tE ltt
  obtain ⟨ps, hP, ht, ha⟩ := hT _ hm
  have bP : s0.heap.BuiltinsAt X.mg P := TB.bm.keeps I0.bk
  have hP' : s0.heap.get? P = some { cls := .none, data := .fields ps } := I0.hok P _ hP
  have tP : t ≠ P := fun z => by rw [z, hP] at nt; cases nt
  cases hc : codeAmong pos ps.toList with
  | none =>
    refine PySem.W.kdv_makeTail (mg := X.mg) (c := c) (P := P) (ps := ps) (closure_ok hfree) I0.ok.glob (I0.mod.glob.keeps I0.bk) hcode (TB.code.keeps I0.bk) hP' ht hc TB.gP bP fun c' ctv doc h' tk hx hge hlt hrec htb => ?_
    obtain ⟨c2, oc, vs, tt, e2, hoc, hd2, hv⟩ := hrec
    cases e2
    have hsz : s0.heap.objs.size ≤ h'.objs.size := Nat.le_trans hge (Nat.le_of_lt hlt)
    have nC : H c' = none := I0.hok.fresh hge
    have I1 := inv_table (t' := tk) (more := #[rawInt pos.line, rawInt pos.col, .ref c']) (h' := h'.push (lamOb X params body scope t doc ((X.mg "__name__").getD .none) c' ctv)) I0 hP
      (fun b o hb e => Heap.get?_push_of_some _ (hx b o hb e)) (Heap.get?_push_of_some _ htb) hge ⟨oc, vs, tt, Heap.get?_push_of_some _ hoc, hd2, hv⟩
    have hE : ExtN H (upd (upd H P (.tbl (ps ++ #[rawInt pos.line, rawInt pos.col, .ref c']))) c' (CodeO c' (X.env.qual ++ "<lambda>"))) := fun b o e n => by
      rw [upd_ne (ne_of_none e nC), upd_ne (fun z => n ps (Option.some.inj (e.symm.trans (by rw [z]; exact hP))))]
      exact e
    have eL : (ps ++ #[rawInt pos.line, rawInt pos.col, .ref c']).toList = ps.toList ++ [rawInt pos.line, rawInt pos.col, .ref c'] := by simp
    have tc : t ≠ c' := Nat.ne_of_lt (Nat.lt_of_lt_of_le ltt hge)
    have kept : ∀ p ∈ T, TabS (upd (upd H P (.tbl (ps ++ #[rawInt pos.line, rawInt pos.col, .ref c']))) c' (CodeO c' (X.env.qual ++ "<lambda>"))) p.1 p.2 := fun p hp => by
      by_cases hb : p.1 = P
      · rw [hu p hp hb, hb]
        refine ⟨_, by rw [upd_ne (ne_of_none hP nC), upd_same], by rw [eL]; exact PySem.TriplesOk_snoc _ _ _ _ ht, fun p' cv hcv => ?_⟩
        rw [eL] at hcv
        rcases among_app _ ht hcv with z | z
        · obtain ⟨c0, e1, e2⟩ := ha p' cv z
          exact ⟨c0, e1, hE _ _ e2 codeO_ne⟩
        · exact ⟨c', z, upd_same⟩
      · obtain ⟨ps', a1, a2, a3⟩ := hT p hp
        refine ⟨ps', by rw [upd_ne (ne_of_none a1 nC), upd_ne hb]; exact a1, a2, fun p' cv hcv => ?_⟩
        obtain ⟨c0, e1, e2⟩ := a3 p' cv hcv
        exact ⟨c0, e1, hE _ _ e2 codeO_ne⟩
    refine h h'.objs.size c' t tk0 doc ((X.mg "__name__").getD .none) ctv _ _ I1 hE kept (Heap.get?_push_size _ rfl) (Heap.get?_push_of_some _ (hx _ _ tP tE)) ?_ (by rw [upd_ne tc, upd_ne tP]; exact nt) (nofr _ (Nat.le_of_lt (Nat.lt_of_lt_of_le ltt hsz))) (nofr _ (Nat.le_refl _)) upd_same
    have n1 : h'.objs.size ≠ c' := Nat.ne_of_gt hlt
    have n2 : h'.objs.size ≠ P := Nat.ne_of_gt (Nat.lt_of_lt_of_le (Heap.lt_size hP') hsz)
    rw [upd_ne n1, upd_ne n2]
    exact I0.hok.fresh hsz
  | some cv =>
    obtain ⟨c', e, hco⟩ := ha pos cv hc
    subst e
    refine PySem.W.kdv_makeTailHit (mg := X.mg) (c := c) (P := P) (ps := ps) (closure_ok hfree) I0.ok.glob (I0.mod.glob.keeps I0.bk) hcode (TB.code.keeps I0.bk) hP' ht hc bP fun ctv doc h' tk hx hsz => ?_
    have I1 : Inv X pins σ H { s0 with heap := h'.push (lamOb X params body scope t doc ((X.mg "__name__").getD .none) c' ctv), toks := tk } := I0.kept fun b o e => Heap.get?_push_of_some _ (hx b o e)
    exact h h'.objs.size c' t tk0 doc ((X.mg "__name__").getD .none) ctv H _ I1 (ExtN.refl H) hT (Heap.get?_push_size _ rfl) (Heap.get?_push_of_some _ (hx _ _ tE)) (I0.hok.fresh hsz) nt (nofr _ (Nat.le_of_lt (Nat.lt_of_lt_of_le ltt hsz))) (nofr _ (Nat.le_refl _)) hco
end
section
variable {X : Cx} {pins : List (Addr × Obj)} {σ : L2.St} {H HZ : Hp} {s s1 : Shared}
theorem lam_startD {A : Around} {outer : List Env} {E : XK} {scope : Scope} {f c' : Addr} {h₁ : Heap} {tk : Nat} {binds : List (Str × Value)} (I : Inv X pins σ H s) (L : LamD X.N X.env.scope scope) (e0 : Env0 X.prog X.w X.K X.mg X.base A outer s1 HZ) (hd : A.handled = none)
    (un : Un (frs X.stack) [] H HZ s.heap s1.heap) (hns : h₁.Ns s1.heap.objs.size fun y => binds.reverse.lookup y) (kp : ∀ b o, s1.heap.get? b = some o → h₁.get? b = some o) :
    Inv (lamCx X A outer s1 HZ E scope f c') [] σ HZ { s1 with heap := h₁, toks := tk } := by
  have hfree := L.has I.ok
  have cm : ∀ {y c}, (cloFrom X.env.cells scope.names []).lookup y = some c → X.env.cells.lookup y = some c := fun {y c} e => by
    rcases cloFrom_mem (PySem.mem_of_lookup e) with hm | ⟨h1, h2⟩
    · cases hm
    · obtain ⟨c1, hc⟩ := hfree _ h1 rfl
      have hc : X.env.cells.lookup y = some c1 := hc
      have e2 : c = c1 := by
        rw [h2, hc] <;> rfl
      rw [e2]
      exact hc
  have look : ∀ {y}, scope.names.lookup y = some .free → ∃ c, (cloFrom X.env.cells scope.names []).lookup y = some c := fun {y} hl => by
    have hy : (y, NameKind.free) ∈ scope.names := PySem.mem_of_lookup hl
    exact mem_lookup (cloFrom_has (cells := X.env.cells) (acc := []) hy)
  have cellK : ∀ {c : Addr} {v : Option Value}, H c = none → s.heap.IsCell c v → h₁.IsCell c v := fun {c v} n ⟨o, ho, hd⟩ => by
    obtain ⟨sl, q⟩ := un.any ho n (by simp)
    exact ⟨_, kp _ _ q, hd⟩
  have noA : ∀ b : Addr, b ∉ (lamCx X A outer s1 HZ E scope f c').ex := fun b z => absurd (show b ∈ ([] : List Addr) from z) (by simp)
  refine ⟨⟨e0.mod, L.kind, rfl, rfl, Nat.le_refl _, fun y z c e1 e2 => I.ok.inj y z c (cm e1) (cm e2), fun y hy => ?_, fun y c z _ => ?_, fun _ => hd, Around.frames_deeper e0.frames, .inr ⟨rfl, rfl⟩, fun b z => absurd z (noA b), e0.bs, e0.bsz, fun b _ _ => noA b,
      fun b z => absurd z (noA b), e0.funs, e0.frf⟩,
    rfl, e0.bare, Un.kept kp, ⟨_, hns, fun i y v e1 e2 e3 => ?_⟩, fun y c e => ?_, e0.hok.fresh (Nat.le_refl _), fun y c e => ?_, fun q hq => absurd (show q ∈ ([] : List (Addr × Obj)) ++ [] from hq) (by simp), e0.hok.kept kp, I.len⟩
  · have hy : scope.names.lookup y = some .cell ∨ scope.names.lookup y = some .free := hy
    rcases hy with hy | hy
    · exact absurd rfl (L.own _ (PySem.mem_of_lookup hy))
    · exact look hy
  · have z : false = true := z
    cases z
  · have e3 : Vis scope y := e3
    rcases e3 with k | k | k
    · exact absurd k (L.loc y (List.mem_of_getElem? e1))
    · exact absurd rfl (L.own _ (PySem.mem_of_lookup k))
    · obtain ⟨m, hn, hl⟩ := I.loc
      have hvis : Vis X.env.scope y := (L.free _ (PySem.mem_of_lookup k) rfl).elim (fun k => .inr (.inl k)) (fun k => .inr (.inr k))
      obtain ⟨w', r, q⟩ := hl i y v e1 e2 hvis
      obtain ⟨c2, h2⟩ := look k
      refine ⟨w', r, .inr ⟨.inr k, c2, h2, ?_⟩⟩
      have c1 := cm h2
      rcases q with ⟨k', _⟩ | ⟨_, c3, e', z⟩
      · have k' : X.env.scope.names.lookup y = some .local := k'
        rcases L.free _ (PySem.mem_of_lookup k) rfl with k2 | k2 <;> rw [show X.env.scope.names.lookup y = _ from k2] at k' <;> cases k'
      · rw [c1] at e'
        cases e'
        exact cellK (I.freeC y _ c1) z
  · obtain ⟨w', z⟩ := I.cell y c (cm e)
    exact ⟨w', cellK (I.freeC y c (cm e)) z⟩
  · obtain ⟨v, o, ho, hd⟩ := I.cell y c (cm e)
    exact un.free c o ho (I.freeC y c (cm e)) (by simp)
/-- x(), in the def that got the lambda; what is raised is wished for at the caller's slots -/
theorem pe_actG {CXg : CXT} {Eg : XK} {Ng : List Str} {qg : Str} {sg : Scope} {g f c' : Addr} {binds : List (Str × Value)} {cdg dV doc pm ctv : Value} {params : Arguments} {body : Expr} {scope : Scope} {k i : Nat} {a : Str} {pn : List (Addr × Obj)} {xe : Value → Shared → Prop} {W : WX} {tb : XK → TE} {p1 p2 : Pos}
    (I : Inv X pins σ H s) (L : LamD X.N X.env.scope scope) (hf : s.heap.get? f = some (PySem.W.kdv_obj "<lambda>" (X.env.qual ++ "<lambda>") params (.expr body) scope (cloFrom X.env.cells scope.names []) dV doc pm c' ctv)) (hfn : H f = none) (hfr : f ∉ frs X.stack)
    (hbt : ∀ s1 : Shared, (∀ b o, s.heap.get? b = some o → H b = none → b ∉ frs X.stack → s1.heap.get? b = some o) → BindsTo s1 (PySem.W.kdv_fn "<lambda>" (X.env.qual ++ "<lambda>") params (.expr body) scope (cloFrom X.env.cells scope.names []) dV doc pm (.ref c') ctv) ⟨[], []⟩ binds) (hlb : ∀ y ∈ binds, scope.names.lookup y.1 = some .local)
    (tk : Takes ((cxOf CXg X.prog X.w X.K X.mg X.base Ng qg sg g cdg X.A X.stack s H Eg).tr pn xe) W) (hr : Room (k + 1) (X.A.deeper (envOfC qg sg s.heap.objs.size g cdg)))
    (hbody : ∀ (A : Around) (outer : List Env) (s : Shared) (H : Hp) (E : XK), Room k (A.deeper (lamEnv X scope s.heap.objs.size f c')) → PE (lamCx X A outer s H E scope f c') body (tb E))
    (hN : Ng[i]? = some a) (hv : Vis sg a) (hd : (a == ("__debug__" : Str)) = false := by decide) (hcd : (a == ("__classdict__" : Str)) = false := by decide) :
    PE ((cxOf CXg X.prog X.w X.K X.mg X.base Ng qg sg g cdg X.A X.stack s H Eg).tr pn xe) (.Call (.Name a p1) [] [] p2)
      (fun σZ HZ Q => σZ[i]? = some (some (.ref f)) ∧ HZ c' = some (CodeO c' (X.env.qual ++ "<lambda>")) ∧ tb (WE W σZ) σ HZ Q) := by
  refine ⟨fun pinsZ sZ σZ HZ Q IZ h => ?_⟩
  obtain ⟨hs, hc, ht⟩ := h
  refine wpAny_Call_Name_kw (thn ((pe_var (pos := p1) (i := i) hN hv hd hcd).run pinsZ sZ σZ HZ (fun v H1 => v = .ref f ∧ H1 = HZ) IZ ⟨.ref f, hs, rfl, rfl⟩) fun u s1 ⟨v, H1, I1, r1, q1⟩ => ?_)
  obtain ⟨ev, eH⟩ := q1
  subst ev
  rw [eH] at I1
  obtain rfl : u = Value.ref f := r1
  have kept : ∀ b o, s.heap.get? b = some o → H b = none → b ∉ frs X.stack → s1.heap.get? b = some o := fun b o e n nf => I1.base.keep b _ e n nf (fun z => nomatch (show b ∈ ([] : List Addr) from z))
  have of1 := kept f _ hf hfn hfr
  refine PySem.W.callWith_F0 ⟨_, _, _, _, of1⟩ ?_
  have un : Un (frs X.stack) [] H HZ s.heap s1.heap := I1.base
  obtain ⟨⟨oc, vs, tt, hoc, hdc, hvc⟩, _, _⟩ := I1.hok c' _ hc
  have rc : codeAny (model X.prog X.w) (X.A.deeper (envOfC qg sg s.heap.objs.size g cdg)) (.call (.ref f) ⟨[], []⟩) (CR (L2.CX X.prog X.w) (envOfC qg sg s.heap.objs.size g cdg :: X.stack) X.prog X.w HZ s1 Q (WE W σZ)) s1 := by
    refine PySem.W.kla_callFunE hr.depth of1 rfl L.co L.gen rfl ⟨c', oc, vs, tt, rfl, hoc, hdc, hvc⟩ ?_
    refine hbt s1 kept _ _ _ _ (wpAny_newFunctionEnv (fun y hy => L.own y hy) (fun y hy => hlb y hy) (fun h₁ hns hsb => ⟨I1.nolimit.fresh _ hsb, ?_⟩) L.kind)
    show codeAny _ _ (.expr body (lamEnv X scope s1.heap.objs.size f c')) _ _
    have kp : ∀ b o, s1.heap.get? b = some o → h₁.get? b = some o := fun b o e => hsb.extBut b o (Nat.ne_of_lt (Heap.lt_size e)) (Heap.get?_push_of_some _ e)
    have J : Inv (lamCx X (X.A.deeper (envOfC qg sg s.heap.objs.size g cdg)) (envOfC qg sg s.heap.objs.size g cdg :: X.stack) s1 HZ (WE W σZ) scope f c') [] σ HZ { s1 with heap := h₁, toks := s1.toks + binds.length } :=
      lam_startD I L I1.env0 hr.hd un hns kp
    refine PySem.W.kla_codeExpr (wpAny_mono ((hbody _ _ s1 HZ _ (hr.deeper _)).run [] _ _ HZ Q J ht) (fun v s' hq => ?_) fun e s' hq => hq)
    obtain ⟨w', H', J', rv, q⟩ := hq
    exact ⟨w', H', J'.os, J'.bare, J'.base, J'.hok, rv, q⟩
  refine wpAny_call (codeAny_mono rc fun r s' hq => ?_)
  cases r with
  | error e => exact passAt tk σZ pinsZ HZ s1 e s' I1 hq
  | ok fl =>
    cases fl with
    | ret u => exact I1.after hq
    | next => exact False.elim hq
    | brk => exact False.elim hq
    | cont => exact False.elim hq
end
/-- the def that calls what it got; TT: what it makes of the lambda's reading -/
def GivesW (X : Cx) (Ng : List Str) (x : Str) (sg : Scope) (g : Addr) (cdg : Value) (bg : List Stmt) (a : Str) (q : Str) (TT : (XK → Hp → VK → Prop) → Hp → VK → Prop) : Prop :=
  ∀ (f c' : Addr) (s : Shared) (H : Hp) (Q : VK) (tl : XK → Hp → VK → Prop),
    (∀ (W : WX) (pn : List (Addr × Obj)) (xe : Value → Shared → Prop) (p1 p2 : Pos), Takes ((cxOf C8.CX0 X.prog X.w X.K X.mg X.base Ng x sg g cdg X.A X.stack s H C8.E0).tr pn xe) W →
      PE ((cxOf C8.CX0 X.prog X.w X.K X.mg X.base Ng x sg g cdg X.A X.stack s H C8.E0).tr pn xe) (.Call (.Name a p1) [] [] p2) (fun σZ HZ Q => σZ[0]? = some (some (.ref f)) ∧ HZ c' = some (CodeO c' q) ∧ tl (WE W σZ) HZ Q)) →
    H c' = some (CodeO c' q) → TT tl H Q →
    ∃ t, PSs (cxOf C8.CX0 X.prog X.w X.K X.mg X.base Ng x sg g cdg X.A X.stack s H C8.E0).nox bg t ∧ t { nx := fun _ H' => Q .non H', rt := Q } (L2.start Ng [.ref f]) H
section
variable {X : Cx}
/-- what is asked of x, the def that is given the lambda -/
structure Giver (X : Cx) (x a : Str) (q : Str) (TT : (XK → Hp → VK → Prop) → Hp → VK → Prop) : Prop where
  ex : ∃ (g : Addr) (pg : Arguments) (bg : List Stmt) (sg : Scope) (dV kV doc pm cdv ct oc : Value) (an od : Option Addr) (osl : Array (Option Value)) (Ng : List Str), X.mg x = some (.ref g) ∧ PySem.W.keepIn X.K (.ref g) = true ∧
    X.K.lookup g = some ⟨oc, od, .func (PySem.W.fnOf x x pg bg sg dV kV doc pm an cdv ct), osl⟩ ∧ PySem.W.codeIn X.K cdv x = true ∧ L2.Binds X.K (PySem.W.fnOf x x pg bg sg dV kV doc pm an cdv ct) [a] [] ∧ FnScope Ng [a] sg ∧ Ng[0]? = some a ∧ Vis sg a ∧ GivesW X Ng x sg g cdv bg a q TT
/-- x(lambda: body) -/
theorem pe_lam0 {T : List (Addr × Str)} {TT : (XK → Hp → VK → Prop) → Hp → VK → Prop} {x a : Str} {c P : Addr} {k : Nat} {params : Arguments} {body : Expr} {scope : Scope} {t : XK → TE} {p lpos pos : Pos} (G : Giver X x a (X.env.qual ++ "<lambda>") TT)
    (TB : TabB X.base X.mg c P) (hcode : X.env.code = .ref c) (hmT : (P, X.env.qual ++ "<lambda>") ∈ T) (hu : ∀ p ∈ T, p.1 = P → p.2 = X.env.qual ++ "<lambda>") (hr : Room (k + 2) X.A) (L : LamD X.N X.env.scope scope)
    (hbody : ∀ (A : Around) (outer : List Env) (s : Shared) (H : Hp) (E : XK) (f c' : Addr), Room k (A.deeper (lamEnv X scope s.heap.objs.size f c')) → PE (lamCx X A outer s H E scope f c') body (t E))
    (hg : Gl X x := by rfl) (hdef : defaultsOf params X.env = ([], []) := by rfl)
    (hbind : ∀ (q : Str) (cl : List (Str × Addr)) (pm cv ctv : Value), bindArgs (PySem.W.kdv_fn "<lambda>" q params (.expr body) scope cl .none .none pm cv ctv) ⟨[], []⟩ = pure [] := by intros; rfl)
    (hdb : (x == ("__debug__" : Str)) = false := by decide) (hd : (a == ("__debug__" : Str)) = false := by decide) (hcd : (a == ("__classdict__" : Str)) = false := by decide) :
    PE X (.Call (.Name x p) [.Lambda params body scope lpos] [] pos) (tLam T TT t) := by
  obtain ⟨g, pg, bg, sg, dV, kV, doc, pm, cdv, ct, oc, an, od, osl, Ng, hm, hk, lk, hcg, hb, Sg, hNg, hva, hG⟩ := G.ex
  refine ⟨fun pins s σ H Q I h => ?_⟩
  obtain ⟨hT, h⟩ := h
  refine wpAny_Call_Name_kw (ld_glob I hg hm ?_ hdb)
  refine PySem.W.callWith_K (h₀ := X.base) I.ok.mod.kin hk ?_ (by rfl) (by rfl)
  show wpAny _ _ (spliced ((false, eval (.Lambda params body scope lpos) X.env) :: backTo pos (starEach [] X.env))) _ _ s
  refine Calls.spliced_cons (lam_make2 I TB hcode hmT hu hT hdef (L.has I.ok) fun f c' pm' ctv H1 s' I1 eN T1 hf hfn hfr hco => ?_)
  refine Calls.spliced_nil ⟨I1.kIn, ?_⟩
  have rc : codeAny (model X.prog X.w) X.A (.call (.ref g) ⟨[.ref f], []⟩) (CR C8.CX0 X.stack X.prog X.w H1 s' Q C8.E0) s' := by
    refine run_ofS (N := Ng) (ps := [a]) (us := [.ref f]) (vs := [.ref f]) lk hcg Sg hr I1.env0 (hb s' [.ref f] I1.kIn rfl) (.cons rfl .nil) rfl fun hr' => ?_
    obtain ⟨t', ht', hq'⟩ := hG f c' s' H1 Q (fun E H' Q' => t E σ H' Q') (fun W pn xe p1 p2 tk => pe_actG (i := 0) (binds := []) I1 L hf hfn hfr (fun s1 _ => .of_eq (hbind _ _ _ _ _)) (fun y hy => nomatch hy) tk hr' (fun A outer s H E hr2 => hbody A outer s H E f c' hr2) hNg hva hd hcd) hco (h H1 eN T1)
    exact ⟨t', ht'.nox, hq'⟩
  refine wpAny_call (codeAny_mono rc fun r s2 hq => ?_)
  cases r with
  | error e => exact (show False from hq).elim
  | ok fl =>
    cases fl with
    | ret u => exact I1.after hq
    | next => exact False.elim hq
    | brk => exact False.elim hq
    | cont => exact False.elim hq
/-- x(lambda a0 = i0: body) -/
theorem pe_lamD {T : List (Addr × Str)} {TT : (XK → Hp → VK → Prop) → Hp → VK → Prop} {x a : Str} {c P : Addr} {k : Nat} {params : Arguments} {body : Expr} {scope : Scope} {t : XK → TE} {p lpos pos : Pos} {i0 : Int} {j0 : Nat} {q1 : Pos} {a0 : Str} (G : Giver X x a (X.env.qual ++ "<lambda>") TT)
    (TB : TabB X.base X.mg c P) (hcode : X.env.code = .ref c) (hmT : (P, X.env.qual ++ "<lambda>") ∈ T) (hu : ∀ p ∈ T, p.1 = P → p.2 = X.env.qual ++ "<lambda>") (hr : Room (k + 2) X.A) (L : LamD X.N X.env.scope scope)
    (hbody : ∀ (A : Around) (outer : List Env) (s : Shared) (H : Hp) (E : XK) (f c' : Addr), Room k (A.deeper (lamEnv X scope s.heap.objs.size f c')) → PE (lamCx X A outer s H E scope f c') body (t E))
    (hl0 : scope.names.lookup a0 = some .local) (hbind : ∀ (q : Str) (cl : List (Str × Addr)) (t : Addr) (doc pm cv ctv : Value), ∃ k, bindArgs (PySem.W.kdv_fn "<lambda>" q params (.expr body) scope cl (.ref t) doc pm cv ctv) ⟨[], []⟩ = seqItems? (.ref t) >>= k ∧ ∀ u, k (some #[u]) = pure [(a0, u)])
    (hg : Gl X x := by rfl) (hdef : params.defaults = [.Constant (.int i0) j0 q1] := by rfl) (hk0 : params.kw_defaults = [] := by rfl)
    (hdb : (x == ("__debug__" : Str)) = false := by decide) (hd : (a == ("__debug__" : Str)) = false := by decide) (hcd : (a == ("__classdict__" : Str)) = false := by decide) :
    PE X (.Call (.Name x p) [.Lambda params body scope lpos] [] pos) (tLam T TT t) := by
  obtain ⟨g, pg, bg, sg, dV, kV, doc, pm, cdv, ct, oc, an, od, osl, Ng, hm, hk, lk, hcg, hb, Sg, hNg, hva, hG⟩ := G.ex
  refine ⟨fun pins s σ H Q I h => ?_⟩
  obtain ⟨hT, h⟩ := h
  refine wpAny_Call_Name_kw (ld_glob I hg hm ?_ hdb)
  refine PySem.W.callWith_K (h₀ := X.base) I.ok.mod.kin hk ?_ (by rfl) (by rfl)
  show wpAny _ _ (spliced ((false, eval (.Lambda params body scope lpos) X.env) :: backTo pos (starEach [] X.env))) _ _ s
  refine Calls.spliced_cons (lam_makeD I TB hcode hmT hu hT hdef hk0 (L.has I.ok) fun f c' t0 tk0 doc' pm' ctv H1 s' I1 eN T1 hf hf2 hfn htn hfr htr hco => ?_)
  refine Calls.spliced_nil ⟨I1.kIn, ?_⟩
  have rc : codeAny (model X.prog X.w) X.A (.call (.ref g) ⟨[.ref f], []⟩) (CR C8.CX0 X.stack X.prog X.w H1 s' Q C8.E0) s' := by
    refine run_ofS (N := Ng) (ps := [a]) (us := [.ref f]) (vs := [.ref f]) lk hcg Sg hr I1.env0 (hb s' [.ref f] I1.kIn rfl) (.cons rfl .nil) rfl fun hr' => ?_
    obtain ⟨t', ht', hq'⟩ := hG f c' s' H1 Q (fun E H' Q' => t E σ H' Q') (fun W pn xe p1 p2 tk => pe_actG (i := 0) (binds := [(a0, .int i0 tk0)]) I1 L hf hfn hfr (fun s1 kept => by
        obtain ⟨kb, hb1, hb2⟩ := hbind (X.env.qual ++ "<lambda>") (cloFrom X.env.cells scope.names []) t0 doc' pm' (.ref c') ctv
        exact BindsTo.of_defaults rfl (kept t0 _ hf2 htn htr) rfl hb1 (hb2 _)) (fun y hy => by
        have : y = (a0, .int i0 tk0) := by simpa using hy
        rw [this]
        exact hl0) tk hr' (fun A outer s H E hr2 => hbody A outer s H E f c' hr2) hNg hva hd hcd) hco (h H1 eN T1)
    exact ⟨t', ht'.nox, hq'⟩
  refine wpAny_call (codeAny_mono rc fun r s2 hq => ?_)
  cases r with
  | error e => exact (show False from hq).elim
  | ok fl =>
    cases fl with
    | ret u => exact I1.after hq
    | next => exact False.elim hq
    | brk => exact False.elim hq
    | cont => exact False.elim hq
end

end L75
namespace L75
open PySem PySem.Spec PyProof.Rows L2
variable {gd : Bool}
local macro_rules | `(tactic| walk_at "y1") => `(tactic| with_reducible first
  | refine tSeq_i ?_ | refine tAsg_i ?_ | refine tCons_i ?_ | refine tNil_i ?_ | refine tC_i ?_ | refine tOp_i ?_ | refine tIfS_i ?_ | refine tTest_i ?_ | refine exBl_i ?_ | refine tRet_i ?_ | refine tCall_i ?_
  | refine tCB_i ?_ | refine tLst_i ?_ | refine tTup_i ?_ | refine rI0_i ?_ | refine tDrop_i ?_ | refine tNext_i ?_ | refine tB_i ?_ | refine tAnd_i ?_ | refine tOr_i ?_ | refine tNot_i ?_ | refine tAndV_i ?_ | refine tOrV_i ?_ | refine tNotV_i ?_
  | refine tIf_i ?_ | refine tUn_i ?_ | refine tDGet_i ?_ | refine sDPut_i ?_ | refine tFld_i ?_ | refine tRetN_i ?_ | refine tBreak_i ?_ | refine tCont_i ?_ | refine rU_i ?_)
local macro_rules | `(tactic| walk_at "yhead") => `(tactic| dsimp only [L2.start, List.map, List.length_cons, List.length_nil, Nat.reduceAdd, Nat.reduceSub, List.replicate, List.cons_append, List.nil_append])
local macro_rules | `(tactic| walk_at "y2") => `(tactic| first
  | walk_at "y1"
  | ((with_reducible refine tVar_i (v := ?v) ?h ?q); (case h => rfl))
  | ((with_reducible refine gName_i ?_); (dsimp only [List.set]))
  | ((with_reducible refine rEq_i ?h ?q); (case h => rfl)) | ((with_reducible refine rNe_i ?h ?q); (case h => rfl)))
local macro_rules | `(tactic| walk_at "y") => `(tactic| repeat walk_at "y2")

section
variable {X : Cx} {K : PySem.W.Frag}
/-- repr of data, or of an empty dict -/
def rRepr4 (K : PySem.W.Frag) : List V → Hp → VK → Prop := fun xs H Q => rRepr K xs H Q ∨ ∃ a, xs = [.ref a] ∧ H a = some (.dK []) ∧ Q (.str "{}") H
theorem call_repr0 {k : Nat} (z : RG true k X.A) : CallR X (.builtin "repr") (fun xs H Q => ∃ a, xs = [.ref a] ∧ H a = some (.dK []) ∧ Q (.str "{}") H) := by
  intro pins s σ H xs us Q I rx h
  obtain ⟨a, rfl, ha, q⟩ := h
  obtain ⟨u, rfl, ru⟩ := Vals.one rx
  cases (show u = Value.ref a from ru)
  obtain ⟨hz, hs, vs, r, o, es, ep, h1, h2, h3, h4, h5, h6⟩ := dk_of I.hok ha
  cases r
  have e5 : es.toList = [] := by
    generalize es.toList = l at h5
    cases h5
    rfl
  have rd : Reads s.heap (.ref a) (.dict []) (a :: [] ++ []) := .dict h1 h2.1 h3 (by rw [e5]; exact .nil) (by rw [e5]; exact .nil)
  have h2' := z.r.un
  refine repr_of_reads' rd (by simp [PyData.showable, PyData.showableKv]) (fun _ => ?_) (z.g rfl) (by simp only [PyData.depth, PyData.depthKv]; omega) (fun b o e => e) (fun h' t tk hk => ⟨.str "{}", H, I.kept hk, ⟨t, ?_⟩, q⟩) ?_
  · intro m
    have : sysModules = a := by simpa using m
    subst this
    simp at hs
  · rw [show PyData.shown (.dict []) = ("{}" : Str) by rfl]
  · rw [show PyData.shown (.dict []) = ("{}" : Str) by rfl]
    exact sz4 (by decide)
theorem call_repr4 {k : Nat} (z : RG true k X.A) : CallR X (.builtin "repr") (rRepr4 X.K) := (call_repr z).or (call_repr0 z)
/-- isinstance of a kept exception -/
def rIsKO (K : PySem.W.Frag) : List V → Hp → VK → Prop := fun xs H Q => ∃ (a dd D : Addr) (c : Str) (fs : List (Str × V)) (b : Bool), xs = [.ref a, .ref D] ∧ H a = some (exk a (He.ga K c) dd) ∧ H dd = some (.xd fs) ∧ XfC K (He.ga K c) ∧ IsC K c ∧ PySem.W.kitOne K (.ref (He.ga K c)) (.ref D) = some b ∧ Q (.bl b) H
theorem call_isKO : CallR X (.builtin "isinstance") (rIsKO X.K) := by
  intro pins s σ H xs us Q I r h
  obtain ⟨a, dd, D, c, fs, b, rfl, ha, hdd, T, i, e, q⟩ := h
  obtain ⟨u1, u2, rfl, r1, r2⟩ := Vals.two r
  cases (show u1 = Value.ref a from r1)
  cases (show u2 = Value.ref D from r2)
  obtain ⟨oe, vs, e1, e2, e3, e4⟩ := exk_at I.hok ha
  obtain ⟨mA, hns, hr⟩ := (show ObjOk X.prog X.w H s.heap dd (.xd fs) from I.hok dd _ hdd)
  obtain ⟨od, ho, hl⟩ := lookIn_ns hns
  have J : PySem.W.InstAt s.heap a oe (He.ga X.K c) (some od) := ⟨e1, e2, by unfold PySem.W.notCls; rw [e4] <;> rfl, by rw [e3]; exact ho⟩
  exact PySem.W.kia_one (PySem.W.kitx_exc (He.ba i.hk).1 T.ga T.gg T.exC i.ha i.hn i.ht i.hm) I.kIn J e (fun z => nomatch z) fun tk => ⟨.bl b, H, I.kept (t' := tk) fun _ _ z => z, rfl, q⟩
def RepT (K : PySem.W.Frag) (H : Hp) (v : V) (txt : Str) : Prop := ∀ H2, Same H H2 → ∀ Q' : VK, Q' (.str txt) H2 → rRepr4 K [v] H2 Q'
end

end L75
namespace L75
open PySem PySem.Spec PyProof.Rows L2
variable {gd : Bool}
local macro_rules | `(tactic| walk_at "y1") => `(tactic| with_reducible first
  | refine tSeq_i ?_ | refine tAsg_i ?_ | refine tCons_i ?_ | refine tNil_i ?_ | refine tC_i ?_ | refine tOp_i ?_ | refine tIfS_i ?_ | refine tTest_i ?_ | refine exBl_i ?_ | refine tRet_i ?_ | refine tCall_i ?_
  | refine tCB_i ?_ | refine tLst_i ?_ | refine tTup_i ?_ | refine rI0_i ?_ | refine tDrop_i ?_ | refine tNext_i ?_ | refine tB_i ?_ | refine tAnd_i ?_ | refine tOr_i ?_ | refine tNot_i ?_ | refine tAndV_i ?_ | refine tOrV_i ?_ | refine tNotV_i ?_
  | refine tYes_i ?_ | refine tTM_i ?_ | refine tPar_i ?_ | refine tSl_i ?_ | refine tNoPart_i ?_ | refine tPart_i ?_ | refine part_i ?_ | refine tMake_i ?_ | refine tProp_i ?_ | refine tCallOG_i ?_ | refine tVeI_i ?_ | refine tOst_i ?_ | refine tMkO_i ?_ | refine sFld_i ?_ | refine fldaug_i ?_ | refine gCons_i ?_ | refine gNil_i ?_ | refine tChain_i ?_ | refine tBM_i ?_ | refine rAdd2_i ?_ | refine rLe2_i ?_ | refine rEq2_i ?_ | refine rEq2_ss ?_ | refine rNe2_i ?_ | refine rNe2_ss ?_ | refine rIsN_i ?_ | refine rNotN_i ?_ | refine tTup_i2 ?_ | refine tIf_i ?_ | refine tUn_i ?_ | refine tDGet_i ?_ | refine sDPut_i ?_ | refine tFld_i ?_ | refine tRetN_i ?_ | refine tBreak_i ?_ | refine tCont_i ?_ | refine rU_i ?_)
local macro_rules | `(tactic| walk_at "yhead") => `(tactic| dsimp only [L2.start, List.map, List.length_cons, List.length_nil, Nat.reduceAdd, Nat.reduceSub, List.replicate, List.cons_append, List.nil_append])
local macro_rules | `(tactic| walk_at "y2") => `(tactic| first
  | walk_at "y1"
  | ((with_reducible refine tVar_i (v := ?v) ?h ?q); (case h => rfl))
  | ((with_reducible refine gName_i ?_); (dsimp only [L2.wipe, List.set]))
  | with_reducible refine iteT ?_ | with_reducible refine iteF ?_ | with_reducible refine iteNT ?_ | with_reducible refine iteNF ?_
  | ((with_reducible refine iteDT ?h ?q); (case h => first | decide +kernel | omega | assumption | exact nv1 | exact nv2 | exact nv3 | exact nv4)) | ((with_reducible refine iteDF ?h ?q); (case h => first | decide +kernel | omega | assumption | exact nv1 | exact nv2 | exact nv3 | exact nv4))
  | ((with_reducible refine iteNDT ?h ?q); (case h => first | decide +kernel | omega | assumption | exact nv1 | exact nv2 | exact nv3 | exact nv4)) | ((with_reducible refine iteNDF ?h ?q); (case h => first | decide +kernel | omega | assumption | exact nv1 | exact nv2 | exact nv3 | exact nv4))
  | ((with_reducible refine rIsi2_1 (T := ?T) (b := true) ?ty ?h ?q); (case ty => first | exact ty_str | exact ty_int | exact ty_bl | exact ty_non); (case h => decide +kernel))
  | ((with_reducible refine rIsi2_1 (T := ?T) (b := false) ?ty ?h ?q); (case ty => first | exact ty_str | exact ty_int | exact ty_bl | exact ty_non); (case h => decide +kernel))
  | ((with_reducible refine rEq2_s ?h ?q); (case h => rfl)) | ((with_reducible refine rNe2_s ?h ?q); (case h => rfl))
  | ((with_reducible refine rEq_i ?h ?q); (case h => rfl)) | ((with_reducible refine rNe_i ?h ?q); (case h => rfl)))
local macro_rules | `(tactic| walk_at "y") => `(tactic| repeat walk_at "y2")

section
/-- what _law_word makes of what is raised -/
def wordE (K : PySem.W.Frag) (Q : VK) : XK := fun cls d H' => cls = .ref (He.ga K "BadLog") ∧ ∃ dd v, d = some dd ∧ H' dd = some (.xd [("index", v)]) ∧ ∀ D H3, H' D = none → Same H' H3 → H3 D = some (.lst [v]) → Q (.ref D) H3
def TTw (K : PySem.W.Frag) : (XK → Hp → VK → Prop) → Hp → VK → Prop := fun tl H Q => ∀ E Q', (∀ cls d H', wordE K Q cls d H' → E cls d H') → (∀ v H', Q (.str "nothing") H' → Q' v H') → tl E H Q'
theorem sc__law_word : FnScope ["_law_deed", "_law_caught", "error"] ["_law_deed"] (defScope (top 50)) := ⟨rfl, rfl, rfl, by decide +kernel, rfl, by decide +kernel, by decide +kernel⟩
theorem giver_word {X : Cx} (T : Sy X.K X.mg) {n : Nat} (z : RG true (n + 1) X.A) (q : Str) : Giver X "_law_word" "_law_deed" q (TTw X.K) := by
  obtain ⟨fd, F⟩ := F_law_word T
  obtain ⟨oc, od, dV, kV, doc, pm, an, cdv, ct, osl, rfl, lk, hcd, hD, hKV⟩ := id F.ex
  refine ⟨_, _, _, _, dV, kV, doc, pm, cdv, ct, oc, an, od, osl, _, T.glo "_law_word", F.kp, lk, hcd, F.bindsN (fun _ _ _ _ _ _ us hl => match us, hl with | [_], _ => rfl), sc__law_word, rfl, .inl rfl, ?_⟩
  intro f c' s H Q tl act hc h
  refine ⟨_, (pss_cons (ps_set (i := 1) sc__law_word.nd rfl (by first | exact Or.inl rfl | exact Or.inr rfl) pe_non) (pss_cons (ps_try_keep (i := 2) (j := 1) rfl rfl rfl sc__law_word.nd rfl rfl rfl rfl ⟨rfl, by decide, .inl (T.glo "ModelError")⟩ (fun W pn xe tk _ => pss_one (ps_expr (act W pn xe _ _ tk)))) (pss_cons (ps_if (pt_cmpR (r := rIsN) op_isN (pv 1) pe_non (nomark _)) (pss_one (ps_ret pe_str)) pss_nil) (pss_one (ps_ret (pe_ifExp (pt_val (pe_callB (r := rIsKO X.K) call_isKO (by rfl) (T.free "isinstance") (by decide +kernel) (pa_cons (pv 1) (pa_cons (pe_gl (T.glo "BadLog")) pa_nil)))) (pe_lst (pa_cons (pe_xk (K := X.K) rfl (pv 1)) pa_nil)) pe_str)))))), ?_⟩
  walk_at "yhead"; walk_at "y"
  refine ⟨rfl, hc, h _ _ (fun cls d H' hw => ?_) fun v H' hq => ?_⟩
  · have xf := T.xF
    obtain ⟨rfl, dd, v, rfl, hd, q4⟩ := hw
    refine ⟨_, dd, rfl, rfl, xf.ml, fun a ha => ?_⟩
    have sA := same_upd (o := exk a (He.ga X.K "BadLog") dd) ha
    have eA := upd_same (H := H') (a := a) (o := exk a (He.ga X.K "BadLog") dd)
    generalize upd H' a (exk a (He.ga X.K "BadLog") dd) = H2 at sA eA ⊢
    walk_at "y"
    refine ⟨a, dd, _, "BadLog", _, true, rfl, eA, sA _ _ hd, xf.xl, xf.cl, kit_self, ?_⟩
    walk_at "y"
    refine tXk_i ?_
    walk_at "y"
    refine ⟨a, _, dd, _, v, rfl, eA, xf.xl, xf.bl.n, sA _ _ hd, by kernel_rfl, ?_⟩
    walk_at "y"
    refine ⟨sz4 (by simp), fun D1 nD1 => ?_⟩
    have sH3 := same_upd (H := H2) (o := .lst [v]) nD1
    have eD1 := upd_same (H := H2) (a := D1) (o := .lst [v])
    generalize upd H2 D1 (.lst [v]) = H3 at sH3 eD1 ⊢
    exact q4 D1 H3 (sA.free nD1) (sA.trans sH3) eD1
  · walk_at "y"
    exact hq
end

end L75
namespace L75
open PySem PySem.Spec PyProof.Rows L2
variable {gd : Bool}
local macro_rules | `(tactic| walk_at "y1") => `(tactic| with_reducible first
  | refine tSeq_i ?_ | refine tAsg_i ?_ | refine tCons_i ?_ | refine tNil_i ?_ | refine tC_i ?_ | refine tOp_i ?_ | refine tIfS_i ?_ | refine tTest_i ?_ | refine exBl_i ?_ | refine tRet_i ?_ | refine tCall_i ?_
  | refine tCB_i ?_ | refine tLst_i ?_ | refine tTup_i ?_ | refine rI0_i ?_ | refine tDrop_i ?_ | refine tNext_i ?_ | refine tB_i ?_ | refine tAnd_i ?_ | refine tOr_i ?_ | refine tNot_i ?_ | refine tAndV_i ?_ | refine tOrV_i ?_ | refine tNotV_i ?_
  | refine tIf_i ?_ | refine tUn_i ?_ | refine tDGet_i ?_ | refine sDPut_i ?_ | refine tFld_i ?_ | refine tRetN_i ?_ | refine tBreak_i ?_ | refine tCont_i ?_ | refine rU_i ?_)
local macro_rules | `(tactic| walk_at "yhead") => `(tactic| dsimp only [L2.start, List.map, List.length_cons, List.length_nil, Nat.reduceAdd, Nat.reduceSub, List.replicate, List.cons_append, List.nil_append])
local macro_rules | `(tactic| walk_at "y2") => `(tactic| first
  | walk_at "y1"
  | ((with_reducible refine tVar_i (v := ?v) ?h ?q); (case h => rfl))
  | ((with_reducible refine gName_i ?_); (dsimp only [List.set]))
  | ((with_reducible refine rEq_i ?h ?q); (case h => rfl)) | ((with_reducible refine rNe_i ?h ?q); (case h => rfl)))
local macro_rules | `(tactic| walk_at "y") => `(tactic| repeat walk_at "y2")

open LamX
section
/-- the body's promise, told of the def's own code object -/
theorem FnG.bodyC {P : Program} {w : World} {K : PySem.W.Frag} {mg : Str → Option Value} {base : Heap} {x qual : Str} {params : Arguments} {body : List Stmt} {scope : Scope} {dvs : List V} {kws : List (Str × V)} {at_ : He.Defn} {fd : FuncData}
    {CX : CXT} {N ps : List Str} {n : Nat} {sp : Sp} (F : FunD K x qual params body scope dvs kws (He.fAd K at_) fd) (S : FnScope N ps scope) (len : ∀ vs H Q E, sp vs H Q E → vs.length = ps.length)
    (hb : ∀ (cdv : Value) (A : Around) (out : List Env) (st : Shared) (H : Hp) (vs : List V) (Q : VK) (E : XK), cdv = .ref (He.cT K at_).1 → RG gd n (A.deeper (envOfC qual scope st.heap.objs.size (He.fAd K at_) cdv)) → sp vs H Q E →
      ∃ t, PSs (cxOf CX P w K mg base N qual scope (He.fAd K at_) cdv A out st H E) body t ∧ t { nx := fun _ H' => Q .non H', rt := Q } (start N vs) H) : FnG gd P w K mg base CX (n + 1) (He.fAd K at_) fd ps sp := by
  obtain ⟨oc, od, dV, kV, doc, pm, an, cdv, ct, osl, rfl, lk, hcd, _, _⟩ := F.ex
  obtain ⟨c, rfl⟩ := He.codeIn_ref hcd
  have ec : He.codeOf K at_ = c := He.codeOf_eq lk rfl
  refine ⟨len, fun A out st H ag us vs Q E z e0 bd rv q0 => ?_⟩
  have nl := len _ _ _ _ q0
  have KX : K.In st.heap := e0.mod.kin.keeps fun b o e => (e0.bs b o e).1
  have lim : st.heap.NoLimit := e0.mod.nolimit.keeps fun b o e => (e0.bs b o e).1
  have kd : ∀ y ∈ ps.zip us, scope.names.lookup y.1 = some .local ∨ (scope.names.lookup y.1 = some .cell ∧ ((cellsFrom (st.heap.objs.size + 1) scope.names []).lookup y.1).isSome = true) := fun ⟨a, v⟩ hy =>
    (S.par a (List.of_mem_zip hy).1).elim .inl fun q => .inr ⟨q, PySem.W.cellsFrom_some _ _ _ (.inl q)⟩
  refine codeAny_call_function z.r.depth (KX _ _ lk) rfl S.co S.gen rfl (PySem.W.codeRec_of KX hcd) (bd _ _ _ _ ?_)
  refine wpAny_newFunctionEnv_cells S.kind kd fun en he st1 ic => ?_
  subst he
  refine ⟨lim.keeps ic.toInCall.keep, codeAny_func ?_⟩
  obtain ⟨t, ht, hq⟩ := hb (.ref c) A out st H vs Q E (by rw [← ec]; rfl) (z.dpr _) q0
  have I := inv_start (CX := CX) (E := E) S z.r.hd e0 nl rv ic
  refine wpAny_mono (ht.run [] st1 (start N vs) H _ I hq) (fun fl sz hs => ?_) fun _ _ hs => hs
  cases fl with
  | ret u =>
    obtain ⟨v, σ', H', J, r2, q⟩ := hs
    exact ⟨v, H', J.os, J.bare, J.base, J.hok, r2, q⟩
  | next =>
    obtain ⟨σ', H', J, q⟩ := hs
    exact ⟨V.non, H', J.os, J.bare, J.base, J.hok, rfl, q⟩
  | brk => exact (let ⟨_, _, _, q⟩ := hs; False.elim q)
  | cont => exact (let ⟨_, _, _, q⟩ := hs; False.elim q)
def lamDB (N : List Str) (sc scope : Scope) : Bool :=
  decide (scope.kind = .function) && (!scope.isCoroutine && (!scope.isGenerator && ((scope.names.all fun y => !decide (y.2 = .cell) && (!decide (y.2 = .free) || (decide (sc.names.lookup y.1 = some .cell) || decide (sc.names.lookup y.1 = some .free)))) && N.all fun y => !decide (scope.names.lookup y = some .local))))
theorem lamD_by {N : List Str} {sc scope : Scope} (h : lamDB N sc scope = true) : LamD N sc scope := by
  unfold lamDB at h
  simp only [Bool.and_eq_true, Bool.or_eq_true, Bool.not_eq_true', decide_eq_true_eq, decide_eq_false_iff_not, List.all_eq_true] at h
  obtain ⟨h1, h2, h3, h4, h5⟩ := h
  refine ⟨h1, h2, h3, fun y hy => (h4 y hy).1, fun y hy => h5 y hy, fun y hy e => ?_⟩
  rcases (h4 y hy).2 with z | z
  · exact absurd e z
  · exact z
end

end L75
namespace L75
open PySem PySem.Spec PyProof.Rows L2
variable {gd : Bool}
local macro_rules | `(tactic| walk_at "y1") => `(tactic| with_reducible first
  | refine tSeq_i ?_ | refine tAsg_i ?_ | refine tCons_i ?_ | refine tNil_i ?_ | refine tC_i ?_ | refine tOp_i ?_ | refine tIfS_i ?_ | refine tTest_i ?_ | refine exBl_i ?_ | refine tRet_i ?_ | refine tCall_i ?_
  | refine tCB_i ?_ | refine tLst_i ?_ | refine tTup_i ?_ | refine rI0_i ?_ | refine tDrop_i ?_ | refine tNext_i ?_ | refine tB_i ?_ | refine tAnd_i ?_ | refine tOr_i ?_ | refine tNot_i ?_ | refine tAndV_i ?_ | refine tOrV_i ?_ | refine tNotV_i ?_
  | refine tIf_i ?_ | refine tUn_i ?_ | refine tDGet_i ?_ | refine sDPut_i ?_ | refine tFld_i ?_ | refine tRetN_i ?_ | refine tBreak_i ?_ | refine tCont_i ?_ | refine rU_i ?_)
local macro_rules | `(tactic| walk_at "yhead") => `(tactic| dsimp only [L2.start, List.map, List.length_cons, List.length_nil, Nat.reduceAdd, Nat.reduceSub, List.replicate, List.cons_append, List.nil_append])
local macro_rules | `(tactic| walk_at "y2") => `(tactic| first
  | walk_at "y1"
  | ((with_reducible refine tVar_i (v := ?v) ?h ?q); (case h => rfl))
  | ((with_reducible refine gName_i ?_); (dsimp only [List.set]))
  | ((with_reducible refine rEq_i ?h ?q); (case h => rfl)) | ((with_reducible refine rNe_i ?h ?q); (case h => rfl)))
local macro_rules | `(tactic| walk_at "y") => `(tactic| repeat walk_at "y2")

open LamX
section
theorem tabs_off {T : List (Addr × Str)} {H H' : Hp} {p : Addr} {kvs : List (Key × V)} (s : ∀ b o, H b = some o → b ≠ p → H' b = some o) (hp : H p = some (.dK kvs)) (t : Tabs T H) : Tabs T H' := fun q hq => by
  obtain ⟨ps, h1, h2, h3⟩ := t q hq
  refine ⟨ps, s _ _ h1 (fun z => by rw [z, hp] at h1; cases h1), h2, fun pos cv hc => ?_⟩
  obtain ⟨c, e1, e2⟩ := h3 pos cv hc
  exact ⟨c, e1, s _ _ e2 (fun z => by rw [z, hp] at e2; unfold CodeO at e2; cases e2)⟩
theorem tabs_same {T : List (Addr × Str)} {H H' : Hp} (s : Same H H') (t : Tabs T H) : Tabs T H' := t.ext s
end

end L75
namespace L75
open PySem PySem.Spec PyProof.Rows L2
variable {gd : Bool}
local macro_rules | `(tactic| walk_at "y1") => `(tactic| with_reducible first
  | refine tSeq_i ?_ | refine tAsg_i ?_ | refine tCons_i ?_ | refine tNil_i ?_ | refine tC_i ?_ | refine tOp_i ?_ | refine tIfS_i ?_ | refine tTest_i ?_ | refine exBl_i ?_ | refine tRet_i ?_ | refine tCall_i ?_
  | refine tCB_i ?_ | refine tLst_i ?_ | refine tTup_i ?_ | refine rI0_i ?_ | refine tDrop_i ?_ | refine tNext_i ?_ | refine tB_i ?_ | refine tAnd_i ?_ | refine tOr_i ?_ | refine tNot_i ?_ | refine tAndV_i ?_ | refine tOrV_i ?_ | refine tNotV_i ?_
  | refine tYes_i ?_ | refine tTM_i ?_ | refine tPar_i ?_ | refine tSl_i ?_ | refine tNoPart_i ?_ | refine tPart_i ?_ | refine part_i ?_ | refine tMake_i ?_ | refine tProp_i ?_ | refine tCallOG_i ?_ | refine tVeI_i ?_ | refine tOst_i ?_ | refine tMkO_i ?_ | refine sFld_i ?_ | refine fldaug_i ?_ | refine gCons_i ?_ | refine gNil_i ?_ | refine tChain_i ?_ | refine tBM_i ?_ | refine rAdd2_i ?_ | refine rLe2_i ?_ | refine rEq2_i ?_ | refine rEq2_ss ?_ | refine rNe2_i ?_ | refine rNe2_ss ?_ | refine rIsN_i ?_ | refine rNotN_i ?_ | refine tTup_i2 ?_ | refine tIf_i ?_ | refine tUn_i ?_ | refine tDGet_i ?_ | refine sDPut_i ?_ | refine tFld_i ?_ | refine tRetN_i ?_ | refine tBreak_i ?_ | refine tCont_i ?_ | refine rU_i ?_)
local macro_rules | `(tactic| walk_at "yhead") => `(tactic| dsimp only [L2.start, List.map, List.length_cons, List.length_nil, Nat.reduceAdd, Nat.reduceSub, List.replicate, List.cons_append, List.nil_append])
local macro_rules | `(tactic| walk_at "y2") => `(tactic| first
  | walk_at "y1"
  | ((with_reducible refine tVar_i (v := ?v) ?h ?q); (case h => rfl))
  | ((with_reducible refine gName_i ?_); (dsimp only [L2.wipe, List.set]))
  | with_reducible refine iteT ?_ | with_reducible refine iteF ?_ | with_reducible refine iteNT ?_ | with_reducible refine iteNF ?_
  | ((with_reducible refine iteDT ?h ?q); (case h => first | decide +kernel | omega | assumption | exact nv1 | exact nv2 | exact nv3 | exact nv4)) | ((with_reducible refine iteDF ?h ?q); (case h => first | decide +kernel | omega | assumption | exact nv1 | exact nv2 | exact nv3 | exact nv4))
  | ((with_reducible refine iteNDT ?h ?q); (case h => first | decide +kernel | omega | assumption | exact nv1 | exact nv2 | exact nv3 | exact nv4)) | ((with_reducible refine iteNDF ?h ?q); (case h => first | decide +kernel | omega | assumption | exact nv1 | exact nv2 | exact nv3 | exact nv4))
  | ((with_reducible refine rIsi2_1 (T := ?T) (b := true) ?ty ?h ?q); (case ty => first | exact ty_str | exact ty_int | exact ty_bl | exact ty_non); (case h => decide +kernel))
  | ((with_reducible refine rIsi2_1 (T := ?T) (b := false) ?ty ?h ?q); (case ty => first | exact ty_str | exact ty_int | exact ty_bl | exact ty_non); (case h => decide +kernel))
  | ((with_reducible refine rEq2_s ?h ?q); (case h => rfl)) | ((with_reducible refine rNe2_s ?h ?q); (case h => rfl))
  | ((with_reducible refine rEq_i ?h ?q); (case h => rfl)) | ((with_reducible refine rNe_i ?h ?q); (case h => rfl)))
local macro_rules | `(tactic| walk_at "y") => `(tactic| repeat walk_at "y2")

section
variable {P : Program} {w : World} {K : PySem.W.Frag} {mg : Str → Option Value} {base : Heap}
def lawTxtB (s : Str) : Bool := decide (s.length ≤ 40) && (!decide (10 ∈ s.cps.toList) && !decide (9 ∈ s.cps.toList))
def lawPlainB : Itm → Bool | .non => true | .bl _ => true | .int i => decide (-1000000000 ≤ i) && decide (i ≤ 1000000000) | .str s => lawTxtB s | _ => false
def spPlainL : Sp := sp1 fun x H Q _ => ∃ it : Itm, it.At H x ∧ Q (.bl (lawPlainB it)) H
theorem sc__law_is_plain : FnScope ["_law_thing"] ["_law_thing"] (defScope (top 45)) := ⟨rfl, rfl, rfl, by decide +kernel, rfl, by decide +kernel, by decide +kernel⟩
theorem c__law_is_plain (T : Sy K mg) : Cal gd P w K mg base CX0 3 "_law_is_plain" spPlainL := by
  refine T.cal (F_law_is_plain T) sc__law_is_plain sp1_len (fun cdv f A outer s H vs Q E z h => ?_) (fun _ _ _ _ _ _ us hl => match us, hl with | [_], _ => rfl)
  have hu1 := hu_1 z; have hu2 := hu_2 z; have hu3 := hu_3 z
  obtain ⟨x0, rfl, h⟩ := h
  obtain ⟨it, ha, q⟩ := h
  refine ⟨_, (pss_cons (ps_if (PW.pt (pw_or (pt_cmpR (r := rIsN) op_isN (pv 0) pe_non (nomark _)) (pw_or1 (pt_val (pe_callB (r := rIsi2 K) call_isi2 (by rfl) (T.free "isinstance") (by decide +kernel) (pa_cons (pv 0) (pa_cons (pe_bltn (v := .ty "bool") (u := .type "bool") (by rfl) (T.free "bool") (by decide +kernel) rfl) pa_nil))))))) (pss_one (ps_ret pe_bl)) pss_nil) (pss_cons (ps_if (pt_val (pe_callB (r := rIsi2 K) call_isi2 (by rfl) (T.free "isinstance") (by decide +kernel) (pa_cons (pv 0) (pa_cons (pe_bltn (v := .ty "int") (u := .type "int") (by rfl) (T.free "int") (by decide +kernel) rfl) pa_nil)))) (pss_one (ps_ret (pe_chain op_le2 op_le2 (pe_op op_sub pe_int (pe_op op_pow pe_int pe_int)) (pv 0) (pe_op op_pow pe_int pe_int)))) pss_nil) (pss_one (ps_ret (pe_and (pe_callB (r := rIsi2 K) call_isi2 (by rfl) (T.free "isinstance") (by decide +kernel) (pa_cons (pv 0) (pa_cons (pe_bltn (v := .ty "str") (u := .type "str") (by rfl) (T.free "str") (by decide +kernel) rfl) pa_nil))) (pe_and (pe_cmpR op_le2 (pe_callB (r := rLen2 K) call_len2 (by rfl) (T.free "len") (by decide +kernel) (pa_cons (pv 0) pa_nil)) pe_int (nomark _)) (pe_and (pe_cmpR (r := rNotInS) op_notInS pe_str (pv 0) rfl) (pe_one (pe_cmpR (r := rNotInS) op_notInS pe_str (pv 0) rfl))))))))), ?_⟩
  cases it with
  | int i =>
    cases (show x0 = .int i from ha)
    walk_at "yhead"; walk_at "y"
    refine rI_i ⟨by decide, by decide, by decide⟩ ?_
    walk_at "y"
    have e9 : (10 : Int) ^ (9 : Int).toNat = 1000000000 := by decide
    simp only [e9]
    have e1 : lawPlainB (.int i) = (decide (-1000000000 ≤ i) && decide (i ≤ 1000000000)) := rfl
    rw [e1] at q
    by_cases c : -1000000000 ≤ i
    · rw [decide_eq_true c, Bool.true_and] at q
      rw [decide_eq_true (show (0 : Int) - 1000000000 ≤ i by omega), if_pos rfl]
      walk_at "y"
      refine rI_i ⟨by decide, by decide, by decide⟩ ?_
      rw [e9]
      exact rLe2_i q
    · rw [decide_eq_false c, Bool.false_and] at q
      rw [decide_eq_false (show ¬ ((0 : Int) - 1000000000 ≤ i) by omega), if_neg (by decide)]
      exact q
  | bl b => cases (show x0 = .bl b from ha); walk_at "yhead"; walk_at "y"; exact q
  | non => cases (show x0 = .non from ha); walk_at "yhead"; walk_at "y"; exact q
  | str s =>
    obtain ⟨rfl, hs⟩ := ha
    walk_at "yhead"; walk_at "y"
    refine rLen2_s (sz4 hs) ?_
    refine tC_i ?_
    have e1 : lawPlainB (.str s) = (decide (s.length ≤ 40) && (!decide (10 ∈ s.cps.toList) && !decide (9 ∈ s.cps.toList))) := rfl
    rw [e1] at q
    refine rLe2_i ?_
    refine ⟨_, rfl, ?_⟩
    by_cases c : s.length ≤ 40
    · rw [decide_eq_true c, Bool.true_and] at q
      rw [decide_eq_true (show ((s.length : Nat) : Int) ≤ 40 by omega), if_pos rfl]
      walk_at "y"
      refine ⟨10, s, by decide +kernel, rfl, ?_⟩
      cases h10 : (!decide (10 ∈ s.cps.toList)) with
      | false =>
        rw [h10, Bool.false_and] at q
        walk_at "y"
        exact q
      | true =>
        rw [h10, Bool.true_and] at q
        walk_at "y"
        exact ⟨9, s, by decide +kernel, rfl, q⟩
    · rw [decide_eq_false c, Bool.false_and] at q
      rw [decide_eq_false (show ¬ (((s.length : Nat) : Int) ≤ 40) by omega), if_neg (by decide)]
      exact q
  | tu xs => obtain ⟨a, rfl, k⟩ := id ha; walk_at "yhead"; walk_at "y"; refine rIsi2_1 (b := false) (ty_tup k) (by decide +kernel) ?_; walk_at "y"; refine rIsi2_1 (b := false) (ty_tup k) (by decide +kernel) ?_; walk_at "y"; refine rIsi2_1 (b := false) (ty_tup k) (by decide +kernel) ?_; walk_at "y"; exact q
  | ls xs => obtain ⟨a, rfl, k⟩ := id ha; walk_at "yhead"; walk_at "y"; refine rIsi2_1 (b := false) (ty_lst k) (by decide +kernel) ?_; walk_at "y"; refine rIsi2_1 (b := false) (ty_lst k) (by decide +kernel) ?_; walk_at "y"; refine rIsi2_1 (b := false) (ty_lst k) (by decide +kernel) ?_; walk_at "y"; exact q
  | dc => obtain ⟨a, rfl, k⟩ := id ha; walk_at "yhead"; walk_at "y"; refine rIsi2_1 (b := false) (.base (.dK k)) (by decide +kernel) ?_; walk_at "y"; refine rIsi2_1 (b := false) (.base (.dK k)) (by decide +kernel) ?_; walk_at "y"; refine rIsi2_1 (b := false) (.base (.dK k)) (by decide +kernel) ?_; walk_at "y"; exact q
end

end L75
namespace L75
open PySem PySem.Spec PyProof.Rows L2
variable {gd : Bool}
local macro_rules | `(tactic| walk_at "y1") => `(tactic| with_reducible first
  | refine tSeq_i ?_ | refine tAsg_i ?_ | refine tCons_i ?_ | refine tNil_i ?_ | refine tC_i ?_ | refine tOp_i ?_ | refine tIfS_i ?_ | refine tTest_i ?_ | refine exBl_i ?_ | refine tRet_i ?_ | refine tCall_i ?_
  | refine tCB_i ?_ | refine tLst_i ?_ | refine tTup_i ?_ | refine rI0_i ?_ | refine tDrop_i ?_ | refine tNext_i ?_ | refine tB_i ?_ | refine tAnd_i ?_ | refine tOr_i ?_ | refine tNot_i ?_ | refine tAndV_i ?_ | refine tOrV_i ?_ | refine tNotV_i ?_
  | refine tYes_i ?_ | refine tTM_i ?_ | refine tPar_i ?_ | refine tSl_i ?_ | refine tNoPart_i ?_ | refine tPart_i ?_ | refine part_i ?_ | refine tMake_i ?_ | refine tProp_i ?_ | refine tCallOG_i ?_ | refine tVeI_i ?_ | refine tOst_i ?_ | refine tMkO_i ?_ | refine sFld_i ?_ | refine fldaug_i ?_ | refine gCons_i ?_ | refine gNil_i ?_ | refine tChain_i ?_ | refine tBM_i ?_ | refine rAdd2_i ?_ | refine rLe2_i ?_ | refine rEq2_i ?_ | refine rEq2_ss ?_ | refine rNe2_i ?_ | refine rNe2_ss ?_ | refine rIsN_i ?_ | refine rNotN_i ?_ | refine tTup_i2 ?_ | refine tIf_i ?_ | refine tUn_i ?_ | refine tDGet_i ?_ | refine sDPut_i ?_ | refine tFld_i ?_ | refine tRetN_i ?_ | refine tBreak_i ?_ | refine tCont_i ?_ | refine rU_i ?_)
local macro_rules | `(tactic| walk_at "yhead") => `(tactic| dsimp only [L2.start, List.map, List.length_cons, List.length_nil, Nat.reduceAdd, Nat.reduceSub, List.replicate, List.cons_append, List.nil_append])
local macro_rules | `(tactic| walk_at "y2") => `(tactic| first
  | walk_at "y1"
  | ((with_reducible refine tVar_i (v := ?v) ?h ?q); (case h => rfl))
  | ((with_reducible refine gName_i ?_); (dsimp only [L2.wipe, List.set]))
  | with_reducible refine iteT ?_ | with_reducible refine iteF ?_ | with_reducible refine iteNT ?_ | with_reducible refine iteNF ?_
  | ((with_reducible refine iteDT ?h ?q); (case h => first | decide +kernel | omega | assumption | exact nv1 | exact nv2 | exact nv3 | exact nv4)) | ((with_reducible refine iteDF ?h ?q); (case h => first | decide +kernel | omega | assumption | exact nv1 | exact nv2 | exact nv3 | exact nv4))
  | ((with_reducible refine iteNDT ?h ?q); (case h => first | decide +kernel | omega | assumption | exact nv1 | exact nv2 | exact nv3 | exact nv4)) | ((with_reducible refine iteNDF ?h ?q); (case h => first | decide +kernel | omega | assumption | exact nv1 | exact nv2 | exact nv3 | exact nv4))
  | ((with_reducible refine rIsi2_1 (T := ?T) (b := true) ?ty ?h ?q); (case ty => first | exact ty_str | exact ty_int | exact ty_bl | exact ty_non); (case h => decide +kernel))
  | ((with_reducible refine rIsi2_1 (T := ?T) (b := false) ?ty ?h ?q); (case ty => first | exact ty_str | exact ty_int | exact ty_bl | exact ty_non); (case h => decide +kernel))
  | ((with_reducible refine rEq2_s ?h ?q); (case h => rfl)) | ((with_reducible refine rNe2_s ?h ?q); (case h => rfl))
  | ((with_reducible refine rEq_i ?h ?q); (case h => rfl)) | ((with_reducible refine rNe_i ?h ?q); (case h => rfl)))
local macro_rules | `(tactic| walk_at "y") => `(tactic| repeat walk_at "y2")

section
variable {X : Cx}
/-- t == [] -/
def rEqL0 : R2 := fun x y H Q => ∃ a b xs, x = .ref a ∧ y = .ref b ∧ H a = some (.lst xs) ∧ H b = some (.lst []) ∧ Q (.bl (decide (xs.length = 0))) H
theorem op_eqL0 (hu : X.A.units + 1 < cLine) : OpR X (compareOp .Eq) rEqL0 := by
  intro pins s σ H x y v u Q I rx ry h
  obtain ⟨a, b, xs, rfl, rfl, ha, hb, q⟩ := h
  cases (show v = Value.ref a from rx)
  cases (show u = Value.ref b from ry)
  obtain ⟨its, r, pl, hz⟩ := I.list (SqL.of (K := X.K) ha)
  obtain ⟨its2, r2, pl2, hz2⟩ := I.list (SqL.of (K := X.K) hb)
  cases r2
  have hn := r.length
  by_cases h0 : its.length = 0
  · refine SeqAt.eq_listAt (e := fun _ => true) pl.isList pl2.isList (by simpa using h0) (by omega) (fun j h1 h2 => absurd h2 (by simp)) ⟨.bl _, H, I, rfl, ?_⟩
    rw [decide_eq_true (show xs.length = 0 by omega)] at q
    rw [show ((List.range its.toArray.size).all fun _ => true) = true by simp]
    exact q
  · refine SeqAt.eq_list_lengthsAt pl.isList pl2.isList (by simpa using h0) (by omega) ⟨.bl _, H, I, rfl, ?_⟩
    rw [decide_eq_false (show ¬ xs.length = 0 by omega)] at q
    exact q
end
section
variable {P : Program} {w : World} {K : PySem.W.Frag} {mg : Str → Option Value} {base : Heap}
def lawIsTextB (z : Str) (m : Nat) : Itm → Bool | .str s => decide (s.length ≤ m) && s.cps.toList.all (fun c => decide (c ∈ z.cps.toList)) | _ => false
def spLawText (K : PySem.W.Frag) : Sp := sp3 fun x zv mv H Q _ => ∃ (it : Itm) (z : Str) (m : Nat), it.At H x ∧ zv = .str z ∧ mv = .int m ∧ ∀ H', Same H H' → Q (.bl (lawIsTextB z m it)) H'
theorem bind_cps {β : Type} (g : Nat → Option β) (a : Array Nat) : ((List.range a.size).filterMap fun i => (a[i]?).bind g) = a.toList.filterMap g := by
  have h := filterMap_ix g a.toList
  rw [Array.length_toList] at h
  rw [show (fun i => (a[i]?).bind g) = fun i => (a.toList[i]?).bind g by funext i; rw [Array.getElem?_toList], h]
theorem none_all (z : List Nat) : ∀ l : List Nat, decide ((l.filterMap fun c => if c ∈ z then none else some (V.str ⟨#[c]⟩)).length = 0) = l.all (fun c => decide (c ∈ z))
  | [] => rfl
  | c :: l => by
    have ih := none_all z l
    by_cases h : c ∈ z
    · rw [List.filterMap_cons, if_pos h, List.all_cons, decide_eq_true h, Bool.true_and]; exact ih
    · rw [List.filterMap_cons, if_neg h, List.all_cons, decide_eq_false h, Bool.false_and]; exact decide_eq_false (by simp)
theorem sc__law_is_text : FnScope ["_law_thing", "_law_letters", "_law_most", "_law_sign"] ["_law_thing", "_law_letters", "_law_most"] (defScope (top 44)) := ⟨rfl, rfl, rfl, by decide +kernel, rfl, by decide +kernel, by decide +kernel⟩
theorem c__law_is_text (T : Sy K mg) : Cal gd P w K mg base CX0 2 "_law_is_text" (spLawText K) := by
  refine T.cal (F_law_is_text T) sc__law_is_text sp3_len (fun cdv f A outer s H vs Q E z h => ?_) (fun _ _ _ _ _ _ us hl => match us, hl with | [_, _, _], _ => rfl)
  have hu1 := hu_1 z; have hu2 := hu_2 z; have hu3 := hu_3 z
  obtain ⟨x0, x1, x2, rfl, h⟩ := h
  obtain ⟨it, z, m, ha, rfl, rfl, q⟩ := h
  by_cases hs : ∃ s, it = .str s
  rotate_left
  · obtain ⟨U, ty, e⟩ := ha.notS (K := K) (fun s z => hs ⟨s, z⟩)
    have eq : lawIsTextB z m it = false := by
      cases it with
      | str s => exact absurd ⟨s, rfl⟩ hs
      | _ => rfl
    rw [eq] at q
    refine ⟨_, (pss_one (ps_ret (pe_and (pe_callB (r := rIsi2 K) call_isi2 (by rfl) (T.free "isinstance") (by decide +kernel) (pa_cons (pv 0) (pa_cons (pe_bltn (v := .ty "str") (u := .type "str") (by rfl) (T.free "str") (by decide +kernel) rfl) pa_nil))) (pe_and (pe_cmpR op_le2 (pe_callB (r := rLen2 K) call_len2 (by rfl) (T.free "len") (by decide +kernel) (pa_cons (pv 0) pa_nil)) (pv 2) (nomark _)) (pe_one (pe_cmpR (r := rEqL0) (op_eqL0 hu3) (pe_lc (own := [("_law_sign", 3)]) (g := gName 3) (by rfl) sc__law_is_text.nd (pi_anyK (K := K) rfl (pv 0)) (blkOk_by (own := [("_law_sign", 3)]) (N := ["_law_thing", "_law_letters", "_law_most", "_law_sign"]) (sc := (defScope (top 44))) (by decide +kernel)) (fun _ _ _ _ _ => (pg_name (i := 3) sc__law_is_text.nd rfl (by first | exact Or.inl rfl | exact Or.inr rfl))) (fun _ _ _ _ _ => pts_one (pt_cmpR (r := rNotInS) op_notInS (pv 3) (pv 1) rfl)) (fun _ _ _ _ _ => (pv 3))) (pe_lst pa_nil) (nomark _))))))), ?_⟩
    walk_at "yhead"; walk_at "y"
    refine rIsi2_1 ty e ?_
    walk_at "y"
    exact q _ (Same.refl _)
  obtain ⟨s, rfl⟩ := hs
  obtain ⟨rfl, hl⟩ := ha
  refine ⟨_, (pss_one (ps_ret (pe_and (pe_callB (r := rIsi2 K) call_isi2 (by rfl) (T.free "isinstance") (by decide +kernel) (pa_cons (pv 0) (pa_cons (pe_bltn (v := .ty "str") (u := .type "str") (by rfl) (T.free "str") (by decide +kernel) rfl) pa_nil))) (pe_and (pe_cmpR op_le2 (pe_callB (r := rLen2 K) call_len2 (by rfl) (T.free "len") (by decide +kernel) (pa_cons (pv 0) pa_nil)) (pv 2) (nomark _)) (pe_one (pe_cmpR (r := rEqL0) (op_eqL0 hu3) (pe_lc (own := [("_law_sign", 3)]) (g := gName 3) (by rfl) sc__law_is_text.nd (pi_anyK (K := K) rfl (pv 0)) (blkOk_by (own := [("_law_sign", 3)]) (N := ["_law_thing", "_law_letters", "_law_most", "_law_sign"]) (sc := (defScope (top 44))) (by decide +kernel)) (fun _ _ _ _ _ => (pg_name (i := 3) sc__law_is_text.nd rfl (by first | exact Or.inl rfl | exact Or.inr rfl))) (fun _ _ _ _ _ => pts_one (pt_cmpR (r := rNotInS) op_notInS (pv 3) (pv 1) rfl)) (fun _ _ _ _ _ => (pv 3))) (pe_lst pa_nil) (nomark _))))))), ?_⟩
  walk_at "yhead"; walk_at "y"
  refine rLen2_s (sz4 hl) ?_
  have eq : lawIsTextB z m (.str s) = (decide (s.length ≤ m) && s.cps.toList.all (fun c => decide (c ∈ z.cps.toList))) := rfl
  rw [eq] at q
  refine ⟨_, rfl, ?_⟩
  refine rLe2_i ?_
  refine ⟨_, rfl, ?_⟩
  by_cases h1 : s.length ≤ m
  · rw [decide_eq_true h1, Bool.true_and] at q
    rw [decide_eq_true (show ((s.length : Nat) : Int) ≤ (m : Int) by omega), if_pos rfl]
    walk_at "y"
    refine lc_s ?_
    walk_at "y"
    refine ⟨_, rfl, lc_pure (walk_str) (sz4 hl) (fun i => (s.cps[i]?).bind fun c => if c ∈ z.cps.toList then none else some (V.str ⟨#[c]⟩)) (firm_FR id) (fun _ _ => trivial) (fun i H0 x H1 y => by obtain ⟨rfl, _⟩ := y; exact Same.refl _) (fun i x H0 H1 hi s0 s1 y N C hC hN => ?_) fun D H1 vs hD s1 h1 pr => ?_⟩
    · obtain ⟨rfl, c', hc', rfl⟩ := y
      walk_at "y"
      refine ⟨rfl, ?_⟩
      walk_at "y"
      refine ⟨c', z, rfl, rfl, ?_⟩
      by_cases hm : c' ∈ z.cps.toList
      · rw [decide_eq_true hm]
        walk_at "y"
        exact hN (by rw [hc']; exact if_pos hm) _ (Same.refl _)
      · rw [decide_eq_false hm]
        walk_at "y"
        exact hC _ _ _ (Same.refl _) (by rw [hc']; exact if_neg hm) rfl
    · rw [paired_FR pr, bind_cps] at h1
      walk_at "y"
      refine ⟨sz4 (by simp), fun L2 nL2 => ?_⟩
      have sH2 := same_upd (H := H1) (o := .lst []) nL2
      have eL2 := upd_same (H := H1) (a := L2) (o := .lst [])
      generalize upd H1 L2 (.lst []) = H2 at sH2 eL2 ⊢
      refine ⟨D, L2, _, rfl, rfl, sH2 _ _ h1, eL2, ?_⟩
      rw [List.length_map, none_all]
      exact q _ (s1.trans sH2)
  · rw [decide_eq_false h1, Bool.false_and] at q
    rw [decide_eq_false (show ¬ (((s.length : Nat) : Int) ≤ (m : Int)) by omega), if_neg (by decide)]
    exact q _ (Same.refl _)
end

end L75
namespace L75
open PySem PySem.Spec PyProof.Rows L2
variable {gd : Bool}
local macro_rules | `(tactic| walk_at "y1") => `(tactic| with_reducible first
  | refine tSeq_i ?_ | refine tAsg_i ?_ | refine tCons_i ?_ | refine tNil_i ?_ | refine tC_i ?_ | refine tOp_i ?_ | refine tIfS_i ?_ | refine tTest_i ?_ | refine exBl_i ?_ | refine tRet_i ?_ | refine tCall_i ?_
  | refine tCB_i ?_ | refine tLst_i ?_ | refine tTup_i ?_ | refine rI0_i ?_ | refine tDrop_i ?_ | refine tNext_i ?_ | refine tB_i ?_ | refine tAnd_i ?_ | refine tOr_i ?_ | refine tNot_i ?_ | refine tAndV_i ?_ | refine tOrV_i ?_ | refine tNotV_i ?_
  | refine tYes_i ?_ | refine tTM_i ?_ | refine tPar_i ?_ | refine tSl_i ?_ | refine tNoPart_i ?_ | refine tPart_i ?_ | refine part_i ?_ | refine tMake_i ?_ | refine tProp_i ?_ | refine tCallOG_i ?_ | refine tVeI_i ?_ | refine tOst_i ?_ | refine tMkO_i ?_ | refine sFld_i ?_ | refine fldaug_i ?_ | refine gCons_i ?_ | refine gNil_i ?_ | refine tChain_i ?_ | refine tBM_i ?_ | refine rAdd2_i ?_ | refine rLe2_i ?_ | refine rEq2_i ?_ | refine rEq2_ss ?_ | refine rNe2_i ?_ | refine rNe2_ss ?_ | refine rIsN_i ?_ | refine rNotN_i ?_ | refine tTup_i2 ?_ | refine tIf_i ?_ | refine tUn_i ?_ | refine tDGet_i ?_ | refine sDPut_i ?_ | refine tFld_i ?_ | refine tRetN_i ?_ | refine tBreak_i ?_ | refine tCont_i ?_ | refine rU_i ?_)
local macro_rules | `(tactic| walk_at "yhead") => `(tactic| dsimp only [L2.start, List.map, List.length_cons, List.length_nil, Nat.reduceAdd, Nat.reduceSub, List.replicate, List.cons_append, List.nil_append])
local macro_rules | `(tactic| walk_at "y2") => `(tactic| first
  | walk_at "y1"
  | ((with_reducible refine tVar_i (v := ?v) ?h ?q); (case h => rfl))
  | ((with_reducible refine gName_i ?_); (dsimp only [L2.wipe, List.set]))
  | with_reducible refine iteT ?_ | with_reducible refine iteF ?_ | with_reducible refine iteNT ?_ | with_reducible refine iteNF ?_
  | ((with_reducible refine iteDT ?h ?q); (case h => first | decide +kernel | omega | assumption | exact nv1 | exact nv2 | exact nv3 | exact nv4)) | ((with_reducible refine iteDF ?h ?q); (case h => first | decide +kernel | omega | assumption | exact nv1 | exact nv2 | exact nv3 | exact nv4))
  | ((with_reducible refine iteNDT ?h ?q); (case h => first | decide +kernel | omega | assumption | exact nv1 | exact nv2 | exact nv3 | exact nv4)) | ((with_reducible refine iteNDF ?h ?q); (case h => first | decide +kernel | omega | assumption | exact nv1 | exact nv2 | exact nv3 | exact nv4))
  | ((with_reducible refine rIsi2_1 (T := ?T) (b := true) ?ty ?h ?q); (case ty => first | exact ty_str | exact ty_int | exact ty_bl | exact ty_non); (case h => decide +kernel))
  | ((with_reducible refine rIsi2_1 (T := ?T) (b := false) ?ty ?h ?q); (case ty => first | exact ty_str | exact ty_int | exact ty_bl | exact ty_non); (case h => decide +kernel))
  | ((with_reducible refine rEq2_s ?h ?q); (case h => rfl)) | ((with_reducible refine rNe2_s ?h ?q); (case h => rfl))
  | ((with_reducible refine rEq_i ?h ?q); (case h => rfl)) | ((with_reducible refine rNe_i ?h ?q); (case h => rfl)))
local macro_rules | `(tactic| walk_at "y") => `(tactic| repeat walk_at "y2")

section
variable {P : Program} {w : World} {K : PySem.W.Frag} {mg : Str → Option Value} {base : Heap}
def smallS : Str := "abcdefghijklmnopqrstuvwxyz"
def greatS : Str := "ABCDEFGHIJKLMNOPQRSTUVWXYZ"
def bothS : Str := smallS ++ greatS
def xDueB : Itm → Bool
  | .tu [a, b] => inV a [.str "fault", .str "stack"] && numB (vItm b)
  | .tu _ => false
  | it => lawPlainB it
def strB : Itm → Bool | .str _ => true | _ => false
def emptyB : Itm → Bool | .str s => decide (s = "") | _ => false
def firstB : Itm → Bool | .str s => (match s.cps[0]? with | some c => decide (c ∈ greatS.cps.toList) | none => false) | _ => false
def noteD : List Itm → Bool | [p] => lawPlainB p | _ => false
def showD : List Itm → Bool | [a, b] => lawIsTextB smallS 8 a && (!emptyB a && xDueB b) | _ => false
def faultD : List Itm → Bool | [n, k, l] => numB n && (lawIsTextB bothS 12 k && (!emptyB k && (firstB k && (strB l && lawPlainB l)))) | _ => false
def isDueB : List Itm → Bool
  | .str w :: ps => if w = Str.ofString "note" ∧ ps.length = 1 then noteD ps else if inV (.str w) [.str "open", .str "shut"] = true ∧ ps.length = 1 then oneB ps else if w = Str.ofString "show" ∧ ps.length = 2 then showD ps else if w = Str.ofString "fault" ∧ ps.length = 3 then faultD ps else false
  | _ => false
theorem dueB_eq {wd : Str} {ps : List Itm} : isDueB (.str wd :: ps) = if wd = Str.ofString "note" ∧ ps.length = 1 then noteD ps else if inV (.str wd) [.str "open", .str "shut"] = true ∧ ps.length = 1 then oneB ps else if wd = Str.ofString "show" ∧ ps.length = 2 then showD ps else if wd = Str.ofString "fault" ∧ ps.length = 3 then faultD ps else false := rfl
def spDue (K : PySem.W.Frag) : Sp := sp1 fun x H Q _ => (∃ p vs its, x = .ref p ∧ H p = some (.tup vs) ∧ Paired (fun v (it : Itm) => it.At H v) vs its ∧ (∀ it ∈ its, it.Ok) ∧ its.length ≤ 8 ∧ ∀ H', Same H H' → Q (.bl (isDueB its)) H') ∨ ((∀ H', Same H H' → NotT K H' x) ∧ ∀ H', Same H H' → Q (.bl false) H')
theorem and_if2 {a b : Prop} [Decidable a] [Decidable b] {X Y N : Prop} (hX : (if decide b = true then Y else N) → X) (hY : a → b → Y) (hN : ¬ (a ∧ b) → N) : if decide a = true then X else N := by
  by_cases ha : a
  · rw [decide_eq_true ha, if_pos rfl]
    refine hX ?_
    by_cases hb : b
    · rw [decide_eq_true hb, if_pos rfl]; exact hY ha hb
    · rw [decide_eq_false hb, if_neg (by decide)]; exact hN fun z => hb z.2
  · rw [decide_eq_false ha, if_neg (by decide)]; exact hN fun z => ha z.1
theorem paired2 {α β : Type} {F : α → β → Prop} {xs : List α} {ys : List β} (p : Paired F xs ys) (h : xs.length = 2) : ∃ x1 x2 y1 y2, xs = [x1, x2] ∧ ys = [y1, y2] ∧ F x1 y1 ∧ F x2 y2 := by
  cases p with
  | nil => cases h
  | cons a t => cases t with
    | nil => cases h
    | cons b t => cases t with
      | nil => exact ⟨_, _, _, _, rfl, rfl, a, b⟩
      | cons c t => simp at h
theorem paired3 {α β : Type} {F : α → β → Prop} {xs : List α} {ys : List β} (p : Paired F xs ys) (h : xs.length = 3) : ∃ x1 x2 x3 y1 y2 y3, xs = [x1, x2, x3] ∧ ys = [y1, y2, y3] ∧ F x1 y1 ∧ F x2 y2 ∧ F x3 y3 := by
  cases p with
  | nil => cases h
  | cons a t => cases t with
    | nil => cases h
    | cons b t => cases t with
      | nil => cases h
      | cons c t => cases t with
        | nil => exact ⟨_, _, _, _, _, _, rfl, rfl, a, b, c⟩
        | cons d t => simp at h
theorem sc__law_is_due : FnScope ["_law_thing", "_law_small", "_law_great", "_law_word_here", "_law_parts", "_law_x"] ["_law_thing"] (defScope (top 46)) := ⟨rfl, rfl, rfl, by decide +kernel, rfl, by decide +kernel, by decide +kernel⟩
theorem c__law_is_due (T : Sy K mg) : Cal gd P w K mg base CX0 4 "_law_is_due" (spDue K) := by
  refine T.cal (F_law_is_due T) sc__law_is_due sp1_len (fun cdv f A outer s H vs Q E z h => ?_) (fun _ _ _ _ _ _ us hl => match us, hl with | [_], _ => rfl)
  have hu1 := hu_1 z; have hu2 := hu_2 z; have hu3 := hu_3 z
  obtain ⟨x0, rfl, h⟩ := h
  have a0 : smallS.length = 26 := by decide +kernel
  rcases h with ⟨p, vs, its, rfl, hp, pr, ok, hl, q⟩ | ⟨nt, q⟩
  rotate_left
  · refine ⟨_, (pss_cons (ps_asg (pe_tup (pa_cons pe_str (pa_cons pe_str pa_nil))) (pg_tupK (K := K) rfl (by rfl) (pgs_cons (pg_name (i := 1) sc__law_is_due.nd rfl (by first | exact Or.inl rfl | exact Or.inr rfl)) (pgs_cons (pg_name (i := 2) sc__law_is_due.nd rfl (by first | exact Or.inl rfl | exact Or.inr rfl)) pgs_nil)))) (pss_cons (ps_if (PW.pt (pw_or (pt_not (pt_val (pe_callB (r := rIsi2 K) call_isi2 (by rfl) (T.free "isinstance") (by decide +kernel) (pa_cons (pv 0) (pa_cons (pe_bltn (v := .ty "tuple") (u := .type "tuple") (by rfl) (T.free "tuple") (by decide +kernel) rfl) pa_nil))))) (pw_or (pt_cmpR (r := rEqT0) (op_eqT0 hu3) (pv 0) (pe_tup pa_nil) (nomark _)) (pw_or1 (pt_not (pt_val (pe_callB (r := rIsi2 K) call_isi2 (by rfl) (T.free "isinstance") (by decide +kernel) (pa_cons (pe_ix (r := rGet K) (ix_get hu3) (pv 0) pe_int (fun _ _ => rfl)) (pa_cons (pe_bltn (v := .ty "str") (u := .type "str") (by rfl) (T.free "str") (by decide +kernel) rfl) pa_nil))))))))) (pss_one (ps_ret pe_bl)) pss_nil) (pss_cons (ps_par (i := 3) (j := 4) (by rfl) sc__law_is_due.nd rfl rfl (by decide) rfl rfl (pa_cons (pe_ix (r := rGet K) (ix_get hu3) (pv 0) pe_int (fun _ _ => rfl)) (pa_cons (pe_slice (r := rSl2 K) sl_2 (pv 0) (po_some pe_int) po_none) pa_nil)) (by rfl)) (pss_cons (ps_if (PW.pt (pw_and (pt_cmpR (r := rEq2 K) (op_eq2 hu1) (pv 3) pe_str (nomark _)) (pw_and1 (pt_cmpR (r := rEq2 K) (op_eq2 hu1) (pe_callB (r := rLen2 K) call_len2 (by rfl) (T.free "len") (by decide +kernel) (pa_cons (pv 4) pa_nil)) pe_int (nomark _))))) (pss_one (ps_ret (pe_c (c__law_is_plain T) z (pa_cons (pe_ix (r := rGet K) (ix_get hu3) (pv 4) pe_int (fun _ _ => rfl)) pa_nil)))) pss_nil) (pss_cons (ps_if (PW.pt (pw_and (pt_cmpR (r := rIn2 K) (op_in2 hu2) (pv 3) (pe_tup (pa_cons pe_str (pa_cons pe_str pa_nil))) rfl) (pw_and1 (pt_cmpR (r := rEq2 K) (op_eq2 hu1) (pe_callB (r := rLen2 K) call_len2 (by rfl) (T.free "len") (by decide +kernel) (pa_cons (pv 4) pa_nil)) pe_int (nomark _))))) (pss_one (ps_ret (pe_c (c__law_is_number T) z (pa_cons (pe_ix (r := rGet K) (ix_get hu3) (pv 4) pe_int (fun _ _ => rfl)) pa_nil)))) pss_nil) (pss_cons (ps_if (PW.pt (pw_and (pt_cmpR (r := rEq2 K) (op_eq2 hu1) (pv 3) pe_str (nomark _)) (pw_and1 (pt_cmpR (r := rEq2 K) (op_eq2 hu1) (pe_callB (r := rLen2 K) call_len2 (by rfl) (T.free "len") (by decide +kernel) (pa_cons (pv 4) pa_nil)) pe_int (nomark _))))) (pss_cons (ps_if (PW.pt (pw_or (pt_not (pt_val (pe_c (c__law_is_text T) z (pa_cons (pe_ix (r := rGet K) (ix_get hu3) (pv 4) pe_int (fun _ _ => rfl)) (pa_cons (pv 1) (pa_cons pe_int pa_nil)))))) (pw_or1 (pt_cmpR (r := rEq2 K) (op_eq2 hu1) (pe_ix (r := rGet K) (ix_get hu3) (pv 4) pe_int (fun _ _ => rfl)) pe_str (nomark _))))) (pss_one (ps_ret pe_bl)) pss_nil) (pss_cons (ps_set (i := 5) sc__law_is_due.nd rfl (by first | exact Or.inl rfl | exact Or.inr rfl) (pe_ix (r := rGet K) (ix_get hu3) (pv 4) pe_int (fun _ _ => rfl))) (pss_cons (ps_if (pt_val (pe_callB (r := rIsi2 K) call_isi2 (by rfl) (T.free "isinstance") (by decide +kernel) (pa_cons (pv 5) (pa_cons (pe_bltn (v := .ty "tuple") (u := .type "tuple") (by rfl) (T.free "tuple") (by decide +kernel) rfl) pa_nil)))) (pss_one (ps_ret (pe_and (pe_cmpR (r := rEq2 K) (op_eq2 hu1) (pe_callB (r := rLen2 K) call_len2 (by rfl) (T.free "len") (by decide +kernel) (pa_cons (pv 5) pa_nil)) pe_int (nomark _)) (pe_and (pe_cmpR (r := rIn2 K) (op_in2 hu2) (pe_ix (r := rGet K) (ix_get hu3) (pv 5) pe_int (fun _ _ => rfl)) (pe_tup (pa_cons pe_str (pa_cons pe_str pa_nil))) rfl) (pe_one (pe_c (c__law_is_number T) z (pa_cons (pe_ix (r := rGet K) (ix_get hu3) (pv 5) pe_int (fun _ _ => rfl)) pa_nil))))))) pss_nil) (pss_one (ps_ret (pe_c (c__law_is_plain T) z (pa_cons (pv 5) pa_nil))))))) pss_nil) (pss_cons (ps_if (PW.pt (pw_or (pt_cmpR (r := rNe2 K) (op_ne2 hu1) (pv 3) pe_str (nomark _)) (pw_or (pt_cmpR (r := rNe2 K) (op_ne2 hu1) (pe_callB (r := rLen2 K) call_len2 (by rfl) (T.free "len") (by decide +kernel) (pa_cons (pv 4) pa_nil)) pe_int (nomark _)) (pw_or1 (pt_not (pt_val (pe_c (c__law_is_number T) z (pa_cons (pe_ix (r := rGet K) (ix_get hu3) (pv 4) pe_int (fun _ _ => rfl)) pa_nil)))))))) (pss_one (ps_ret pe_bl)) pss_nil) (pss_cons (ps_if (PW.pt (pw_or (pt_not (pt_val (pe_c (c__law_is_text T) z (pa_cons (pe_ix (r := rGet K) (ix_get hu3) (pv 4) pe_int (fun _ _ => rfl)) (pa_cons (pe_op (r := rAdd2 K) op_add2 (pv 1) (pv 2)) (pa_cons pe_int pa_nil)))))) (pw_or (pt_cmpR (r := rEq2 K) (op_eq2 hu1) (pe_ix (r := rGet K) (ix_get hu3) (pv 4) pe_int (fun _ _ => rfl)) pe_str (nomark _)) (pw_or1 (pt_cmpR (r := rNotInS) op_notInS (pe_ix (r := rGet K) (ix_get hu3) (pe_ix (r := rGet K) (ix_get hu3) (pv 4) pe_int (fun _ _ => rfl)) pe_int (fun _ _ => rfl)) (pv 2) rfl))))) (pss_one (ps_ret pe_bl)) pss_nil) (pss_one (ps_ret (pe_and (pe_callB (r := rIsi2 K) call_isi2 (by rfl) (T.free "isinstance") (by decide +kernel) (pa_cons (pe_ix (r := rGet K) (ix_get hu3) (pv 4) pe_int (fun _ _ => rfl)) (pa_cons (pe_bltn (v := .ty "str") (u := .type "str") (by rfl) (T.free "str") (by decide +kernel) rfl) pa_nil))) (pe_one (pe_c (c__law_is_plain T) z (pa_cons (pe_ix (r := rGet K) (ix_get hu3) (pv 4) pe_int (fun _ _ => rfl)) pa_nil)))))))))))))), ?_⟩
    walk_at "yhead"; walk_at "y"
    refine ⟨sz4 (by simp), fun A0 nA0 => ?_⟩
    have sH1 := same_upd (H := H) (o := .tup [.str "abcdefghijklmnopqrstuvwxyz", .str "ABCDEFGHIJKLMNOPQRSTUVWXYZ"]) nA0
    have eA0 := upd_same (H := H) (a := A0) (o := .tup [.str "abcdefghijklmnopqrstuvwxyz", .str "ABCDEFGHIJKLMNOPQRSTUVWXYZ"])
    generalize upd H A0 (.tup [.str "abcdefghijklmnopqrstuvwxyz", .str "ABCDEFGHIJKLMNOPQRSTUVWXYZ"]) = H1 at sH1 eA0 ⊢
    refine gTup_i (SqT.of eA0) ?_
    walk_at "y"
    obtain ⟨U, ty, e⟩ := nt _ sH1
    refine rIsi2_1 ty e ?_
    walk_at "y"
    exact q _ sH1
  refine ⟨_, (pss_cons (ps_asg (pe_tup (pa_cons pe_str (pa_cons pe_str pa_nil))) (pg_tupK (K := K) rfl (by rfl) (pgs_cons (pg_name (i := 1) sc__law_is_due.nd rfl (by first | exact Or.inl rfl | exact Or.inr rfl)) (pgs_cons (pg_name (i := 2) sc__law_is_due.nd rfl (by first | exact Or.inl rfl | exact Or.inr rfl)) pgs_nil)))) (pss_cons (ps_if (PW.pt (pw_or (pt_not (pt_val (pe_callB (r := rIsi2 K) call_isi2 (by rfl) (T.free "isinstance") (by decide +kernel) (pa_cons (pv 0) (pa_cons (pe_bltn (v := .ty "tuple") (u := .type "tuple") (by rfl) (T.free "tuple") (by decide +kernel) rfl) pa_nil))))) (pw_or (pt_cmpR (r := rEqT0) (op_eqT0 hu3) (pv 0) (pe_tup pa_nil) (nomark _)) (pw_or1 (pt_not (pt_val (pe_callB (r := rIsi2 K) call_isi2 (by rfl) (T.free "isinstance") (by decide +kernel) (pa_cons (pe_ix (r := rGet K) (ix_get hu3) (pv 0) pe_int (fun _ _ => rfl)) (pa_cons (pe_bltn (v := .ty "str") (u := .type "str") (by rfl) (T.free "str") (by decide +kernel) rfl) pa_nil))))))))) (pss_one (ps_ret pe_bl)) pss_nil) (pss_cons (ps_par (i := 3) (j := 4) (by rfl) sc__law_is_due.nd rfl rfl (by decide) rfl rfl (pa_cons (pe_ix (r := rGet K) (ix_get hu3) (pv 0) pe_int (fun _ _ => rfl)) (pa_cons (pe_slice (r := rSl2 K) sl_2 (pv 0) (po_some pe_int) po_none) pa_nil)) (by rfl)) (pss_cons (ps_if (PW.pt (pw_and (pt_cmpR (r := rEq2 K) (op_eq2 hu1) (pv 3) pe_str (nomark _)) (pw_and1 (pt_cmpR (r := rEq2 K) (op_eq2 hu1) (pe_callB (r := rLen2 K) call_len2 (by rfl) (T.free "len") (by decide +kernel) (pa_cons (pv 4) pa_nil)) pe_int (nomark _))))) (pss_one (ps_ret (pe_c (c__law_is_plain T) z (pa_cons (pe_ix (r := rGet K) (ix_get hu3) (pv 4) pe_int (fun _ _ => rfl)) pa_nil)))) pss_nil) (pss_cons (ps_if (PW.pt (pw_and (pt_cmpR (r := rIn2 K) (op_in2 hu2) (pv 3) (pe_tup (pa_cons pe_str (pa_cons pe_str pa_nil))) rfl) (pw_and1 (pt_cmpR (r := rEq2 K) (op_eq2 hu1) (pe_callB (r := rLen2 K) call_len2 (by rfl) (T.free "len") (by decide +kernel) (pa_cons (pv 4) pa_nil)) pe_int (nomark _))))) (pss_one (ps_ret (pe_c (c__law_is_number T) z (pa_cons (pe_ix (r := rGet K) (ix_get hu3) (pv 4) pe_int (fun _ _ => rfl)) pa_nil)))) pss_nil) (pss_cons (ps_if (PW.pt (pw_and (pt_cmpR (r := rEq2 K) (op_eq2 hu1) (pv 3) pe_str (nomark _)) (pw_and1 (pt_cmpR (r := rEq2 K) (op_eq2 hu1) (pe_callB (r := rLen2 K) call_len2 (by rfl) (T.free "len") (by decide +kernel) (pa_cons (pv 4) pa_nil)) pe_int (nomark _))))) (pss_cons (ps_if (PW.pt (pw_or (pt_not (pt_val (pe_c (c__law_is_text T) z (pa_cons (pe_ix (r := rGet K) (ix_get hu3) (pv 4) pe_int (fun _ _ => rfl)) (pa_cons (pv 1) (pa_cons pe_int pa_nil)))))) (pw_or1 (pt_cmpR (r := rEq2 K) (op_eq2 hu1) (pe_ix (r := rGet K) (ix_get hu3) (pv 4) pe_int (fun _ _ => rfl)) pe_str (nomark _))))) (pss_one (ps_ret pe_bl)) pss_nil) (pss_cons (ps_set (i := 5) sc__law_is_due.nd rfl (by first | exact Or.inl rfl | exact Or.inr rfl) (pe_ix (r := rGet K) (ix_get hu3) (pv 4) pe_int (fun _ _ => rfl))) (pss_cons (ps_if (pt_val (pe_callB (r := rIsi2 K) call_isi2 (by rfl) (T.free "isinstance") (by decide +kernel) (pa_cons (pv 5) (pa_cons (pe_bltn (v := .ty "tuple") (u := .type "tuple") (by rfl) (T.free "tuple") (by decide +kernel) rfl) pa_nil)))) (pss_one (ps_ret (pe_and (pe_cmpR (r := rEq2 K) (op_eq2 hu1) (pe_callB (r := rLen2 K) call_len2 (by rfl) (T.free "len") (by decide +kernel) (pa_cons (pv 5) pa_nil)) pe_int (nomark _)) (pe_and (pe_cmpR (r := rIn2 K) (op_in2 hu2) (pe_ix (r := rGet K) (ix_get hu3) (pv 5) pe_int (fun _ _ => rfl)) (pe_tup (pa_cons pe_str (pa_cons pe_str pa_nil))) rfl) (pe_one (pe_c (c__law_is_number T) z (pa_cons (pe_ix (r := rGet K) (ix_get hu3) (pv 5) pe_int (fun _ _ => rfl)) pa_nil))))))) pss_nil) (pss_one (ps_ret (pe_c (c__law_is_plain T) z (pa_cons (pv 5) pa_nil))))))) pss_nil) (pss_cons (ps_if (PW.pt (pw_or (pt_cmpR (r := rNe2 K) (op_ne2 hu1) (pv 3) pe_str (nomark _)) (pw_or (pt_cmpR (r := rNe2 K) (op_ne2 hu1) (pe_callB (r := rLen2 K) call_len2 (by rfl) (T.free "len") (by decide +kernel) (pa_cons (pv 4) pa_nil)) pe_int (nomark _)) (pw_or1 (pt_not (pt_val (pe_c (c__law_is_number T) z (pa_cons (pe_ix (r := rGet K) (ix_get hu3) (pv 4) pe_int (fun _ _ => rfl)) pa_nil)))))))) (pss_one (ps_ret pe_bl)) pss_nil) (pss_cons (ps_if (PW.pt (pw_or (pt_not (pt_val (pe_c (c__law_is_text T) z (pa_cons (pe_ix (r := rGet K) (ix_get hu3) (pv 4) pe_int (fun _ _ => rfl)) (pa_cons (pe_op (r := rAdd2 K) op_add2 (pv 1) (pv 2)) (pa_cons pe_int pa_nil)))))) (pw_or (pt_cmpR (r := rEq2 K) (op_eq2 hu1) (pe_ix (r := rGet K) (ix_get hu3) (pv 4) pe_int (fun _ _ => rfl)) pe_str (nomark _)) (pw_or1 (pt_cmpR (r := rNotInS) op_notInS (pe_ix (r := rGet K) (ix_get hu3) (pe_ix (r := rGet K) (ix_get hu3) (pv 4) pe_int (fun _ _ => rfl)) pe_int (fun _ _ => rfl)) (pv 2) rfl))))) (pss_one (ps_ret pe_bl)) pss_nil) (pss_one (ps_ret (pe_and (pe_callB (r := rIsi2 K) call_isi2 (by rfl) (T.free "isinstance") (by decide +kernel) (pa_cons (pe_ix (r := rGet K) (ix_get hu3) (pv 4) pe_int (fun _ _ => rfl)) (pa_cons (pe_bltn (v := .ty "str") (u := .type "str") (by rfl) (T.free "str") (by decide +kernel) rfl) pa_nil))) (pe_one (pe_c (c__law_is_plain T) z (pa_cons (pe_ix (r := rGet K) (ix_get hu3) (pv 4) pe_int (fun _ _ => rfl)) pa_nil)))))))))))))), ?_⟩
  walk_at "yhead"; walk_at "y"
  refine ⟨sz4 (by simp), fun A0 nA0 => ?_⟩
  have sH0 := same_upd (H := H) (o := .tup [.str "abcdefghijklmnopqrstuvwxyz", .str "ABCDEFGHIJKLMNOPQRSTUVWXYZ"]) nA0
  have eA0 := upd_same (H := H) (a := A0) (o := .tup [.str "abcdefghijklmnopqrstuvwxyz", .str "ABCDEFGHIJKLMNOPQRSTUVWXYZ"])
  generalize upd H A0 (.tup [.str "abcdefghijklmnopqrstuvwxyz", .str "ABCDEFGHIJKLMNOPQRSTUVWXYZ"]) = H0 at sH0 eA0 ⊢
  refine gTup_i (SqT.of eA0) ?_
  replace pr := pr.mono fun v (it : Itm) h => Itm.At.same h sH0
  replace hp := sH0 _ _ hp
  replace q : ∀ H', Same H0 H' → Q (.bl (isDueB its)) H' := fun H' s => q H' (sH0.trans s)
  clear eA0 sH0
  walk_at "y"
  refine rIsi2_1 (b := true) (ty_tup hp) (by decide +kernel) ?_
  walk_at "y"
  refine ⟨sz4 (by simp), fun T1 nT1 => ?_⟩
  have sH1 := same_upd (H := H0) (o := .tup []) nT1
  have eT1 := upd_same (H := H0) (a := T1) (o := .tup [])
  generalize upd H0 T1 (.tup []) = H1 at sH1 eT1 ⊢
  have hp1 := sH1 _ _ hp
  refine ⟨p, T1, vs, rfl, rfl, hp1, eT1, ?_⟩
  cases pr with
  | nil =>
    walk_at "y"
    exact q _ sH1
  | @cons v0 it0 vs its h0 pr =>
  rw [decide_eq_false (show ¬ ((v0 :: vs).length = 0) by simp)]
  walk_at "y"
  refine rGet_t (n := 0) (SqT.of hp1) rfl ?_
  walk_at "y"
  by_cases hs : ∃ s, it0 = .str s
  rotate_left
  · obtain ⟨U, ty, e⟩ := (h0.same sH1).notS (K := K) (fun s z => hs ⟨s, z⟩)
    have eq : isDueB (it0 :: its) = false := by
      cases it0 with
      | str s => exact absurd ⟨s, rfl⟩ hs
      | _ => rfl
    rw [eq] at q
    refine rIsi2_1 ty e ?_
    walk_at "y"
    exact q _ sH1
  obtain ⟨wd, rfl⟩ := hs
  obtain ⟨rfl, hw⟩ := h0
  walk_at "y"
  refine rGet_t (n := 0) (SqT.of hp1) rfl ?_
  walk_at "y"
  refine ⟨1, rfl, ?_⟩
  walk_at "y"
  refine rSl2_t (SqT.of hp1) fun d H2 eD sH2 => ?_
  rw [show cutV (V.str wd :: vs) (some 1) none = vs by unfold cutV; rw [HT.sIx_none, show HT.sIx (V.str wd :: vs).length 0 (some 1) = 1 by rw [show (some (1 : Int)) = some ((1 : Nat) : Int) from rfl, HT.sIx_nat]; simp]; simp] at eD
  have s02 := sH1.trans sH2
  have prD : Paired (fun v (it : Itm) => it.At H2 v) vs its := pr.mono fun v it h => h.same s02
  have okI : ∀ it ∈ its, it.Ok := fun it h => ok it (List.mem_cons_of_mem _ h)
  have lvs : vs.length = its.length := prD.length
  walk_at "y"
  refine ⟨_, _, rfl, ?_⟩
  walk_at "y"
  rw [dueB_eq] at q
  have one' : ∀ {H2 : Hp} {vs' : List V} {its' : List Itm}, Paired (fun v (it : Itm) => it.At H2 v) vs' its' → vs'.length = 1 → ∃ v1 i1, vs' = [v1] ∧ its' = [i1] ∧ i1.At H2 v1 := fun p h => by
    cases p with
    | nil => cases h
    | cons r t => cases t with
      | nil => exact ⟨_, _, rfl, rfl, r⟩
      | cons _ _ => simp at h
  refine and_if2 (b := vs.length = 1) (Y := ?Y) (fun k => ?_) (fun c1 l1 => ?_) (fun c1 => ?_)
  rotate_left
  · walk_at "y"
    refine rLen2_t (n := vs.length) eD ?_
    walk_at "y"
    rw [show decide ((vs.length : Int) = 1) = decide (vs.length = 1) from decide_eq_decide.mpr (by omega)]
    exact k
  · rw [if_pos ⟨c1, by omega⟩] at q
    obtain ⟨v1, i1, rfl, rfl, h1⟩ := one' prD l1
    walk_at "y"
    refine rGet_t (n := 0) eD rfl ?_
    exact ⟨_, rfl, i1, h1, q _ s02⟩
  rw [if_neg (by rw [← lvs]; exact c1)] at q
  walk_at "y"
  refine ⟨sz4 (by simp), fun T3 nT3 => ?_⟩
  have sH3 := same_upd (H := H2) (o := .tup [.str "open", .str "shut"]) nT3
  have eT3 := upd_same (H := H2) (a := T3) (o := .tup [.str "open", .str "shut"])
  generalize upd H2 T3 (.tup [.str "open", .str "shut"]) = H3 at sH3 eT3 ⊢
  have eD3 : SqT K H3 d vs := SqB.same (b := false) eD sH3
  have s03 := s02.trans sH3
  have prE : Paired (fun v (it : Itm) => it.At H3 v) vs its := prD.mono fun v it h => h.same sH3
  clear prD eD
  refine rIn2_f (b := false) (SqT.of eT3) rfl rfl ?_
  have inD : inV (.str wd) [.str "open", .str "shut"] = decide (inV (.str wd) [.str "open", .str "shut"] = true) := by cases inV (.str wd) [.str "open", .str "shut"] <;> rfl
  rw [inD]
  refine ⟨_, rfl, ?_⟩
  refine and_if2 (b := vs.length = 1) (Y := ?Y2) (fun k => ?_) (fun c2 l1 => ?_) (fun c2 => ?_)
  rotate_left
  · walk_at "y"
    refine rLen2_t (n := vs.length) eD3 ?_
    walk_at "y"
    rw [show decide ((vs.length : Int) = 1) = decide (vs.length = 1) from decide_eq_decide.mpr (by omega)]
    exact k
  · rw [if_pos ⟨c2, by omega⟩] at q
    obtain ⟨v1, i1, rfl, rfl, h1⟩ := one' prE l1
    walk_at "y"
    refine rGet_t (n := 0) eD3 rfl ?_
    exact ⟨_, rfl, i1, h1, q _ s03⟩
  rw [if_neg (by rw [← lvs]; exact c2)] at q
  walk_at "y"
  refine and_if2 (b := vs.length = 2) (Y := ?Y3) (fun k => ?_) (fun c3 l2 => ?_) (fun c3 => ?_)
  rotate_left
  · walk_at "y"
    refine rLen2_t (n := vs.length) eD3 ?_
    walk_at "y"
    rw [show decide ((vs.length : Int) = 2) = decide (vs.length = 2) from decide_eq_decide.mpr (by omega)]
    exact k
  · rw [if_pos ⟨c3, by omega⟩] at q
    obtain ⟨va, vb, a, b, rfl, rfl, ha, hb⟩ := paired2 prE l2
    have q : ∀ H', Same H0 H' → Q (.bl (lawIsTextB smallS 8 a && (!emptyB a && xDueB b))) H' := q
    walk_at "y"
    refine rGet_t (n := 0) eD3 rfl ?_
    walk_at "y"
    refine ⟨_, _, _, rfl, a, _, 8, ha, rfl, rfl, fun H4 s4 => ?_⟩
    have s04 := s03.trans s4
    have eD4 : SqT K H4 d [va, vb] := SqB.same (b := false) eD3 s4
    have e0 : lawIsTextB (Str.ofString "abcdefghijklmnopqrstuvwxyz") 8 a = lawIsTextB smallS 8 a := rfl
    rw [e0]
    cases c4 : lawIsTextB smallS 8 a with
    | false =>
      rw [c4, Bool.false_and] at q
      walk_at "y"
      exact q _ s04
    | true =>
      rw [c4, Bool.true_and] at q
      cases a with
      | str sa =>
        obtain ⟨rfl, _⟩ := ha
        walk_at "y"
        refine rGet_t (n := 0) eD4 rfl ?_
        walk_at "y"
        have q : ∀ H', Same H0 H' → Q (.bl (!decide (sa = Str.ofString "") && xDueB b)) H' := q
        by_cases c5 : sa = Str.ofString ""
        · rw [decide_eq_true c5] at q ⊢
          walk_at "y"
          exact q _ s04
        · rw [decide_eq_false c5] at q ⊢
          walk_at "y"
          refine rGet_t (n := 1) eD4 rfl ?_
          walk_at "y"
          have q : ∀ H', Same H0 H' → Q (.bl (xDueB b)) H' := q
          have hb4 := hb.same s4
          by_cases ht : ∃ xs, b = .tu xs
          · obtain ⟨xs, rfl⟩ := ht
            obtain ⟨x, rfl, hx⟩ := hb4
            have okx : ∀ y ∈ xs, FlatOk y := okI _ (List.mem_cons_of_mem _ (List.mem_cons_self ..))
            refine rIsi2_1 (b := true) (ty_tup hx) (by decide +kernel) ?_
            walk_at "y"
            refine rLen2_t (n := xs.length) (SqT.of hx) ?_
            walk_at "y"
            match xs, hx, okx, q with
            | [], hx, okx, q => walk_at "y"; exact q _ s04
            | [_], hx, okx, q => walk_at "y"; exact q _ s04
            | _ :: _ :: _ :: r, hx, okx, q =>
              rw [decide_eq_false (show ¬ (((_ :: _ :: _ :: r : List V).length : Int) = 2) by simp; omega)]
              walk_at "y"
              exact q _ s04
            | [xa, xb], hx, okx, q =>
              have q : ∀ H', Same H0 H' → Q (.bl (inV xa [.str "fault", .str "stack"] && numB (vItm xb))) H' := q
              have okb := okx xb (List.mem_cons_of_mem _ (List.mem_cons_self ..))
              have oka := okx xa (List.mem_cons_self ..)
              have fa0 : flatV xa = true := by cases xa <;> first | rfl | exact oka.elim
              rw [decide_eq_true (show ((([xa, xb] : List V).length : Nat) : Int) = 2 from rfl)]
              walk_at "y"
              refine rGet_t (n := 0) (SqT.of hx) rfl ?_
              walk_at "y"
              refine ⟨sz4 (by simp), fun T5 nT5 => ?_⟩
              have sH5 := same_upd (H := H4) (o := .tup [.str "fault", .str "stack"]) nT5
              have eT5 := upd_same (H := H4) (a := T5) (o := .tup [.str "fault", .str "stack"])
              generalize upd H4 T5 (.tup [.str "fault", .str "stack"]) = H5 at sH5 eT5 ⊢
              refine rIn2_f (b := false) (SqT.of eT5) fa0 rfl ?_
              cases c6 : inV xa [.str "fault", .str "stack"] with
              | false =>
                rw [c6, Bool.false_and] at q
                walk_at "y"
                exact q _ (s04.trans sH5)
              | true =>
                rw [c6, Bool.true_and] at q
                walk_at "y"
                refine rGet_t (n := 1) (SqT.of (sH5 _ _ hx)) rfl ?_
                exact ⟨_, rfl, vItm xb, okb.at_, q _ (s04.trans sH5)⟩
          · have nt : ∃ T, TyX K H4 vb (.type T) ∧ kitB T "tuple" = some false := by
              cases b with
              | non => cases (show vb = .non from hb4); exact ⟨_, ty_non, by decide +kernel⟩
              | bl c => cases (show vb = .bl c from hb4); exact ⟨_, ty_bl, by decide +kernel⟩
              | int i => cases (show vb = .int i from hb4); exact ⟨_, ty_int, by decide +kernel⟩
              | str t => obtain ⟨rfl, _⟩ := hb4; exact ⟨_, ty_str, by decide +kernel⟩
              | tu xs => exact absurd ⟨xs, rfl⟩ ht
              | ls xs => obtain ⟨x, rfl, hx⟩ := hb4; exact ⟨_, ty_lst hx, by decide +kernel⟩
              | dc => obtain ⟨x, rfl, hx⟩ := hb4; exact ⟨_, .base (.dK hx), by decide +kernel⟩
            obtain ⟨U, ty, e⟩ := nt
            refine rIsi2_1 ty e ?_
            walk_at "y"
            have eb : xDueB b = lawPlainB b := by
              cases b with
              | tu xs => exact absurd ⟨xs, rfl⟩ ht
              | _ => rfl
            rw [eb] at q
            exact ⟨_, rfl, b, hb4, q _ s04⟩
      | _ => cases c4
  rw [if_neg (by rw [← lvs]; exact c3)] at q
  walk_at "y"
  by_cases c4 : wd = Str.ofString "fault"
  rotate_left
  · rw [if_neg (fun z => c4 z.1)] at q
    rw [decide_eq_false c4]
    walk_at "y"
    exact q _ s03
  rw [decide_eq_true c4]
  walk_at "y"
  refine rLen2_t (n := vs.length) eD3 ?_
  walk_at "y"
  by_cases l3 : vs.length = 3
  rotate_left
  · rw [if_neg (fun z => l3 (by omega))] at q
    rw [decide_eq_false (show ¬ ((vs.length : Int) = 3) by omega)]
    walk_at "y"
    exact q _ s03
  rw [if_pos ⟨c4, by omega⟩] at q
  rw [decide_eq_true (show (vs.length : Int) = 3 by omega)]
  obtain ⟨vn, vk, vl, n, k, l, rfl, rfl, hn, hk, hl3⟩ := paired3 prE l3
  have q : ∀ H', Same H0 H' → Q (.bl (numB n && (lawIsTextB bothS 12 k && (!emptyB k && (firstB k && (strB l && lawPlainB l)))))) H' := q
  walk_at "y"
  refine rGet_t (n := 0) eD3 rfl ?_
  walk_at "y"
  refine ⟨_, rfl, n, hn, ?_⟩
  cases c5 : numB n with
  | false =>
    rw [c5, Bool.false_and] at q
    walk_at "y"
    exact q _ s03
  | true =>
  rw [c5, Bool.true_and] at q
  walk_at "y"
  refine rGet_t (n := 1) eD3 rfl ?_
  walk_at "y"
  refine .inr (.inl ⟨_, _, rfl, rfl, by decide +kernel, ?_⟩)
  walk_at "y"
  refine ⟨_, _, _, rfl, k, _, 12, hk, rfl, rfl, fun H4 s4 => ?_⟩
  have s04 := s03.trans s4
  have eD4 : SqT K H4 d [vn, vk, vl] := SqB.same (b := false) eD3 s4
  have hl4 := hl3.same s4
  have e0 : lawIsTextB (Str.ofString "abcdefghijklmnopqrstuvwxyz" ++ Str.ofString "ABCDEFGHIJKLMNOPQRSTUVWXYZ") 12 k = lawIsTextB bothS 12 k := rfl
  rw [e0]
  cases c6 : lawIsTextB bothS 12 k with
  | false =>
    rw [c6, Bool.false_and] at q
    walk_at "y"
    exact q _ s04
  | true =>
  rw [c6, Bool.true_and] at q
  cases k with
  | str sk =>
    obtain ⟨rfl, _⟩ := hk
    have q : ∀ H', Same H0 H' → Q (.bl (!decide (sk = Str.ofString "") && (firstB (.str sk) && (strB l && lawPlainB l)))) H' := q
    walk_at "y"
    refine rGet_t (n := 1) eD4 rfl ?_
    walk_at "y"
    by_cases c7 : sk = Str.ofString ""
    · rw [decide_eq_true c7] at q ⊢
      walk_at "y"
      exact q _ s04
    rw [decide_eq_false c7] at q ⊢
    replace q : ∀ H', Same H0 H' → Q (.bl (firstB (.str sk) && (strB l && lawPlainB l))) H' := q
    have lk : sk.length ≤ 12 := by
      have h6 : (decide (sk.length ≤ 12) && _) = true := c6
      exact of_decide_eq_true (He.ba h6).1
    have nk : ∃ c, sk.cps[0]? = some c := by
      cases h0 : sk.cps[0]? with
      | some c => exact ⟨c, rfl⟩
      | none =>
        refine absurd ?_ c7
        have hz : sk.cps.size = 0 := by
          rcases Nat.eq_zero_or_pos sk.cps.size with h | h
          · exact h
          · rw [Array.getElem?_eq_getElem h] at h0; cases h0
        have e1 : sk.cps = #[] := Array.eq_empty_of_size_eq_zero hz
        have e2 : (Str.ofString "").cps = #[] := by decide +kernel
        cases sk with | mk cps => cases hq : Str.ofString "" with | mk c2 =>
          rw [hq] at e2
          simp only at e1 e2
          rw [e1, e2]
    obtain ⟨c, hc⟩ := nk
    have q : ∀ H', Same H0 H' → Q (.bl (decide (c ∈ greatS.cps.toList) && (strB l && lawPlainB l))) H' := by
      have e : firstB (.str sk) = decide (c ∈ greatS.cps.toList) := by
        show (match sk.cps[0]? with | some c => decide (c ∈ greatS.cps.toList) | none => false) = _
        rw [hc]
      rw [e] at q
      exact q
    walk_at "y"
    refine rGet_t (n := 1) eD4 rfl ?_
    walk_at "y"
    refine rGet_s (n := 0) (c := c) (sz4 (by omega)) (by rw [Array.getElem?_toList]; exact hc) ?_
    walk_at "y"
    refine ⟨c, _, rfl, rfl, ?_⟩
    have e8 : decide (c ∈ (Str.ofString "ABCDEFGHIJKLMNOPQRSTUVWXYZ").cps.toList) = decide (c ∈ greatS.cps.toList) := rfl
    rw [e8]
    cases c8 : decide (c ∈ greatS.cps.toList) with
    | false =>
      rw [c8, Bool.false_and] at q
      walk_at "y"
      exact q _ s04
    | true =>
    rw [c8, Bool.true_and] at q
    walk_at "y"
    refine rGet_t (n := 2) eD4 rfl ?_
    walk_at "y"
    by_cases hs : ∃ t, l = .str t
    · obtain ⟨t, rfl⟩ := hs
      obtain ⟨rfl, ht⟩ := hl4
      walk_at "y"
      refine rGet_t (n := 2) eD4 rfl ?_
      exact ⟨_, rfl, .str t, ⟨rfl, ht⟩, q _ s04⟩
    · obtain ⟨U, ty, e⟩ := hl4.notS (K := K) (fun t z => hs ⟨t, z⟩)
      have el : strB l = false := by
        cases l with
        | str t => exact absurd ⟨t, rfl⟩ hs
        | _ => rfl
      rw [el, Bool.false_and] at q
      refine rIsi2_1 ty e ?_
      walk_at "y"
      exact q _ s04
  | _ => cases c6
end

end L75
namespace L75
open PySem PySem.Spec PyProof.Rows L2
variable {gd : Bool}
local macro_rules | `(tactic| walk_at "y1") => `(tactic| with_reducible first
  | refine tSeq_i ?_ | refine tAsg_i ?_ | refine tCons_i ?_ | refine tNil_i ?_ | refine tC_i ?_ | refine tOp_i ?_ | refine tIfS_i ?_ | refine tTest_i ?_ | refine exBl_i ?_ | refine tRet_i ?_ | refine tCall_i ?_
  | refine tCB_i ?_ | refine tLst_i ?_ | refine tTup_i ?_ | refine rI0_i ?_ | refine tDrop_i ?_ | refine tNext_i ?_ | refine tB_i ?_ | refine tAnd_i ?_ | refine tOr_i ?_ | refine tNot_i ?_ | refine tAndV_i ?_ | refine tOrV_i ?_ | refine tNotV_i ?_
  | refine tYes_i ?_ | refine tTM_i ?_ | refine tPar_i ?_ | refine tSl_i ?_ | refine tNoPart_i ?_ | refine tPart_i ?_ | refine part_i ?_ | refine tMake_i ?_ | refine tProp_i ?_ | refine tCallOG_i ?_ | refine tVeI_i ?_ | refine tOst_i ?_ | refine tMkO_i ?_ | refine sFld_i ?_ | refine fldaug_i ?_ | refine gCons_i ?_ | refine gNil_i ?_ | refine tChain_i ?_ | refine tBM_i ?_ | refine rAdd2_i ?_ | refine rLe2_i ?_ | refine rEq2_i ?_ | refine rEq2_ss ?_ | refine rNe2_i ?_ | refine rNe2_ss ?_ | refine rIsN_i ?_ | refine rNotN_i ?_ | refine tTup_i2 ?_ | refine tIf_i ?_ | refine tUn_i ?_ | refine tDGet_i ?_ | refine sDPut_i ?_ | refine tFld_i ?_ | refine tRetN_i ?_ | refine tBreak_i ?_ | refine tCont_i ?_ | refine rU_i ?_)
local macro_rules | `(tactic| walk_at "yhead") => `(tactic| dsimp only [L2.start, List.map, List.length_cons, List.length_nil, Nat.reduceAdd, Nat.reduceSub, List.replicate, List.cons_append, List.nil_append])
local macro_rules | `(tactic| walk_at "y2") => `(tactic| first
  | walk_at "y1"
  | ((with_reducible refine tVar_i (v := ?v) ?h ?q); (case h => rfl))
  | ((with_reducible refine gName_i ?_); (dsimp only [L2.wipe, List.set]))
  | with_reducible refine iteT ?_ | with_reducible refine iteF ?_ | with_reducible refine iteNT ?_ | with_reducible refine iteNF ?_
  | ((with_reducible refine iteDT ?h ?q); (case h => first | decide +kernel | omega | assumption | exact nv1 | exact nv2 | exact nv3 | exact nv4)) | ((with_reducible refine iteDF ?h ?q); (case h => first | decide +kernel | omega | assumption | exact nv1 | exact nv2 | exact nv3 | exact nv4))
  | ((with_reducible refine iteNDT ?h ?q); (case h => first | decide +kernel | omega | assumption | exact nv1 | exact nv2 | exact nv3 | exact nv4)) | ((with_reducible refine iteNDF ?h ?q); (case h => first | decide +kernel | omega | assumption | exact nv1 | exact nv2 | exact nv3 | exact nv4))
  | ((with_reducible refine rIsi2_1 (T := ?T) (b := true) ?ty ?h ?q); (case ty => first | exact ty_str | exact ty_int | exact ty_bl | exact ty_non); (case h => decide +kernel))
  | ((with_reducible refine rIsi2_1 (T := ?T) (b := false) ?ty ?h ?q); (case ty => first | exact ty_str | exact ty_int | exact ty_bl | exact ty_non); (case h => decide +kernel))
  | ((with_reducible refine rEq2_s ?h ?q); (case h => rfl)) | ((with_reducible refine rNe2_s ?h ?q); (case h => rfl))
  | ((with_reducible refine rEq_i ?h ?q); (case h => rfl)) | ((with_reducible refine rNe_i ?h ?q); (case h => rfl)))
local macro_rules | `(tactic| walk_at "y") => `(tactic| repeat walk_at "y2")

/-! good events of any kind -/
inductive Ev where | op (n : Int) | sh (n : Int) | fa (n : Int) (k l : Str) | no (v : V) (d : PyData) | sw (s : Str) (v : V) (d : PyData)
def Ev.xs : Ev → List V
  | .op n => [.str "open", .int n] | .sh n => [.str "shut", .int n] | .fa n k l => [.str "fault", .int n, .str k, .str l] | .no v _ => [.str "note", v] | .sw s v _ => [.str "show", .str s, v]
def Ev.ds : Ev → List PyData
  | .op n => [.str "open", .int n] | .sh n => [.str "shut", .int n] | .fa n k l => [.str "fault", .int n, .str k, .str l] | .no _ d => [.str "note", d] | .sw s _ d => [.str "show", .str s, d]
def Ev.d (e : Ev) : PyData := .tuple e.ds
def Ev.isOp (e : Ev) (n : Int) : Bool := match e with | .op m => decide (m = n) | _ => false
def Ev.isSh (e : Ev) (n : Int) : Bool := match e with | .sh m => decide (m = n) | _ => false
/-- a value of an event, and its data -/
def SubR (H : Hp) (v : V) (d : PyData) : Prop := (plV v = true ∧ d = vD v ∧ PyData.canLay0 d = true) ∨ ∃ a ys, v = .ref a ∧ H a = some (.tup ys) ∧ ys.all plV = true ∧ d = .tuple (ys.map vD) ∧ PyData.canLay0 d = true
def Ev.sub (H : Hp) : Ev → Prop | .no v d => SubR H v d | .sw _ v d => SubR H v d | _ => True
def numOk (n : Int) : Prop := 0 ≤ n ∧ (n ≤ 2000000000 ∨ n = 1000000000000000000000000000000)
def strOk2 (s : Str) : Prop := PyData.canLay0 (.str s) = true
def Ev.ok : Ev → Prop | .op n => numOk n | .sh n => numOk n | .fa n k l => numOk n ∧ strOk2 k ∧ strOk2 l | .no _ _ => True | .sw s _ _ => strOk2 s
def EvR (K : PySem.W.Frag) (H : Hp) (v : V) (e : Ev) : Prop := ∃ p, v = .ref p ∧ H p = some (.tup e.xs) ∧ e.sub H ∧ ∃ its, EvAt K H v (some its) ∧ isEventB its = true
theorem SubR.same {H H' : Hp} {v : V} {d : PyData} (s : Same H H') : SubR H v d → SubR H' v d
  | .inl h => .inl h
  | .inr ⟨a, ys, h1, h2, h3⟩ => .inr ⟨a, ys, h1, s _ _ h2, h3⟩
theorem Ev.sub_same {H H' : Hp} (s : Same H H') : ∀ {e : Ev}, e.sub H → e.sub H'
  | .no _ _, h => h.same s
  | .sw _ _ _, h => h.same s
  | .op _, _ => trivial
  | .sh _, _ => trivial
  | .fa _ _ _, _ => trivial
theorem EvR.same {K : PySem.W.Frag} {H H' : Hp} {v : V} {e : Ev} (h : EvR K H v e) (s : Same H H') : EvR K H' v e := let ⟨p, a, b, c, its, d, g⟩ := h; ⟨p, a, s _ _ b, Ev.sub_same s c, its, d.same s, g⟩
/-- the log at p: a list (b true) or a tuple of these events -/
def LogAt (K : PySem.W.Frag) (b : Bool) (H : Hp) (p : Addr) (es : List Ev) : Prop := ∃ vs, H p = some (sq b vs) ∧ Paired (EvR K H) vs es ∧ (∀ e ∈ es, e.ok) ∧ es.length ≤ 40
theorem evs_same {K : PySem.W.Frag} {H H' : Hp} {vs : List V} {es : List Ev} (h : Paired (EvR K H) vs es) (s : Same H H') : Paired (EvR K H') vs es := h.mono fun _ _ h => h.same s
theorem LogAt.same {K : PySem.W.Frag} {b : Bool} {H H' : Hp} {p : Addr} {es : List Ev} (h : LogAt K b H p es) (s : Same H H') : LogAt K b H' p es := by
  obtain ⟨vs, h1, h2, h3⟩ := h
  exact ⟨vs, s _ _ h1, evs_same h2 s, h3⟩
theorem LogAt.get {K : PySem.W.Frag} {H : Hp} {vs : List V} {es : List Ev} (h2 : Paired (EvR K H) vs es) {i : Nat} {x : V} (e : vs[i]? = some x) : ∃ q ev, x = .ref q ∧ es[i]? = some ev ∧ H q = some (.tup ev.xs) ∧ ev.sub H ∧ EvR K H x ev := by
  obtain ⟨ev, e1, h⟩ := paired_of h2 e
  obtain ⟨q, e2, e3, e4, _⟩ := id h
  exact ⟨q, ev, e2, e1, e3, e4, h⟩
section
variable {K : PySem.W.Frag}
theorem SubR.dp {H : Hp} {v : V} {d : PyData} : SubR H v d → Dp K H v d
  | .inl ⟨h, e, _⟩ => by subst e; exact dp_fl h
  | .inr ⟨a, ys, e, h, f, e2, _⟩ => by subst e e2; exact dp_tup (SqT.of h) f
theorem Ev.dps {H : Hp} : ∀ {e : Ev}, e.sub H → DpAll K H e.xs e.ds
  | .no _ _, h => .cons (.str _) (.cons h.dp .nil)
  | .sw _ _ _, h => .cons (.str _) (.cons (.str _) (.cons h.dp .nil))
  | .op _, _ => .cons (.str _) (.cons (.int _) .nil)
  | .sh _, _ => .cons (.str _) (.cons (.int _) .nil)
  | .fa _ _ _, _ => .cons (.str _) (.cons (.int _) (.cons (.str _) (.cons (.str _) .nil)))
theorem Ev.dp {H : Hp} {p : Addr} {e : Ev} (h : H p = some (.tup e.xs)) (s : e.sub H) : Dp K H (.ref p) e.d := .tup (SqT.of h) (Ev.dps s)
theorem dp_evs {H : Hp} : ∀ {vs : List V} {es : List Ev}, Paired (EvR K H) vs es → DpAll K H vs (es.map Ev.d)
  | _, _, .nil => .nil
  | _, _, .cons ⟨p, e, h, s, _⟩ t => by subst e; exact .cons (Ev.dp h s) (dp_evs t)
theorem depth_vD (v : V) : (vD v).depth = 0 := by cases v <;> simp [vD, PyData.depth]
theorem depth_flat : ∀ ys : List V, PyData.depthAll (ys.map vD) = 0
  | [] => by simp [PyData.depthAll]
  | y :: ys => by simp [PyData.depthAll, depth_vD, depth_flat ys]
theorem SubR.dep {H : Hp} {v : V} {d : PyData} : SubR H v d → d.depth ≤ 1
  | .inl ⟨_, e, _⟩ => by rw [e, depth_vD]; omega
  | .inr ⟨a, ys, _, _, _, e, _⟩ => by rw [e]; simp [PyData.depth, depth_flat]
theorem SubR.lay {H : Hp} {v : V} {d : PyData} : SubR H v d → PyData.canLay0 d = true
  | .inl ⟨_, _, h⟩ => h
  | .inr ⟨_, _, _, _, _, _, h⟩ => h
theorem lay_cons {d : PyData} {ds : List PyData} (h : PyData.canLay0 d = true) (h2 : PyData.canLayAll0 ds = true) : PyData.canLayAll0 (d :: ds) = true := by simp only [PyData.canLayAll0, h, h2, Bool.and_self]
theorem Ev.layd {H : Hp} {e : Ev} (s : e.sub H) (h : e.ok) : PyData.canLayAll0 e.ds = true := by
  have t : ∀ s : Str, PyData.canLay0 (.str s) = true → PyData.canLay0 (.str s) = true := fun _ h => h
  cases e with
  | op n => exact lay_cons (by decide +kernel) (lay_cons rfl rfl)
  | sh n => exact lay_cons (by decide +kernel) (lay_cons rfl rfl)
  | fa n k l => exact lay_cons (by decide +kernel) (lay_cons rfl (lay_cons h.2.1 (lay_cons h.2.2 rfl)))
  | no v d => exact lay_cons (by decide +kernel) (lay_cons (SubR.lay s) rfl)
  | sw z v d => exact lay_cons (by decide +kernel) (lay_cons h (lay_cons (SubR.lay s) rfl))
theorem Ev.depd {H : Hp} {e : Ev} (s : e.sub H) : PyData.depthAll e.ds ≤ 1 := by
  cases e with
  | op n => simp [Ev.ds, PyData.depthAll, PyData.depth]
  | sh n => simp [Ev.ds, PyData.depthAll, PyData.depth]
  | fa n k l => simp [Ev.ds, PyData.depthAll, PyData.depth]
  | no v d => have := SubR.dep s; simp [Ev.ds, PyData.depthAll, PyData.depth]; exact this
  | sw z v d => have := SubR.dep s; simp [Ev.ds, PyData.depthAll, PyData.depth]; exact this
theorem Ev.shaped {H : Hp} {e : Ev} (s : e.sub H) (h : e.ok) : SeqAt.shaped e.d = true := by
  unfold SeqAt.shaped
  rw [show PyData.canLay0 e.d = true by simpa only [Ev.d, PyData.canLay0] using Ev.layd s h, Bool.true_and]
  refine decide_eq_true ?_
  have := Ev.depd s
  simp only [Ev.d, PyData.depth]
  omega
end
theorem ev_eqo {e : Ev} {n : Int} : PyData.eqv e.d (.tuple (([.str "open", .int n] : List V).map vD)) = e.isOp n := by
  cases e <;> simp only [Ev.d, Ev.ds, Ev.isOp, List.map_cons, List.map_nil, vD, PyData.eqv, PyData.eqvAll, str_beq]
  all_goals first
    | (rw [show decide (Str.ofString "note" = Str.ofString "open") = false by decide +kernel]; simp)
    | (rw [show decide (Str.ofString "shut" = Str.ofString "open") = false by decide +kernel]; simp)
    | (rw [show decide (Str.ofString "fault" = Str.ofString "open") = false by decide +kernel]; simp)
    | (rw [show decide (Str.ofString "show" = Str.ofString "open") = false by decide +kernel]; simp)
    | simp [Bool.beq_eq_decide_eq]
theorem ev_eqs {e : Ev} {n : Int} : PyData.eqv e.d (.tuple (([.str "shut", .int n] : List V).map vD)) = e.isSh n := by
  cases e <;> simp only [Ev.d, Ev.ds, Ev.isSh, List.map_cons, List.map_nil, vD, PyData.eqv, PyData.eqvAll, str_beq]
  all_goals first
    | (rw [show decide (Str.ofString "note" = Str.ofString "shut") = false by decide +kernel]; simp)
    | (rw [show decide (Str.ofString "open" = Str.ofString "shut") = false by decide +kernel]; simp)
    | (rw [show decide (Str.ofString "fault" = Str.ofString "shut") = false by decide +kernel]; simp)
    | (rw [show decide (Str.ofString "show" = Str.ofString "shut") = false by decide +kernel]; simp)
    | simp [Bool.beq_eq_decide_eq]
/-! a log that check_log refuses, and why -/
def BadL (K : PySem.W.Frag) (H : Hp) (x : V) (iv : V) : Prop := (∃ b p vs es, ∃ i : Nat, x = .ref p ∧ H p = some (sq b vs) ∧ Paired (EvAt K H) vs es ∧ firstBad es 0 = some i ∧ iv = .int i) ∨ (∃ it : Itm, it.At H x ∧ (∀ xs, it ≠ .tu xs) ∧ (∀ xs, it ≠ .ls xs) ∧ iv = .non)
/-- what each function with a log does with one that is refused -/
def BadC (K : PySem.W.Frag) (H : Hp) (x : V) (E : XK) : Prop := ∃ iv, BadL K H x iv ∧ RaiseX K "BadLog" "index" iv H E
theorem BadC.check {K : PySem.W.Frag} {H : Hp} {x : V} {Q : VK} {E : XK} (h : BadC K H x E) : spCheck K ([x] ++ []) H Q E := by
  obtain ⟨iv, h, r⟩ := h
  rcases h with ⟨b, p, vs, es, i, h1, h2, h3, h4, rfl⟩ | ⟨it, h1, h2, h3, rfl⟩
  · exact ⟨_, rfl, .inl ⟨b, p, vs, es, h1, h2, h3, .inr ⟨i, h4, r⟩⟩⟩
  · exact ⟨_, rfl, .inr ⟨it, h1, h2, h3, r⟩⟩
/-- an item of a good event, off its items -/
theorem FlatOk.pl {v : V} (h : FlatOk v) : plV v = true := by cases v <;> first | rfl | exact h.elim
def IntIn : Itm → Prop | .int i => i ≤ 2000000000 ∨ i = 1000000000000000000000000000000 | _ => True
theorem lay_all {s : Str} (h : ∀ c ∈ s.cps.toList, c < 1114112) : strOk2 s := by
  have : PyData.strOk s = true := by
    unfold PyData.strOk
    rw [Array.all_eq_true']
    intro c hc
    exact decide_eq_true (h c (Array.mem_toList_iff.mpr hc))
  show PyData.canLay0 (.str s) = true
  simpa only [PyData.canLay0] using this
theorem label_lay {s : Str} (h : isLabelB s = true) : strOk2 s := by
  unfold isLabelB at h
  obtain ⟨_, h⟩ := He.ba h
  refine lay_all fun c hc => ?_
  have h2 := List.all_eq_true.mp h c hc
  unfold isLabelC at h2
  obtain ⟨_, h2⟩ := He.ba h2
  obtain ⟨h2, _⟩ := He.ba h2
  have := of_decide_eq_true h2
  omega
theorem name_lay {s : Str} (h : isNameB s = true) : strOk2 s := by
  unfold isNameB at h
  obtain ⟨_, h⟩ := He.ba h
  obtain ⟨_, h⟩ := He.ba h
  refine lay_all fun c hc => ?_
  have h2 := List.all_eq_true.mp h c hc
  unfold isNameC at h2
  obtain ⟨_, h2⟩ := He.ba h2
  have := of_decide_eq_true h2
  omega
theorem kind_lay {s : Str} (h : isKindB s = true) : strOk2 s := by
  unfold isKindB at h
  obtain ⟨_, h⟩ := He.ba h
  obtain ⟨_, h⟩ := He.ba h
  obtain ⟨_, h⟩ := He.ba h
  refine lay_all fun c hc => ?_
  have h2 := List.all_eq_true.mp h c hc
  unfold isLetterB at h2
  simp only [Bool.or_eq_true, Bool.and_eq_true, decide_eq_true_eq] at h2
  omega
theorem num_i {H : Hp} {v : V} {it : Itm} (h : it.At H v) (g : numB it = true) (hi : IntIn it) : ∃ n, v = .int n ∧ it = .int n ∧ numOk n := by
  cases it with
  | int i => exact ⟨i, h, rfl, of_decide_eq_true g, hi⟩
  | _ => cases g
theorem plain_sub {H : Hp} {v : V} {it : Itm} (h : it.At H v) (g : plainB it = true) : ∃ d, SubR H v d := by
  cases it with
  | non => exact ⟨.none, .inl (by cases (show v = .non from h); exact ⟨rfl, rfl, rfl⟩)⟩
  | bl b => exact ⟨.bool b, .inl (by cases (show v = .bl b from h); exact ⟨rfl, rfl, by simp [PyData.canLay0]⟩)⟩
  | int i => exact ⟨.int i, .inl (by cases (show v = .int i from h); exact ⟨rfl, rfl, by simp [PyData.canLay0]⟩)⟩
  | str s => exact ⟨.str s, .inl (by obtain ⟨rfl, _⟩ := h; exact ⟨rfl, rfl, label_lay g⟩)⟩
  | _ => cases g
theorem inV_two {x : V} {a b : Str} (h : inV x [.str a, .str b] = true) : x = .str a ∨ x = .str b := by
  unfold inV at h
  simp only [List.any_cons, List.any_nil, Bool.or_false, Bool.or_eq_true] at h
  cases x with
  | str s =>
    rcases h with h | h
    · exact .inl (congrArg V.str (of_decide_eq_true h).symm)
    · exact .inr (congrArg V.str (of_decide_eq_true h).symm)
  | _ => rcases h with h | h <;> cases h
theorem shown_sub {H : Hp} {v : V} {it : Itm} (h : it.At H v) (g : shownB it = true) : ∃ d, SubR H v d := by
  by_cases ht : ∃ xs, it = .tu xs
  · obtain ⟨xs, rfl⟩ := ht
    obtain ⟨a, rfl, k⟩ := h
    match xs, g, k with
    | [x, y], g, k =>
      have g2 : (wordB [.str "fault", .str "stack"] (vItm x) && numB (vItm y)) = true := g
      obtain ⟨g1, g2⟩ := He.ba g2
      have hx : x = .str "fault" ∨ x = .str "stack" := by
        cases x with
        | str s => exact inV_two g1
        | _ => cases g1
      have hy : ∃ n, y = .int n := by
        cases y with
        | int n => exact ⟨n, rfl⟩
        | _ => cases g2
      obtain ⟨n, rfl⟩ := hy
      refine ⟨_, .inr ⟨a, _, rfl, k, ?_, rfl, ?_⟩⟩
      · rcases hx with rfl | rfl <;> rfl
      · rcases hx with rfl | rfl
        · show PyData.canLayAll0 [.str "fault", .int n] = true
          exact lay_cons (by decide +kernel) (lay_cons rfl rfl)
        · show PyData.canLayAll0 [.str "stack", .int n] = true
          exact lay_cons (by decide +kernel) (lay_cons rfl rfl)
  · refine plain_sub h ?_
    cases it with
    | tu xs => exact absurd ⟨xs, rfl⟩ ht
    | _ => exact g
theorem ev_of {K : PySem.W.Frag} {H : Hp} {v : V} {its : List Itm} (h : EvAt K H v (some its)) (g : isEventB its = true) (hi : ∀ it ∈ its, IntIn it) : ∃ e, EvR K H v e ∧ e.ok := by
  have tl : ∃ its, EvAt K H v (some its) ∧ isEventB its = true := ⟨its, h, g⟩
  obtain ⟨p, vs, rfl, hp, pr, ok, hl⟩ := h
  cases pr with
  | nil => cases g
  | @cons v0 it0 vs its h0 pr =>
  cases it0 with
  | str wd =>
    obtain ⟨rfl, _⟩ := h0
    rw [evB] at g
    have okI : ∀ it ∈ its, IntIn it := fun it h => hi it (List.mem_cons_of_mem _ h)
    by_cases c1 : wd = Str.ofString "note"
    · rw [if_pos c1] at g
      subst c1
      match its, vs, pr, g, hp with
      | [i1], [v1], .cons h1 .nil, g, hp =>
        obtain ⟨d, s⟩ := plain_sub h1 g
        exact ⟨.no v1 d, ⟨p, rfl, hp, s, tl⟩, trivial⟩
    rw [if_neg c1] at g
    by_cases c2 : wd = Str.ofString "show"
    · rw [if_pos c2] at g
      subst c2
      match its, vs, pr, g, hp with
      | [i1, i2], [v1, v2], .cons h1 (.cons h2 .nil), g, hp =>
        obtain ⟨g1, g2⟩ := He.ba (show (nameB i1 && shownB i2) = true from g)
        cases i1 with
        | str s =>
          obtain ⟨rfl, _⟩ := h1
          obtain ⟨d, z⟩ := shown_sub h2 g2
          exact ⟨.sw s v2 d, ⟨p, rfl, hp, z, tl⟩, name_lay g1⟩
        | _ => cases g1
    rw [if_neg c2] at g
    by_cases c3 : wd = Str.ofString "fault"
    · rw [if_pos c3] at g
      subst c3
      match its, vs, pr, g, hp, okI with
      | [i1, i2, i3], [v1, v2, v3], .cons h1 (.cons h2 (.cons h3 .nil)), g, hp, okI =>
        obtain ⟨g1, g2⟩ := He.ba (show (numB i1 && (kindB i2 && labelB i3)) = true from g)
        obtain ⟨gk, g3⟩ := He.ba g2
        obtain ⟨n, rfl, rfl, hn⟩ := num_i h1 g1 (okI _ (List.mem_cons_self ..))
        cases i2 with
        | str k =>
          cases i3 with
          | str l =>
            obtain ⟨rfl, _⟩ := h2
            obtain ⟨rfl, _⟩ := h3
            exact ⟨.fa n k l, ⟨p, rfl, hp, trivial, tl⟩, hn, kind_lay gk, label_lay g3⟩
          | _ => cases g3
        | _ => cases gk
    rw [if_neg c3] at g
    obtain ⟨g0, g⟩ := He.ba g
    match its, vs, pr, g, hp, okI with
    | [i1], [v1], .cons h1 .nil, g, hp, okI =>
      obtain ⟨n, rfl, rfl, hn⟩ := num_i h1 g (okI _ (List.mem_cons_self ..))
      rcases inV_two g0 with e | e
      · cases e
        exact ⟨.op n, ⟨p, rfl, hp, trivial, tl⟩, hn⟩
      · cases e
        exact ⟨.sh n, ⟨p, rfl, hp, trivial, tl⟩, hn⟩
  | _ => cases g
theorem evs_of {K : PySem.W.Frag} {H : Hp} : ∀ {vs : List V} {os : List (Option (List Itm))} {n : Nat}, Paired (EvAt K H) vs os → firstBad os n = none → (∀ its, some its ∈ os → ∀ it ∈ its, IntIn it) → ∃ es, Paired (EvR K H) vs es ∧ (∀ e ∈ es, e.ok) ∧ es.length = vs.length
  | _, _, _, .nil, _, _ => ⟨[], .nil, (fun _ h => nomatch h), rfl⟩
  | v :: vs, o :: os, n, .cons h t, f, hi => by
    have f2 : (if evGood o = true then firstBad os (n + 1) else some n) = none := f
    by_cases g : evGood o = true
    · rw [if_pos g] at f2
      obtain ⟨es, h1, h2, h3⟩ := evs_of t f2 fun its h => hi its (List.mem_cons_of_mem _ h)
      cases o with
      | none => cases g
      | some its =>
        obtain ⟨e, he, hk⟩ := ev_of h g (hi its (List.mem_cons_self ..))
        refine ⟨e :: es, .cons he h1, fun x hx => ?_, by simp [h3]⟩
        rcases List.mem_cons.mp hx with rfl | hx
        · exact hk
        · exact h2 x hx
    · rw [if_neg g] at f2; cases f2
theorem log_of {K : PySem.W.Frag} {H : Hp} {b : Bool} {p : Addr} {vs : List V} {os : List (Option (List Itm))} (h : H p = some (sq b vs)) (pr : Paired (EvAt K H) vs os) (f : firstBad os 0 = none) (hi : ∀ its, some its ∈ os → ∀ it ∈ its, IntIn it) (hl : vs.length ≤ 40) : ∃ es, LogAt K b H p es := by
  obtain ⟨es, h1, h2, h3⟩ := evs_of pr f hi
  exact ⟨es, vs, h, h1, h2, by omega⟩
theorem firstBad_all : ∀ {os : List (Option (List Itm))} {n : Nat}, firstBad os n = none → ∀ x ∈ os, evGood x = true
  | [], _, _, _, h => nomatch h
  | o :: os, n, f, x, h => by
    have f2 : (if evGood o = true then firstBad os (n + 1) else some n) = none := f
    by_cases g : evGood o = true
    · rw [if_pos g] at f2
      rcases List.mem_cons.mp h with rfl | h
      · exact g
      · exact firstBad_all f2 x h
    · rw [if_neg g] at f2; cases f2

theorem all_firstBad : ∀ {os : List (Option (List Itm))} {n : Nat}, (∀ x ∈ os, evGood x = true) → firstBad os n = none := fun {os n} h => firstBad_none os n h
theorem evAts {K : PySem.W.Frag} {H : Hp} : ∀ {vs : List V} {es : List Ev}, Paired (EvR K H) vs es → ∃ os, Paired (EvAt K H) vs os ∧ ∀ x ∈ os, evGood x = true
  | _, _, .nil => ⟨[], .nil, fun _ h => nomatch h⟩
  | _, _, .cons ⟨p, e, h, s, its, a, g⟩ t => by
    obtain ⟨os, h1, h2⟩ := evAts t
    refine ⟨some its :: os, .cons a h1, fun x hx => ?_⟩
    rcases List.mem_cons.mp hx with rfl | hx
    · exact g
    · exact h2 x hx
theorem LogAt.check {K : PySem.W.Frag} {H : Hp} {b : Bool} {p : Addr} {es : List Ev} {Q : VK} {E : XK} (h : LogAt K b H p es) (q : ∀ H', Same H H' → Q .non H') : spCheck K ([V.ref p] ++ []) H Q E := by
  obtain ⟨vs, h1, h2, ok, hl⟩ := h
  obtain ⟨os, h3, h4⟩ := evAts h2
  exact ⟨_, rfl, .inl ⟨b, p, vs, os, rfl, h1, h3, .inl ⟨firstBad_none os 0 h4, q⟩⟩⟩
theorem EvR.event {K : PySem.W.Frag} {H : Hp} {v : V} {e : Ev} {C : VK} {E : XK} (h : EvR K H v e) (q : ∀ H', Same H H' → C (.bl true) H') : spEvent K ([v] ++ []) H C E := by
  obtain ⟨p, _, _, _, its, a, g⟩ := h
  refine event_i a fun H' s => ?_
  rw [show evGood (some its) = true from g]
  exact q H' s

end L75
namespace L75
open PySem PySem.Spec PyProof.Rows L2
variable {gd : Bool}
local macro_rules | `(tactic| walk_at "y1") => `(tactic| with_reducible first
  | refine tSeq_i ?_ | refine tAsg_i ?_ | refine tCons_i ?_ | refine tNil_i ?_ | refine tC_i ?_ | refine tOp_i ?_ | refine tIfS_i ?_ | refine tTest_i ?_ | refine exBl_i ?_ | refine tRet_i ?_ | refine tCall_i ?_
  | refine tCB_i ?_ | refine tLst_i ?_ | refine tTup_i ?_ | refine rI0_i ?_ | refine tDrop_i ?_ | refine tNext_i ?_ | refine tB_i ?_ | refine tAnd_i ?_ | refine tOr_i ?_ | refine tNot_i ?_ | refine tAndV_i ?_ | refine tOrV_i ?_ | refine tNotV_i ?_
  | refine tIf_i ?_ | refine tUn_i ?_ | refine tDGet_i ?_ | refine sDPut_i ?_ | refine tFld_i ?_ | refine tRetN_i ?_ | refine tBreak_i ?_ | refine tCont_i ?_ | refine rU_i ?_)
local macro_rules | `(tactic| walk_at "yhead") => `(tactic| dsimp only [L2.start, List.map, List.length_cons, List.length_nil, Nat.reduceAdd, Nat.reduceSub, List.replicate, List.cons_append, List.nil_append])
local macro_rules | `(tactic| walk_at "y2") => `(tactic| first
  | walk_at "y1"
  | ((with_reducible refine tVar_i (v := ?v) ?h ?q); (case h => rfl))
  | ((with_reducible refine gName_i ?_); (dsimp only [List.set]))
  | ((with_reducible refine rEq_i ?h ?q); (case h => rfl)) | ((with_reducible refine rNe_i ?h ?q); (case h => rfl)))
local macro_rules | `(tactic| walk_at "y") => `(tactic| repeat walk_at "y2")

section
variable {P : Program} {w : World} {K : PySem.W.Frag} {mg : Str → Option Value} {base : Heap}
theorem FnG.quiet {n : Nat} {f : Addr} {fd : FuncData} {ps : List Str} {sp : Sp} (F : FnG gd P w K mg base (CX P w) n f fd ps sp) : FnG gd P w K mg base CX0 n f fd ps (fun vs H Q _ => sp vs H Q fun _ _ _ => False) :=
  ⟨fun vs H Q E q => F.len _ _ _ _ q, fun A out st H ag us vs Q E z he hb hv q => codeAny_mono (F.run A out st H ag us vs Q _ z he hb hv q) fun r sz h => by
    cases r with
    | ok fl => cases fl <;> exact h
    | error e => exact (let ⟨_, _, _, _, _, _, _, _, _, _, _, _, q⟩ := h; False.elim q)⟩
/-- a property of the class named c -/
structure Prp (gd : Bool) (P : Program) (w : World) (K : PySem.W.Frag) (mg : Str → Option Value) (base : Heap) (k : Nat) (c f : Str) (sp : Sp) : Prop where
  ex : ∃ (p g : Addr) (fd : FuncData) (ps : List Str), Cls K (He.ga K c) ∧ PropOf K (He.ga K c) f p g ∧ FnG gd P w K mg base CX0 k g fd ps sp ∧ Binds K fd ps []
theorem pe_prK {X : Cx} {k j : Nat} {c f : Str} {sp : Sp} {e : Expr} {ta : TE} {pos : Pos} (hK : X.K = K) (m : Prp gd X.prog X.w K X.mg X.base k c f sp) (z : RG gd j X.A) (he : PE X e ta) (hk : k + 1 ≤ j := by decide)
    (hab : attributeBase e f X.env (eval e X.env) = eval e X.env := by rfl) : PE X (.Attribute e f pos) (tProp (He.ga K c) sp [] E0 ta) := by
  subst hK
  obtain ⟨p, g, fd, ps, cl, hp, F, b⟩ := m.ex
  exact pe_propG he cl hp F (z.mono hk) b .nil pass0 hab
theorem Sy.prp (T : Sy K mg) (n : Nat) {c f q : Str} {i j : Nat} {N ps : List Str} {k : Nat} {sp : Sp} (h : pr[n]? = some ⟨c, f, dM c f q i j⟩)
    (S : FnScope N ps (defScope (inClass (top i) j))) (len : ∀ vs H Q E, sp vs H Q E → vs.length = ps.length)
    (hbody : ∀ (cdv : Value) (g : Addr) (A : Around) (outer : List Env) (s : Shared) (H : Hp) (vs : List V) (Q : VK) (E : XK), RG gd k (A.deeper (envOfC q (defScope (inClass (top i) j)) s.heap.objs.size g cdv)) → sp vs H Q E →
      ∃ t, PSs (cxOf CX0 P w K mg base N q (defScope (inClass (top i) j)) g cdv A outer s H E).nox (defBody (inClass (top i) j)) t ∧ t { nx := fun _ H' => Q .non H', rt := Q } (start N vs) H)
    (hb : ∀ (kV doc pm : Value) (an : Option Addr) (cdv ct : Value) (us : List Value), us.length = ps.length → bindArgs (PySem.W.fnOf f q (defArgs (inClass (top i) j)) (defBody (inClass (top i) j)) (defScope (inClass (top i) j)) .none kV doc pm an cdv ct) ⟨us, []⟩ = pure (ps.zip us))
    (hc : fa.any (isCls c) = true := by decide +kernel) : Prp gd P w K mg base (k + 1) c f sp := by
  obtain ⟨hp, fd, F⟩ := T.p n _ h
  refine ⟨_, _, fd, ps, T.cls c hc, hp, FnG.body F S len fun cdv A outer s H vs Q E hr h => ?_, F.bindsN hb⟩
  obtain ⟨t, h1, h2⟩ := hbody cdv _ A outer s H vs Q E hr h
  exact ⟨t, h1.nox, h2⟩
end

end L75
namespace L75
open PySem PySem.Spec PyProof.Rows L2
variable {gd : Bool}
local macro_rules | `(tactic| walk_at "y1") => `(tactic| with_reducible first
  | refine tSeq_i ?_ | refine tAsg_i ?_ | refine tCons_i ?_ | refine tNil_i ?_ | refine tC_i ?_ | refine tOp_i ?_ | refine tIfS_i ?_ | refine tTest_i ?_ | refine exBl_i ?_ | refine tRet_i ?_ | refine tCall_i ?_
  | refine tCB_i ?_ | refine tLst_i ?_ | refine tTup_i ?_ | refine rI0_i ?_ | refine tDrop_i ?_ | refine tNext_i ?_ | refine tB_i ?_ | refine tAnd_i ?_ | refine tOr_i ?_ | refine tNot_i ?_ | refine tAndV_i ?_ | refine tOrV_i ?_ | refine tNotV_i ?_
  | refine tYes_i ?_ | refine tTM_i ?_ | refine tPar_i ?_ | refine tSl_i ?_ | refine tNoPart_i ?_ | refine tPart_i ?_ | refine part_i ?_ | refine tMake_i ?_ | refine tProp_i ?_ | refine tCallOG_i ?_ | refine tVeI_i ?_ | refine tOst_i ?_ | refine tMkO_i ?_ | refine sFld_i ?_ | refine fldaug_i ?_ | refine gCons_i ?_ | refine gNil_i ?_ | refine tChain_i ?_ | refine tBM_i ?_ | refine rAdd2_i ?_ | refine rLe2_i ?_ | refine rEq2_i ?_ | refine rEq2_ss ?_ | refine rNe2_i ?_ | refine rNe2_ss ?_ | refine rIsN_i ?_ | refine rNotN_i ?_ | refine tTup_i2 ?_ | refine tIf_i ?_ | refine tUn_i ?_ | refine tDGet_i ?_ | refine sDPut_i ?_ | refine tFld_i ?_ | refine tRetN_i ?_ | refine tBreak_i ?_ | refine tCont_i ?_ | refine rU_i ?_)
local macro_rules | `(tactic| walk_at "yhead") => `(tactic| dsimp only [L2.start, List.map, List.length_cons, List.length_nil, Nat.reduceAdd, Nat.reduceSub, List.replicate, List.cons_append, List.nil_append])
local macro_rules | `(tactic| walk_at "y2") => `(tactic| first
  | walk_at "y1"
  | ((with_reducible refine tVar_i (v := ?v) ?h ?q); (case h => rfl))
  | ((with_reducible refine gName_i ?_); (dsimp only [L2.wipe, List.set]))
  | with_reducible refine iteT ?_ | with_reducible refine iteF ?_ | with_reducible refine iteNT ?_ | with_reducible refine iteNF ?_
  | ((with_reducible refine iteDT ?h ?q); (case h => first | decide +kernel | omega | assumption | exact nv1 | exact nv2 | exact nv3 | exact nv4)) | ((with_reducible refine iteDF ?h ?q); (case h => first | decide +kernel | omega | assumption | exact nv1 | exact nv2 | exact nv3 | exact nv4))
  | ((with_reducible refine iteNDT ?h ?q); (case h => first | decide +kernel | omega | assumption | exact nv1 | exact nv2 | exact nv3 | exact nv4)) | ((with_reducible refine iteNDF ?h ?q); (case h => first | decide +kernel | omega | assumption | exact nv1 | exact nv2 | exact nv3 | exact nv4))
  | ((with_reducible refine rIsi2_1 (T := ?T) (b := true) ?ty ?h ?q); (case ty => first | exact ty_str | exact ty_int | exact ty_bl | exact ty_non); (case h => decide +kernel))
  | ((with_reducible refine rIsi2_1 (T := ?T) (b := false) ?ty ?h ?q); (case ty => first | exact ty_str | exact ty_int | exact ty_bl | exact ty_non); (case h => decide +kernel))
  | ((with_reducible refine rEq2_s ?h ?q); (case h => rfl)) | ((with_reducible refine rNe2_s ?h ?q); (case h => rfl))
  | ((with_reducible refine rEq_i ?h ?q); (case h => rfl)) | ((with_reducible refine rNe_i ?h ?q); (case h => rfl)))
local macro_rules | `(tactic| walk_at "y") => `(tactic| repeat walk_at "y2")

section
variable {P : Program} {w : World} {K : PySem.W.Frag} {mg : Str → Option Value} {base : Heap}
def WSt.step (s : WSt) : Ev → WSt
  | .fa _ _ _ => { s with seen := s.seen + 1, made := s.made + 1 }
  | .op n => { s with seen := s.seen + 1, opened := s.opened + 1, opn := if n ∈ s.opn then s.opn else s.opn ++ [n], most := max s.most ((if n ∈ s.opn then s.opn else s.opn ++ [n]).length : Nat) }
  | .sh n => { s with seen := s.seen + 1, opn := s.opn.filter fun m => decide (m ≠ n) }
  | _ => { s with seen := s.seen + 1 }
def WSt.ret (s : WSt) : Ev → Bool
  | .fa n _ _ => decide (n = s.made) | .op n => decide (n = s.opened) | .sh n => decide (n ∈ s.opn) | _ => true
def spWQ (K : PySem.W.Frag) : Sp := sp2 fun xv ev H Q _ => ∃ x dx l st, xv = .ref x ∧ WAt K H x dx l st ∧ st.opn.length ≤ 100 ∧
  ∃ p e, ev = .ref p ∧ EvR K H (.ref p) e ∧ e.ok ∧ ∀ l' H', (l' = l ∨ H l' = none) → (∀ b o, H b = some o → b ≠ x → b ≠ l → H' b = some o) → WAt K H' x dx l' (st.step e) → Q (.bl (st.ret e)) H'
theorem sc_Watcher___call__ : FnScope ["self", "event", "word", "number", "rest", "was_open", "entry"] ["self", "event"] (defScope (inClass (top 29) 1)) := ⟨rfl, rfl, rfl, by decide +kernel, rfl, by decide +kernel, by decide +kernel⟩
theorem qt {X : Cx} {b : List Stmt} {p : TS → Prop} (h : ∃ t, PSs X.nox b t ∧ p t) : ∃ t, PSs X b t ∧ p t := by
  obtain ⟨t, h1, h2⟩ := h
  exact ⟨t, h1.nox, h2⟩
theorem f_call (T : Sy K mg) : ∃ fd, FnG gd P w K mg base CX0 7 (He.ma K (He.ga K "Watcher") "__call__") fd ["self", "event"] (spWQ K) ∧ Binds K fd ["self", "event"] [] ∧ KBn K fd ["self", "event"] 1 ["event"] (fun us ws => us ++ ws) (fun vs zs => vs ++ zs) := by
  obtain ⟨fd, F⟩ := F_Watcher___call__ T
  refine ⟨fd, FnG.body F sc_Watcher___call__ sp2_len fun cdv A out s H vs Q E z h => qt ?_, F.bindsN (fun _ _ _ _ _ _ us hl => match us, hl with | [_, _], _ => rfl), FunD.kbN F 1 ["event"] (fun us ws => us ++ ws) (fun h1 h2 => h1.append h2) (fun _ _ _ _ _ _ us ws l1 l2 => match us, l1, ws, l2 with | [_], _, [_], _ => rfl)⟩
  have hu1 := hu_1 z; have hu2 := hu_2 z; have hu3 := hu_3 z
  obtain ⟨_, ev, rfl, x, dx, l, st, rfl, ⟨hx, hl⟩, hol, p, e, rfl, er, ok, q⟩ := h
  obtain ⟨_, ep, hp, _⟩ := id er
  cases ep
  have cl := T.cls "Watcher"
  refine ⟨_, (pss_cons (ps_if (pt_not (pt_val (pe_c (c_is_event T) z (pa_cons (pv 1) pa_nil)))) (pss_one ps_never) pss_nil) (pss_cons (ps_fldaugK (K := K) rfl (pv 0) pe_int) (pss_cons (ps_asg (pv 1) (pg_starK (K := K) (n := 3) (i := 2) rfl (by rfl) (pgs_cons (pg_name (i := 2) sc_Watcher___call__.nd rfl (by first | exact Or.inl rfl | exact Or.inr rfl)) (pgs_cons (pg_name (i := 3) sc_Watcher___call__.nd rfl (by first | exact Or.inl rfl | exact Or.inr rfl)) (pgs_star (pg_name (i := 4) sc_Watcher___call__.nd rfl (by first | exact Or.inl rfl | exact Or.inr rfl)) pgs_nil))) rfl rfl (by decide))) (pss_cons (ps_if (pt_cmpR (r := rEq2 K) (op_eq2 hu1) (pv 2) pe_str (nomark _)) (pss_cons (ps_fldaugK (K := K) rfl (pv 0) pe_int) (pss_one (ps_ret (pe_cmpR (r := rEq2 K) (op_eq2 hu1) (pv 3) (pe_op op_sub (pe_fldK (K := K) rfl (pv 0)) pe_int) (nomark _))))) pss_nil) (pss_cons (ps_if (pt_cmpR (r := rEq2 K) (op_eq2 hu1) (pv 2) pe_str (nomark _)) (pss_cons (ps_fldaugK (K := K) rfl (pv 0) pe_int) (pss_cons (ps_if (pt_cmpR (r := rNotIn2 K) (op_notIn2 hu2) (pv 3) (pe_fldK (K := K) rfl (pv 0)) rfl) (pss_one (ps_expr (pe_bmK (K := K) rfl PySem.F.plainAttrs_list PySem.F.slot_list_append PySem.F.type_list_append mt_append2 (pe_fldK (K := K) rfl (pv 0)) (pa_cons (pv 3) pa_nil)))) pss_nil) (pss_cons (ps_fldK (K := K) rfl (pv 0) (pe_callB (call_max2 rfl) (by rfl) (T.free "max") (by decide +kernel) (pa_cons (pe_fldK (K := K) rfl (pv 0)) (pa_cons (pe_callB (r := rLen2 K) call_len2 (by rfl) (T.free "len") (by decide +kernel) (pa_cons (pe_fldK (K := K) rfl (pv 0)) pa_nil)) pa_nil)))) (pss_one (ps_ret (pe_cmpR (r := rEq2 K) (op_eq2 hu1) (pv 3) (pe_op op_sub (pe_fldK (K := K) rfl (pv 0)) pe_int) (nomark _))))))) pss_nil) (pss_cons (ps_if (pt_cmpR (r := rEq2 K) (op_eq2 hu1) (pv 2) pe_str (nomark _)) (pss_cons (ps_set (i := 5) sc_Watcher___call__.nd rfl (by first | exact Or.inl rfl | exact Or.inr rfl) (pe_cmpR (r := rIn2 K) (op_in2 hu2) (pv 3) (pe_fldK (K := K) rfl (pv 0)) rfl)) (pss_cons (ps_fldK (K := K) rfl (pv 0) (pe_lc (own := [("entry", 6)]) (g := gName 6) (by rfl) sc_Watcher___call__.nd (pi_anyK (K := K) rfl (pe_fldK (K := K) rfl (pv 0))) (blkOk_by (own := [("entry", 6)]) (N := ["self", "event", "word", "number", "rest", "was_open", "entry"]) (sc := (defScope (inClass (top 29) 1))) (by decide +kernel)) (fun _ _ _ _ _ => (pg_name (i := 6) sc_Watcher___call__.nd rfl (by first | exact Or.inl rfl | exact Or.inr rfl))) (fun _ _ _ _ _ => pts_one (pt_cmpR (r := rNe2 K) (op_ne2 hu1) (pv 6) (pv 3) (nomark _))) (fun _ _ _ _ _ => (pv 6)))) (pss_one (ps_ret (pv 5))))) pss_nil) (pss_one (ps_ret pe_bl)))))))), ?_⟩
  · walk_at "yhead"; walk_at "y"
    refine er.event fun H1 s1 => ?_
    walk_at "y"
    have hx1 := s1 _ _ hx
    have hl1 := s1 _ _ hl
    have nxl : x ≠ l := ne_of hx hl (by intro z; cases z)
    have nxp : p ≠ x := ne_of hp hx (by intro z; cases z)
    have npl : p ≠ l := ne_of hp hl (by intro z; cases z)
    refine faugU_i (k := st.seen) (fs' := ({ st with seen := st.seen + 1 } : WSt).fs l) hx1 cl (T.noat "Watcher" "s7_seen") (ltB (by kernel_rfl)) (by kernel_rfl) (by kernel_rfl) fun H2 hx2 u2 => ?_
    walk_at "y"
    have hl2 := (u2 l (Ne.symm nxl)).trans hl1
    have hp2 := (u2 p nxp).trans (s1 _ _ hp)
    have off2 : ∀ b o, H b = some o → b ≠ x → H2 b = some o := fun b o e n => (u2 b n).trans (s1 _ _ e)
    cases e with
    | op n =>
      refine gStar_3U (SqT.of hp2) fun d H3 hd hd3 s3 => ?_
      walk_at "y"
      refine faugU_i (k := st.opened) (fs' := ({ st with seen := st.seen + 1, opened := st.opened + 1 } : WSt).fs l) (s3 _ _ hx2) cl (T.noat "Watcher" "s7_opened") (ltB (by kernel_rfl)) (by kernel_rfl) (by kernel_rfl) fun H4 hx4 u4 => ?_
      walk_at "y"
      have hl4 := (u4 l (Ne.symm nxl)).trans (s3 _ _ hl2)
      have off4 : ∀ b o, H b = some o → b ≠ x → H4 b = some o := fun b o e n => (u4 b n).trans (s3 _ _ (off2 b o e n))
      refine fld_j (v := .ref l) hx4 cl (T.noat "Watcher" "s7_open") (by kernel_rfl) ?_
      refine rNotIn2_f (b := true) (SqL.of hl4) rfl (flat_ints _) ?_
      rw [inV_ints]
      by_cases c : n ∈ st.opn
      · walk_at "y"
        refine fld_j (v := .int st.most) hx4 cl (T.noat "Watcher" "s7_most") (by kernel_rfl) ?_
        walk_at "y"
        refine fld_j (v := .ref l) hx4 cl (T.noat "Watcher" "s7_open") (by kernel_rfl) ?_
        walk_at "y"
        refine rLen2_l (SqL.of hl4) ?_ (List.length_map ..)
        refine ⟨_, _, rfl, ?_⟩
        walk_at "y"
        refine fstU_i (fs' := (WSt.step st (.op n)).fs l) hx4 cl (T.noat "Watcher" "s7_most") (ltB (by kernel_rfl)) (?_) fun H6 hx6 u6 => ?_
        · rw [show WSt.step st (.op n) = ⟨st.seen + 1, st.opened + 1, st.made, st.opn, if (((st.opn).length : Nat) : Int) > st.most then (((st.opn).length : Nat) : Int) else st.most⟩ by
            show WSt.mk _ _ _ _ _ = _
            first | rw [if_pos c] | rw [if_neg c]
            congr 1
            rw [Int.max_def]
            split <;> split <;> omega]
          kernel_rfl
        walk_at "y"
        refine fld_j (v := .int (st.opened + 1)) hx6 cl (T.noat "Watcher" "s7_opened") (by kernel_rfl) ?_
        walk_at "y"
        rw [show st.opened + 1 - 1 = st.opened by omega]
        refine q l H6 (.inl rfl) (fun b o e n1 n2 => (u6 b n1).trans (off4 b o e n1)) ⟨hx6, ?_⟩
        rw [u6 l (Ne.symm nxl), hl4]
        show _ = some (HO.lst ((if n ∈ st.opn then st.opn else st.opn ++ [n]).map V.int))
        first | rw [if_pos c] | rw [if_neg c]
      · walk_at "y"
        refine fld_j (v := .ref l) hx4 cl (T.noat "Watcher" "s7_open") (by kernel_rfl) ?_
        refine ⟨tyL hl4, ?_⟩
        walk_at "y"
        refine appU_i hl4 (by rw [List.length_map]; exact Nat.lt_of_le_of_lt hol (by decide)) fun H5 hl5 u5 => ?_
        walk_at "y"
        have hx5 := (u5 x nxl).trans hx4
        rw [show st.opn.map V.int ++ [V.int n] = (st.opn ++ [n]).map V.int by simp] at hl5
        have off5 : ∀ b o, H b = some o → b ≠ x → b ≠ l → H5 b = some o := fun b o e n1 n2 => (u5 b n2).trans (off4 b o e n1)
        refine fld_j (v := .int st.most) hx5 cl (T.noat "Watcher" "s7_most") (by kernel_rfl) ?_
        walk_at "y"
        refine fld_j (v := .ref l) hx5 cl (T.noat "Watcher" "s7_open") (by kernel_rfl) ?_
        walk_at "y"
        refine rLen2_l (SqL.of hl5) ?_ (List.length_map ..)
        refine ⟨_, _, rfl, ?_⟩
        walk_at "y"
        refine fstU_i (fs' := (WSt.step st (.op n)).fs l) hx5 cl (T.noat "Watcher" "s7_most") (ltB (by kernel_rfl)) (?_) fun H6 hx6 u6 => ?_
        · rw [show WSt.step st (.op n) = ⟨st.seen + 1, st.opened + 1, st.made, st.opn ++ [n], if (((st.opn ++ [n]).length : Nat) : Int) > st.most then (((st.opn ++ [n]).length : Nat) : Int) else st.most⟩ by
            show WSt.mk _ _ _ _ _ = _
            first | rw [if_pos c] | rw [if_neg c]
            congr 1
            rw [Int.max_def]
            split <;> split <;> omega]
          kernel_rfl
        walk_at "y"
        refine fld_j (v := .int (st.opened + 1)) hx6 cl (T.noat "Watcher" "s7_opened") (by kernel_rfl) ?_
        walk_at "y"
        rw [show st.opened + 1 - 1 = st.opened by omega]
        refine q l H6 (.inl rfl) (fun b o e n1 n2 => (u6 b n1).trans (off5 b o e n1 n2)) ⟨hx6, ?_⟩
        rw [u6 l (Ne.symm nxl), hl5]
        show _ = some (HO.lst ((if n ∈ st.opn then st.opn else st.opn ++ [n]).map V.int))
        first | rw [if_pos c] | rw [if_neg c]
    | sh n =>
      refine gStar_3U (SqT.of hp2) fun d H3 hd hd3 s3 => ?_
      walk_at "y"
      refine fld_j (v := .ref l) (s3 _ _ hx2) cl (T.noat "Watcher" "s7_open") (by kernel_rfl) ?_
      refine rIn2_f (b := true) (SqL.of (s3 _ _ hl2)) rfl (flat_ints _) ?_
      rw [inV_ints]
      walk_at "y"
      refine lc_b true ?_
      walk_at "y"
      refine fld_j (v := .ref l) (s3 _ _ hx2) cl (T.noat "Watcher" "s7_open") (by kernel_rfl) ?_
      refine ⟨l, rfl, ⟨_, SqL.of (s3 _ _ hl2)⟩, lc_pure (walk_b (b := true) (xs := st.opn.map V.int)) (by rw [List.length_map]; exact Nat.le_trans hol sz4) (fun i => (st.opn[i]?).bind fun m => if m = n then none else some m) (firm_FR V.int) (fun H' s => s _ _ (s3 _ _ hl2)) (fun i H0 x H1 y => by obtain ⟨rfl, _⟩ := y; exact Same.refl _) (fun i x H0 H5 hi s0 s5 y N C hC hN => ?_) fun D H5 vs hD s5 h5 pr => ?_⟩
      · obtain ⟨rfl, e1⟩ := y
        rw [List.getElem?_map] at e1
        cases e2 : st.opn[i]? with
        | none => rw [e2] at e1; cases e1
        | some m =>
          rw [e2] at e1
          cases e1
          walk_at "y"
          refine ⟨rfl, ?_⟩
          walk_at "y"
          by_cases cm : m = n
          · walk_at "y"
            exact hN (by rw [e2]; simp [cm]) _ (Same.refl _)
          · walk_at "y"
            exact hC _ _ m (Same.refl _) (by rw [e2]; simp [cm]) rfl
      · rw [paired_FR pr, List.length_map, filterMap_ix, filterMap_ne] at h5
        walk_at "y"
        refine fstU_i (fs' := (WSt.step st (.sh n)).fs D) (s5 _ _ (s3 _ _ hx2)) cl (T.noat "Watcher" "s7_open") (ltB (by kernel_rfl)) (by kernel_rfl) fun H6 hx6 u6 => ?_
        walk_at "y"
        have nxD : D ≠ x := fun z => by rw [z] at hD; rw [s3 _ _ hx2] at hD; cases hD
        refine q D H6 (.inr ?_) (fun b o e n1 n2 => (u6 b n1).trans (s5 _ _ (s3 _ _ (off2 b o e n1)))) ⟨hx6, ?_⟩
        · cases e1 : H D with
          | none => rfl
          | some o => rw [s3 _ _ (off2 D o e1 nxD)] at hD; cases hD
        · rw [u6 D nxD, h5]
          rfl
    | fa n fk fl =>
      refine gStar_3U (SqT.of hp2) fun d H3 hd hd3 s3 => ?_
      walk_at "y"
      refine faugU_i (k := st.made) (fs' := (WSt.step st (.fa n fk fl)).fs l) (s3 _ _ hx2) cl (T.noat "Watcher" "s7_made") (ltB (by kernel_rfl)) (by kernel_rfl) (by kernel_rfl) fun H4 hx4 u4 => ?_
      walk_at "y"
      refine fld_j (v := .int (st.made + 1)) hx4 cl (T.noat "Watcher" "s7_made") (by kernel_rfl) ?_
      walk_at "y"
      rw [show st.made + 1 - 1 = st.made by omega]
      exact q l H4 (.inl rfl) (fun b o e n1 _ => (u4 b n1).trans (s3 _ _ (off2 b o e n1))) ⟨hx4, (u4 l (Ne.symm nxl)).trans (s3 _ _ hl2)⟩
    | no v d =>
      refine gStar_3U (SqT.of hp2) fun d H3 hd hd3 s3 => ?_
      walk_at "y"
      exact q l H3 (.inl rfl) (fun b o e n1 _ => s3 _ _ (off2 b o e n1)) ⟨s3 _ _ hx2, s3 _ _ hl2⟩
    | sw z v d =>
      refine gStar_3U (SqT.of hp2) fun d H3 hd hd3 s3 => ?_
      walk_at "y"
      exact q l H3 (.inl rfl) (fun b o e n1 _ => s3 _ _ (off2 b o e n1)) ⟨s3 _ _ hx2, s3 _ _ hl2⟩
end

end L75
namespace L75
open PySem PySem.Spec PyProof.Rows L2
variable {gd : Bool}
local macro_rules | `(tactic| walk_at "y1") => `(tactic| with_reducible first
  | refine tSeq_i ?_ | refine tAsg_i ?_ | refine tCons_i ?_ | refine tNil_i ?_ | refine tC_i ?_ | refine tOp_i ?_ | refine tIfS_i ?_ | refine tTest_i ?_ | refine exBl_i ?_ | refine tRet_i ?_ | refine tCall_i ?_
  | refine tCB_i ?_ | refine tLst_i ?_ | refine tTup_i ?_ | refine rI0_i ?_ | refine tDrop_i ?_ | refine tNext_i ?_ | refine tB_i ?_ | refine tAnd_i ?_ | refine tOr_i ?_ | refine tNot_i ?_ | refine tAndV_i ?_ | refine tOrV_i ?_ | refine tNotV_i ?_
  | refine tYes_i ?_ | refine tTM_i ?_ | refine tPar_i ?_ | refine tSl_i ?_ | refine tNoPart_i ?_ | refine tPart_i ?_ | refine part_i ?_ | refine tMake_i ?_ | refine tProp_i ?_ | refine tCallOG_i ?_ | refine tVeI_i ?_ | refine tOst_i ?_ | refine tMkO_i ?_ | refine sFld_i ?_ | refine fldaug_i ?_ | refine gCons_i ?_ | refine gNil_i ?_ | refine tChain_i ?_ | refine tBM_i ?_ | refine rAdd2_i ?_ | refine rLe2_i ?_ | refine rEq2_i ?_ | refine rEq2_ss ?_ | refine rNe2_i ?_ | refine rNe2_ss ?_ | refine rIsN_i ?_ | refine rNotN_i ?_ | refine tTup_i2 ?_ | refine tIf_i ?_ | refine tUn_i ?_ | refine tDGet_i ?_ | refine sDPut_i ?_ | refine tFld_i ?_ | refine tRetN_i ?_ | refine tBreak_i ?_ | refine tCont_i ?_ | refine rU_i ?_)
local macro_rules | `(tactic| walk_at "yhead") => `(tactic| dsimp only [L2.start, List.map, List.length_cons, List.length_nil, Nat.reduceAdd, Nat.reduceSub, List.replicate, List.cons_append, List.nil_append])
local macro_rules | `(tactic| walk_at "y2") => `(tactic| first
  | walk_at "y1"
  | ((with_reducible refine tVar_i (v := ?v) ?h ?q); (case h => rfl))
  | ((with_reducible refine gName_i ?_); (dsimp only [L2.wipe, List.set]))
  | with_reducible refine iteT ?_ | with_reducible refine iteF ?_ | with_reducible refine iteNT ?_ | with_reducible refine iteNF ?_
  | ((with_reducible refine iteDT ?h ?q); (case h => first | decide +kernel | omega | assumption | exact nv1 | exact nv2 | exact nv3 | exact nv4)) | ((with_reducible refine iteDF ?h ?q); (case h => first | decide +kernel | omega | assumption | exact nv1 | exact nv2 | exact nv3 | exact nv4))
  | ((with_reducible refine iteNDT ?h ?q); (case h => first | decide +kernel | omega | assumption | exact nv1 | exact nv2 | exact nv3 | exact nv4)) | ((with_reducible refine iteNDF ?h ?q); (case h => first | decide +kernel | omega | assumption | exact nv1 | exact nv2 | exact nv3 | exact nv4))
  | ((with_reducible refine rIsi2_1 (T := ?T) (b := true) ?ty ?h ?q); (case ty => first | exact ty_str | exact ty_int | exact ty_bl | exact ty_non); (case h => decide +kernel))
  | ((with_reducible refine rIsi2_1 (T := ?T) (b := false) ?ty ?h ?q); (case ty => first | exact ty_str | exact ty_int | exact ty_bl | exact ty_non); (case h => decide +kernel))
  | ((with_reducible refine rEq2_s ?h ?q); (case h => rfl)) | ((with_reducible refine rNe2_s ?h ?q); (case h => rfl))
  | ((with_reducible refine rEq_i ?h ?q); (case h => rfl)) | ((with_reducible refine rNe_i ?h ?q); (case h => rfl)))
local macro_rules | `(tactic| walk_at "y") => `(tactic| repeat walk_at "y2")

section
variable {P : Program} {w : World} {K : PySem.W.Frag} {mg : Str → Option Value} {base : Heap}
theorem cO (T : Sy K mg) : StX.CallO K (He.ga K "Watcher") (He.ma K (He.ga K "Watcher") "__call__") := by
  have m := T.meth "Watcher" "__call__"
  obtain ⟨fd, F⟩ := F_Watcher___call__ T
  obtain ⟨oc, od, dV, kV, doc, pm, an, cdv, ct, osl, _, lk, _⟩ := F.ex
  refine ⟨m.at_, m.fn, ?_⟩
  unfold PySem.W.fnIn
  rw [show K.lookup (He.ma K (He.ga K "Watcher") "__call__") = _ from lk]
theorem pe_wq (T : Sy K mg) {X : Cx} {j : Nat} {e fe : Expr} {es : List Expr} {tf : TE} {t : TA} {pos : Pos} (hK : X.K = K) (hm : X.mg = mg) (z : RG gd j X.A) (hf : PE X fe tf) (ha : PA X (e :: es) t) (hk : 7 ≤ j := by decide)
    (ht : eval (.Call fe (e :: es) [] pos) X.env = (do callWith pos (← eval fe X.env) [] (backTo pos (starEach (e :: es) X.env)) (backToKw pos (keywordEach [] X.env))) := by rfl)
    (he : starEach (e :: es) X.env = (false, eval e X.env) :: starEach es X.env := by rfl) (hpl : (backTo pos (starEach es X.env)).any (·.1) = false := by rfl) : PE X (.Call fe (e :: es) [] pos) (tCallOG (He.ga K "Watcher") (spWQ K) E0 tf t) := by
  subst hK hm
  obtain ⟨fd, F, b, _⟩ := f_call (P := X.prog) (w := X.w) (base := X.base) (gd := gd) T
  exact pe_callOG hf (cO T) F (z.mono hk) b pass0 ha ht he hpl
/-- the watcher after i events -/
def stAt (es : List Ev) (i : Nat) : WSt := (es.take i).foldl WSt.step .new
theorem stAt_succ {es : List Ev} {i : Nat} {e : Ev} (h : es[i]? = some e) : stAt es (i + 1) = (stAt es i).step e := by
  obtain ⟨hi, e1⟩ := List.getElem?_eq_some_iff.mp h
  unfold stAt
  rw [List.take_succ, h]
  simp
theorem step_opn (s : WSt) (e : Ev) : (s.step e).opn.length ≤ s.opn.length + 1 := by
  cases e with
  | op n =>
    show (if n ∈ s.opn then s.opn else s.opn ++ [n]).length ≤ _
    split <;> simp
  | sh n => exact Nat.le_trans (List.length_filter_le ..) (Nat.le_succ _)
  | _ => exact Nat.le_succ _
theorem stAt_opn (es : List Ev) : ∀ i, (stAt es i).opn.length ≤ i
  | 0 => Nat.le_refl _
  | i + 1 => by
    cases h : es[i]? with
    | some e => rw [stAt_succ h]; exact Nat.le_trans (step_opn _ _) (Nat.succ_le_succ (stAt_opn es i))
    | none =>
      have hl := List.getElem?_eq_none_iff.mp h
      have e1 : stAt es (i + 1) = stAt es i := by unfold stAt; rw [List.take_of_length_le (by omega), List.take_of_length_le (by omega)]
      rw [e1]
      exact Nat.le_succ_of_le (stAt_opn es i)
/-- a watcher that came behind H0 -/
structure WS (K : PySem.W.Frag) (H0 H : Hp) (x dx l : Addr) (s : WSt) : Prop where
  x0 : H0 x = none
  l0 : H0 l = none
  sm : Same H0 H
  at_ : WAt K H x dx l s
theorem WS.mono {H0 H H' : Hp} {x dx l : Addr} {s : WSt} (h : WS K H0 H x dx l s) (k : Same H H') : WS K H0 H' x dx l s := ⟨h.x0, h.l0, h.sm.trans k, k _ _ h.at_.1, k _ _ h.at_.2⟩
/-- a call of the watcher -/
theorem wq_i {H0 H : Hp} {x dx l p : Addr} {s : WSt} {e : Ev} {Q : VK} {E : XK} (h : WS K H0 H x dx l s) (hol : s.opn.length ≤ 100) (er : EvR K H (.ref p) e) (ok : e.ok)
    (q : ∀ l' H', WS K H0 H' x dx l' (s.step e) → (l' = l ∨ H l' = none) → (∀ b o, H b = some o → b ≠ x → b ≠ l → H' b = some o) → Q (.bl (s.ret e)) H') :
    (∃ dx fs, H x = some (.ins (He.ga K "Watcher") dx fs)) ∧ spWQ K [V.ref x, V.ref p] H Q E := by
  refine ⟨⟨_, _, h.at_.1⟩, _, _, rfl, x, dx, l, s, rfl, h.at_, hol, p, e, rfl, er, ok, fun l' H' hl' off hw => ?_⟩
  refine q l' H' ⟨h.x0, ?_, fun b o e => ?_, hw⟩ hl' off
  · rcases hl' with rfl | hn
    · exact h.l0
    · exact h.sm.free hn
  · exact off b o (h.sm _ _ e) (ne_of_none e h.x0) (ne_of_none e h.l0)
/-- Watcher() -/
theorem wnew_i {H : Hp} {N : Addr → Hp → Prop} {E : XK} (q : ∀ x dx l H', WS K H H' x dx l .new → N x H') :
    ∀ x dx, H x = none → H dx = none → dx ≠ x → spWInit K (V.ref x :: ([] ++ [])) (upd (upd H dx (.own x)) x (.ins (He.ga K "Watcher") dx [])) (fun v H2 => v = .non ∧ N x H2) E := by
  intro x dx hx hdx ne
  refine ⟨_, rfl, x, dx, rfl, upd_same, fun l H' hl off hw => ⟨rfl, q x dx l H' ⟨hx, ?_, fun b o e => ?_, hw⟩⟩⟩
  · have n1 : l ≠ x := fun z => by rw [z, upd_same] at hl; cases hl
    have n2 : l ≠ dx := fun z => by rw [z, upd_ne ne, upd_same] at hl; cases hl
    rwa [upd_ne n1, upd_ne n2] at hl
  · have n1 : b ≠ x := ne_of_none e hx
    exact off b o (by rw [upd_ne n1, upd_ne (ne_of_none e hdx)]; exact e) n1
end
theorem sm_int {i : Int} (h : -999999999999 ≤ i ∧ i ≤ 999999999999) : smV (.int i) = true := by
  show (decide _ || _) = true
  rw [decide_eq_true h]
  rfl
theorem shp2 {n : Int} : SeqAt.shaped (.tuple (([.str "shut", .int n] : List V).map vD)) = true := by
  unfold SeqAt.shaped
  rw [show PyData.canLay0 (.tuple (([.str "shut", .int n] : List V).map vD)) = true by simp only [PyData.canLay0, List.map, vD]; exact lay_cons (by decide +kernel) (lay_cons rfl rfl), Bool.true_and]
  refine decide_eq_true ?_
  simp [PyData.depth, PyData.depthAll, vD]
theorem shp2o {n : Int} : SeqAt.shaped (.tuple (([.str "open", .int n] : List V).map vD)) = true := by
  unfold SeqAt.shaped
  rw [show PyData.canLay0 (.tuple (([.str "open", .int n] : List V).map vD)) = true by simp only [PyData.canLay0, List.map, vD]; exact lay_cons (by decide +kernel) (lay_cons rfl rfl), Bool.true_and]
  refine decide_eq_true ?_
  simp [PyData.depth, PyData.depthAll, vD]
def endsOf (es : List Ev) (n : Int) (i : Nat) : List Nat := (List.range (es.length - i)).filterMap fun j => if ((es[i + j]?).any fun e => e.isSh n) = true then some (i + j) else none
def spanV : Int × Nat × Option Nat → List V := fun t => [.int t.1, .int (t.2.1 : Nat), match t.2.2 with | none => .non | some j => .int (j : Nat)]
def spanAt (es : List Ev) (i : Nat) : Option (Int × Nat × Option Nat) := match es[i]? with
  | some (.op n) => some (n, i, (endsOf es n i).head?)
  | _ => none
def spansOf (es : List Ev) : List (Int × Nat × Option Nat) := (List.range es.length).filterMap (spanAt es)
section
variable {P : Program} {w : World} {K : PySem.W.Frag} {mg : Str → Option Value} {base : Heap}
def spMost (K : PySem.W.Frag) : Sp := sp1 fun v H Q _ => ∃ x dx l st, v = .ref x ∧ WAt K H x dx l st ∧ Q (.int st.most) H
def spNow (K : PySem.W.Frag) : Sp := sp1 fun v H Q _ => ∃ x dx l st, v = .ref x ∧ WAt K H x dx l st ∧ ∀ t o H', H t = none → Same H H' → H' t = some (.frz o (.tup (st.opn.map V.int))) → o.cls = .type "tuple" → o.dict = none → Q (.ref t) H'
theorem sc_Watcher_now_open : FnScope ["self"] ["self"] (defScope (inClass (top 29) 3)) := ⟨rfl, rfl, rfl, by decide +kernel, rfl, by decide +kernel, by decide +kernel⟩
theorem sc_Watcher_open_at_most : FnScope ["self"] ["self"] (defScope (inClass (top 29) 4)) := ⟨rfl, rfl, rfl, by decide +kernel, rfl, by decide +kernel, by decide +kernel⟩
theorem p_most (T : Sy K mg) : Prp gd P w K mg base 1 "Watcher" "open_at_most" (spMost K) := by
  refine T.prp 8 rfl sc_Watcher_open_at_most sp1_len (fun cdv g A outer s H vs Q E z h => ?_) (fun _ _ _ _ _ _ us hl => match us, hl with | [_], _ => rfl)
  obtain ⟨_, rfl, x, dx, l, st, rfl, ⟨hx, hl⟩, q⟩ := h
  refine ⟨_, (pss_one (ps_ret (pe_fldK (K := K) rfl (pv 0)))), ?_⟩
  walk_at "yhead"; walk_at "y"
  exact fld_j (v := .int st.most) hx (T.cls "Watcher") (T.noat "Watcher" "s7_most") (by kernel_rfl) q
theorem p_now (T : Sy K mg) : Prp gd P w K mg base 1 "Watcher" "now_open" (spNow K) := by
  refine T.prp 7 rfl sc_Watcher_now_open sp1_len (fun cdv g A outer s H vs Q E z h => ?_) (fun _ _ _ _ _ _ us hl => match us, hl with | [_], _ => rfl)
  obtain ⟨_, rfl, x, dx, l, st, rfl, ⟨hx, hl⟩, q⟩ := h
  refine ⟨_, (pss_one (ps_ret (pe_callTy (r := rTupF K) call_tupF (by rfl) (T.free "tuple") (by decide +kernel) (pa_cons (pe_fldK (K := K) rfl (pv 0)) pa_nil)))), ?_⟩
  walk_at "yhead"; walk_at "y"
  refine fld_j (v := .ref l) hx (T.cls "Watcher") (T.noat "Watcher" "s7_open") (by kernel_rfl) ?_
  walk_at "y"
  exact ⟨l, _, rfl, SqL.of hl, fun t o ht hc hd => q t o _ ht (same_upd ht) upd_same hc hd⟩
theorem filterMap_snoc {α : Type} (g : Nat → Option α) (i : Nat) : (List.range (i + 1)).filterMap g = (List.range i).filterMap g ++ (g i).toList := by
  rw [List.range_succ, List.filterMap_append]
  cases q : g i <;> simp [q]
def spSpans (K : PySem.W.Frag) : Sp := sp1 fun x H Q E => ( ∃ b p es, x = .ref p ∧ LogAt K b H p es ∧ ∀ D H' vs, H D = none → Same H H' → H' D = some (.lst vs) → Paired (TR spanV H') vs (spansOf es) → Q (.ref D) H') ∨ BadC K H x E
theorem sc_spans : FnScope ["log", "found", "first", "event", "last", "ends"] ["log"] (defScope (top 30)) := ⟨rfl, rfl, rfl, by decide +kernel, rfl, by decide +kernel, by decide +kernel⟩
theorem cf_spans (T : Sy K mg) : CalF gd P w K mg base (CX P w) 7 "spans" (spSpans K) 30 ["log"] := by
  refine T.calXF (F_spans T) sc_spans sp1_len (fun cdv f A outer s H vs Q E z h => ?_) (fun _ _ _ _ _ _ us hl => match us, hl with | [_], _ => rfl)
  have hu1 := hu_1 z; have hu2 := hu_2 z; have hu3 := hu_3 z
  obtain ⟨x0, rfl, h⟩ := h
  refine ⟨_, (pss_cons (ps_expr (pe_cX (c_check_log T) z (passes_call (takes_of rfl rfl rfl rfl) (fun _ _ _ _ h => h)) (pa_cons (pv 0) pa_nil))) (pss_cons (ps_set (i := 1) sc_spans.nd rfl (by first | exact Or.inl rfl | exact Or.inr rfl) (pe_lst pa_nil)) (pss_cons (ps_for (passes_of rfl) (by rfl) (pi_enum2K (K := K) rfl (by rfl) (T.free "enumerate") (pv 0)) (pg_tupK (K := K) rfl (by rfl) (pgs_cons (pg_name (i := 2) sc_spans.nd rfl (by first | exact Or.inl rfl | exact Or.inr rfl)) (pgs_cons (pg_name (i := 3) sc_spans.nd rfl (by first | exact Or.inl rfl | exact Or.inr rfl)) pgs_nil))) (pss_one (ps_if (pt_cmpR (r := rEq2 K) (op_eq2 hu1) (pe_ix (r := rGet K) (ix_get hu3) (pv 3) pe_int (fun _ _ => rfl)) pe_str (nomark _)) (pss_cons (ps_setLc (i := 5) (own := [("last", 4)]) (g := gName 4) (by rfl) sc_spans.nd rfl rfl (sw_true rfl rfl rfl (by decide +kernel)) (pi_range2 (by rfl) (T.free "range") (pa_cons (pv 2) (pa_cons (pe_callB (r := rLen2 K) call_len2 (by rfl) (T.free "len") (by decide +kernel) (pa_cons (pv 0) pa_nil)) pa_nil))) (blkOk_by (own := [("last", 4)]) (N := ["log", "found", "first", "event", "last", "ends"]) (sc := (defScope (top 30))) (by decide +kernel)) (fun _ _ _ _ _ => (pg_name (i := 4) sc_spans.nd rfl (by first | exact Or.inl rfl | exact Or.inr rfl))) (fun _ _ _ _ _ => pts_one (pt_cmpR (r := rEq2 K) (op_eq2 hu1) (pe_ix (r := rGet K) (ix_get hu3) (pv 0) (pv 4) (fun _ _ => rfl)) (pe_tup (pa_cons pe_str (pa_cons (pe_ix (r := rGet K) (ix_get hu3) (pv 3) pe_int (fun _ _ => rfl)) pa_nil))) (nomark _))) (fun _ _ _ _ _ => (pv 4))) (pss_one (ps_expr (pe_bmK (K := K) rfl PySem.F.plainAttrs_list PySem.F.slot_list_append PySem.F.type_list_append mt_append2 (pv 1) (pa_cons (pe_tup (pa_cons (pe_ix (r := rGet K) (ix_get hu3) (pv 3) pe_int (fun _ _ => rfl)) (pa_cons (pv 2) (pa_cons (pe_ifExp (pt_cmpR (r := rNe2 K) (op_ne2 hu1) (pv 5) (pe_lst pa_nil) (nomark _)) (pe_ix (r := rGet K) (ix_get hu3) (pv 5) pe_int (fun _ _ => rfl)) pe_non) pa_nil)))) pa_nil))))) pss_nil))) (pss_one (ps_ret (pv 1)))))), ?_⟩
  rcases h with ⟨b, p, es, rfl, lg, q⟩ | bad
  rotate_left
  · walk_at "yhead"; walk_at "y"
    exact bad.check
  obtain ⟨vs, h1, h2, ok, hl⟩ := id lg
  have ll : vs.length = es.length := h2.length
  walk_at "yhead"; walk_at "y"
  refine lg.check fun H1 s1 => ?_
  walk_at "y"
  refine ⟨sz4 (by simp), fun D nD => ?_⟩
  have sH2 := same_upd (H := H1) (o := .lst []) nD
  have eD := upd_same (H := H1) (a := D) (o := .lst [])
  generalize upd H1 D (.lst []) = H2 at sH2 eD ⊢
  walk_at "y"
  refine for_eb b ?_
  walk_at "y"
  have s12 := s1.trans sH2
  refine ⟨p, vs, rfl, SqB.of (s12 _ _ h1), for_it walk_eb (Pv := fun i σ H' => (Same H1 H' ∧ ∃ us, H' D = some (.lst us) ∧ us.length ≤ i ∧ Paired (TR spanV H') us ((List.range i).filterMap (spanAt es))) ∧ ∃ a c d e, σ = [some (.ref p), some (.ref D), a, c, d, e]) ⟨⟨sH2, [], eD, Nat.le_refl _, .nil⟩, _, _, _, _, rfl⟩ (fun i σ H' _ hp => hp.1.1 _ _ (s1 _ _ h1)) (fun i x σ H3 H4 hi hp y => ?_) fun σ H' hp => ?_⟩
  · obtain ⟨⟨s3, us, hus, lus, pus⟩, a, c, d, e, rfl⟩ := hp
    obtain ⟨tt, v1, v2, rfl, ht, rfl, e1, e2⟩ := y
    cases e1
    have sY := same_upd (o := .tup [.int i, v2]) ht
    have s4 := (s1.trans s3).trans sY
    obtain ⟨t, ev, rfl, e3, e4, es4, er4⟩ := LogAt.get (evs_same h2 s4) e2
    have hus4 := sY _ _ hus
    have okE := ok _ (List.mem_of_getElem? e3)
    refine gTup_i (SqT.of upd_same) ?_
    generalize upd H3 tt (.tup [.int i, .ref t]) = H4 at *
    have nf : ∀ {H5 : Hp}, Same H4 H5 → spanAt es i = none → Same H1 H5 ∧ ∃ us, H5 D = some (.lst us) ∧ us.length ≤ i + 1 ∧ Paired (TR spanV H5) us ((List.range (i + 1)).filterMap (spanAt es)) := fun s5 e => by
      refine ⟨(s3.trans sY).trans s5, us, s5 _ _ hus4, by omega, ?_⟩
      rw [filterMap_snoc, e]
      simpa using (firm_TR _).all (sT (sY.trans s5)) pus
    walk_at "y"
    cases ev with
    | op n =>
      refine rGet_t (n := 0) (SqT.of e4) rfl ?_
      walk_at "y"
      refine lc_r2 ?_
      walk_at "y"
      refine rLen2_b (SqB.of (s4 _ _ h1)) ?_
      rw [ll]
      refine ⟨i, es.length, rfl, by omega, lc_pure walk_range (Nat.le_trans (show _ ≤ 40 by omega) sz4) (fun j => if ((es[i + j]?).any fun e => e.isSh n) = true then some (i + j) else none) (firm_FR fun j : Nat => V.int (j : Nat)) (fun _ _ => trivial) (fun i H0 x H1 y => by obtain ⟨rfl, _⟩ := y; exact Same.refl _) (fun j x H0 H5 hj s0 s5 y N C hC hN => ?_) fun E H5 ws hE s5 h5 pr => ?_⟩
      · obtain ⟨rfl, rfl⟩ := y
        walk_at "y"
        refine ⟨rfl, ?_⟩
        have hj2 : i + j < es.length := by omega
        obtain ⟨v5, e5, t5, rfl, e6, z6, _⟩ := paired_at h2 (i := i + j) (y := es[i + j]) (List.getElem?_eq_getElem hj2)
        have s6 := s4.trans s5
        walk_at "y"
        refine rGet_b (n := i + j) (SqB.of (s6 _ _ h1)) e5 ?_ (by omega)
        walk_at "y"
        refine rGet_t (n := 1) (SqT.of (s5 _ _ e4)) rfl ?_
        walk_at "y"
        refine ⟨sz4 (by simp), fun G nG => ?_⟩
        have sH6 := same_upd (H := H5) (o := .tup [.str "shut", .int n]) nG
        have eG := upd_same (H := H5) (a := G) (o := .tup [.str "shut", .int n])
        generalize upd H5 G (.tup [.str "shut", .int n]) = H6 at sH6 eG ⊢
        refine rEq2_d (Ev.dp ((s6.trans sH6) _ _ e6) (Ev.sub_same (s6.trans sH6) z6)) (dp_tup (SqT.of eG) rfl) (Ev.shaped z6 (ok _ (List.getElem_mem hj2))) shp2 ?_
        rw [ev_eqs]
        cases ce : es[i + j].isSh n
        rotate_left
        · walk_at "y"
          rw [show (i : Int) + (j : Nat) = ((i + j : Nat) : Int) by omega]
          exact hC _ _ (i + j) sH6 (by rw [List.getElem?_eq_getElem hj2, Option.any_some, ce, if_pos rfl]) rfl
        · walk_at "y"
          exact hN (by rw [List.getElem?_eq_getElem hj2, Option.any_some, ce, if_neg (by decide)]) _ sH6
      · rw [paired_FR pr, show ((es.length : Int) - i).toNat = es.length - i by omega] at h5
        rw [show (List.filterMap (fun j => if ((es[i + j]?).any fun e => e.isSh n) = true then some (i + j) else none) (List.range (es.length - i))) = endsOf es n i from rfl] at h5
        walk_at "y"
        have hus5 := s5 _ _ hus4
        refine ⟨tyL hus5, ?_⟩
        walk_at "y"
        refine rGet_t (n := 1) (SqT.of (s5 _ _ e4)) rfl ?_
        walk_at "y"
        refine ⟨sz4 (by simp), fun G nG => ?_⟩
        have sH6 := same_upd (H := H5) (o := .lst []) nG
        have eG := upd_same (H := H5) (a := G) (o := .lst [])
        generalize upd H5 G (.lst []) = H6 at sH6 eG ⊢
        have fin : ∀ (G : Addr) (H7 : Hp) (o : V), Same H5 H7 → H7 G = some (.tup [.int n, .int i, o]) → (o = match (endsOf es n i).head? with | none => V.non | some j => .int (j : Nat)) → ∀ C : VK, (∀ H8, (Same H1 H8 ∧ ∃ us, H8 D = some (.lst us) ∧ us.length ≤ i + 1 ∧ Paired (TR spanV H8) us ((List.range (i + 1)).filterMap (spanAt es))) → C .non H8) → rAppend (.ref D) [.ref G] H7 C := fun G H7 o s7 hG eo C hC => by
          have hus7 := s7 _ _ hus5
          refine app_i hus7 (Nat.lt_of_le_of_lt (show us.length ≤ 40 by omega) (Nat.lt_of_lt_of_le (by decide) (sz4 (n := 41)))) ?_
          refine hC _ ⟨fun c o' e => ?_, us ++ [.ref G], upd_same, by simp; omega, ?_⟩
          · have n1 : c ≠ D := fun z => by rw [z, nD] at e; cases e
            rw [upd_ne n1]
            exact (((s3.trans sY).trans s5).trans s7) c o' e
          · rw [filterMap_snoc, show spanAt es i = some (n, i, (endsOf es n i).head?) by unfold spanAt; rw [e3]]
            refine paired_append ((firm_TR _).all (sameT_upd hus7) ((firm_TR _).all (sT ((sY.trans s5).trans s7)) pus)) (.cons ⟨G, rfl, ?_⟩ .nil)
            rw [upd_ne (ne_of hG hus7 (by intro z; cases z)), hG, eo]
            rfl
        have smE : ∀ v ∈ (endsOf es n i).map fun j : Nat => V.int (j : Nat), smV v = true := fun v hv => by
          obtain ⟨j, hj, rfl⟩ := List.mem_map.mp hv
          obtain ⟨k, hk, ek⟩ := List.mem_filterMap.mp hj
          split at ek
          · have hk2 := List.mem_range.mp hk
            cases ek
            exact sm_int (by omega)
          · cases ek
        have smA : ((endsOf es n i).map fun j : Nat => V.int (j : Nat)).all smV = true := List.all_eq_true.mpr smE
        have lnE : (endsOf es n i).length ≤ 40 := Nat.le_trans (List.length_filterMap_le ..) (by simp; omega)
        refine rNe2_d (dp_lst (SqL.of (sH6 _ _ h5)) (all_pl smA)) (dp_lst (SqL.of eG) rfl) (sm_lst smA).shaped (by decide +kernel) ?_
        rw [show PyData.eqv (.list (((endsOf es n i).map fun j : Nat => V.int (j : Nat)).map vD)) (.list (([] : List V).map vD)) = ((endsOf es n i).map fun j : Nat => V.int (j : Nat)).isEmpty by
          cases endsOf es n i <;> rfl]
        cases hE : endsOf es n i with
        | nil =>
          dsimp only [List.map_nil, List.isEmpty_nil]
          walk_at "y"
          refine ⟨sz4 (by simp), fun F nF => ?_⟩
          have sH7 := same_upd (H := H6) (o := .tup [.int n, .int i, .non]) nF
          have eF := upd_same (H := H6) (a := F) (o := .tup [.int n, .int i, .non])
          generalize upd H6 F (.tup [.int n, .int i, .non]) = H7 at sH7 eF ⊢
          walk_at "y"
          exact fin F H7 .non (sH6.trans sH7) eF (by rw [hE]; rfl) _ fun H8 h8 => ⟨h8, _, _, _, _, rfl⟩
        | cons k ks =>
          rw [show ((k :: ks).map fun j : Nat => V.int (j : Nat)).isEmpty = false from rfl]
          walk_at "y"
          refine rGet_l (n := 0) (v := .int (k : Nat)) (SqL.of (sH6 _ _ h5)) (by rw [hE]; rfl) ?_
          walk_at "y"
          refine ⟨sz4 (by simp), fun F nF => ?_⟩
          have sH7 := same_upd (H := H6) (o := .tup [.int n, .int i, .int (k : Nat)]) nF
          have eF := upd_same (H := H6) (a := F) (o := .tup [.int n, .int i, .int (k : Nat)])
          generalize upd H6 F (.tup [.int n, .int i, .int (k : Nat)]) = H7 at sH7 eF ⊢
          walk_at "y"
          exact fin F H7 (.int (k : Nat)) (sH6.trans sH7) eF (by rw [hE]; rfl) _ fun H8 h8 => ⟨h8, _, _, _, _, rfl⟩
    | sh n =>
      refine rGet_t (n := 0) (SqT.of e4) rfl ?_
      walk_at "y"
      exact ⟨nf (Same.refl _) (by unfold spanAt; rw [e3]), _, _, _, _, rfl⟩
    | fa n k l =>
      refine rGet_t (n := 0) (SqT.of e4) rfl ?_
      walk_at "y"
      exact ⟨nf (Same.refl _) (by unfold spanAt; rw [e3]), _, _, _, _, rfl⟩
    | no v d =>
      refine rGet_t (n := 0) (SqT.of e4) rfl ?_
      walk_at "y"
      exact ⟨nf (Same.refl _) (by unfold spanAt; rw [e3]), _, _, _, _, rfl⟩
    | sw z v d =>
      refine rGet_t (n := 0) (SqT.of e4) rfl ?_
      walk_at "y"
      exact ⟨nf (Same.refl _) (by unfold spanAt; rw [e3]), _, _, _, _, rfl⟩
  · obtain ⟨⟨s3, us, hus, lus, pus⟩, a, c, d, e, rfl⟩ := hp
    walk_at "y"
    rw [ll] at pus
    exact q D H' us (s1.free nD) (s1.trans s3) hus pus
theorem c_spans (T : Sy K mg) : Cal gd P w K mg base (CX P w) 7 "spans" (spSpans K) := (cf_spans T).cal
def neverOf (es : List Ev) : List Int := (spansOf es).filterMap fun t => if t.2.2 = none then some t.1 else none
def spNever (K : PySem.W.Frag) : Sp := sp1 fun x H Q E => ( ∃ b p es, x = .ref p ∧ LogAt K b H p es ∧ ∀ D H', H D = none → Same H H' → H' D = some (.lst ((neverOf es).map V.int)) → Q (.ref D) H') ∨ BadC K H x E
theorem spans_len (es : List Ev) : (spansOf es).length ≤ es.length := Nat.le_trans (List.length_filterMap_le ..) (by simp)
theorem sc_never_shut : FnScope ["log", "entry", "first", "last"] ["log"] (defScope (top 31)) := ⟨rfl, rfl, rfl, by decide +kernel, rfl, by decide +kernel, by decide +kernel⟩
theorem cf_never_shut (T : Sy K mg) : CalF gd P w K mg base (CX P w) 8 "never_shut" (spNever K) 31 ["log"] := by
  refine T.calXF (F_never_shut T) sc_never_shut sp1_len (fun cdv f A outer s H vs Q E z h => ?_) (fun _ _ _ _ _ _ us hl => match us, hl with | [_], _ => rfl)
  have hu1 := hu_1 z; have hu2 := hu_2 z; have hu3 := hu_3 z
  obtain ⟨x0, rfl, h⟩ := h
  refine ⟨_, (pss_one (ps_ret (pe_lc (own := [("entry", 1), ("first", 2), ("last", 3)]) (g := gTup K 3 (gCons (gName 1) (gCons (gName 2) (gCons (gName 3) gNil)))) (by rfl) sc_never_shut.nd (pi_anyK (K := K) rfl (pe_cX (c_spans T) z (passes_call (takes_of rfl rfl rfl rfl) (fun _ _ _ _ h => h)) (pa_cons (pv 0) pa_nil))) (blkOk_by (own := [("entry", 1), ("first", 2), ("last", 3)]) (N := ["log", "entry", "first", "last"]) (sc := (defScope (top 31))) (by decide +kernel)) (fun _ _ _ _ _ => (pg_tupK (K := K) rfl (by rfl) (pgs_cons (pg_name (i := 1) sc_never_shut.nd rfl (by first | exact Or.inl rfl | exact Or.inr rfl)) (pgs_cons (pg_name (i := 2) sc_never_shut.nd rfl (by first | exact Or.inl rfl | exact Or.inr rfl)) (pgs_cons (pg_name (i := 3) sc_never_shut.nd rfl (by first | exact Or.inl rfl | exact Or.inr rfl)) pgs_nil))))) (fun _ _ _ _ _ => pts_one (pt_cmpR (r := rIsN) op_isN (pv 3) pe_non (nomark _))) (fun _ _ _ _ _ => (pv 1))))), ?_⟩
  rcases h with ⟨b, p, es, rfl, lg, q⟩ | bad
  rotate_left
  · walk_at "yhead"; walk_at "y"
    refine lc_b true ?_
    walk_at "y"
    exact ⟨_, rfl, .inr bad⟩
  obtain ⟨vs, h1, h2, ok, hl⟩ := id lg
  walk_at "yhead"; walk_at "y"
  refine lc_b true ?_
  walk_at "y"
  refine ⟨_, rfl, .inl ⟨b, p, es, rfl, lg, fun D H1 us hD s1 e1 pr => ?_⟩⟩
  have lu : us.length = (spansOf es).length := pr.length
  have lu2 : us.length ≤ 40 := by have := spans_len es; omega
  refine ⟨D, rfl, ⟨us, SqL.of e1⟩, lc_pure (walk_b (b := true) (xs := us)) (sz4 (by omega)) (fun i => ((spansOf es)[i]?).bind fun t => if t.2.2 = none then some t.1 else none) (firm_FR V.int) (fun H' s => s _ _ e1) (fun i H0 x H1 y => by obtain ⟨rfl, _⟩ := y; exact Same.refl _) (fun i x H0 H2 hi s0 s2 y N C hC hN => ?_) fun F H2 ws hF s2 h2 pr2 => ?_⟩
  · obtain ⟨rfl, e2⟩ := y
    obtain ⟨t, e3, a, rfl, e4⟩ := paired_of pr e2
    obtain ⟨n, k, o⟩ := t
    cases o with
    | none =>
      refine gTup_i (xs := [.int n, .int (k : Nat), .non]) (SqT.of (s2 _ _ e4)) ?_
      walk_at "y"
      refine ⟨rfl, ?_⟩
      walk_at "y"
      exact hC _ _ n (Same.refl _) (by rw [e3]; simp) rfl
    | some j =>
      refine gTup_i (xs := [.int n, .int (k : Nat), .int (j : Nat)]) (SqT.of (s2 _ _ e4)) ?_
      walk_at "y"
      refine ⟨rfl, ?_⟩
      walk_at "y"
      exact hN (by rw [e3]; simp) _ (Same.refl _)
  · rw [paired_FR pr2, lu, filterMap_ix] at h2
    exact q F H2 (s1.free hF) (s1.trans s2) h2
theorem c_never_shut (T : Sy K mg) : Cal gd P w K mg base (CX P w) 8 "never_shut" (spNever K) := (cf_never_shut T).cal
def spMostO (K : PySem.W.Frag) : Sp := sp1 fun x H Q E => ( ∃ b p es, x = .ref p ∧ LogAt K b H p es ∧ ∀ H', Same H H' → Q (.int (stAt es es.length).most) H') ∨ BadC K H x E
theorem sc_most_open : FnScope ["log", "watcher", "event"] ["log"] (defScope (top 32)) := ⟨rfl, rfl, rfl, by decide +kernel, rfl, by decide +kernel, by decide +kernel⟩
theorem cf_most_open (T : Sy K mg) : CalF gd P w K mg base (CX P w) 9 "most_open" (spMostO K) 32 ["log"] := by
  refine T.calXF (F_most_open T) sc_most_open sp1_len (fun cdv f A outer s H vs Q E z h => ?_) (fun _ _ _ _ _ _ us hl => match us, hl with | [_], _ => rfl)
  have hu1 := hu_1 z; have hu2 := hu_2 z; have hu3 := hu_3 z
  obtain ⟨x0, rfl, h⟩ := h
  refine ⟨_, (pss_cons (ps_expr (pe_cX (c_check_log T) z (passes_call (takes_of rfl rfl rfl rfl) (fun _ _ _ _ h => h)) (pa_cons (pv 0) pa_nil))) (pss_cons (ps_set (i := 1) sc_most_open.nd rfl (by first | exact Or.inl rfl | exact Or.inr rfl) (pe_mk0 (m_Watcher T) z)) (pss_cons (ps_for (passes_of rfl) (by rfl) (pi_anyK (K := K) rfl (pv 0)) (pg_name (i := 2) sc_most_open.nd rfl (by first | exact Or.inl rfl | exact Or.inr rfl)) (pss_one (ps_expr (pe_wq T rfl rfl z (pv 1) (pa_cons (pv 2) pa_nil))))) (pss_one (ps_ret (pe_prK (K := K) rfl (p_most T) z (pv 1))))))), ?_⟩
  rcases h with ⟨b, p, es, rfl, lg, q⟩ | bad
  rotate_left
  · walk_at "yhead"; walk_at "y"
    exact bad.check
  obtain ⟨vs, h1, h2, ok, hl⟩ := id lg
  have ll : vs.length = es.length := h2.length
  walk_at "yhead"; walk_at "y"
  refine lg.check fun H1 s1 => ?_
  walk_at "y"
  refine wnew_i fun x dx l H2 ws => ?_
  walk_at "y"
  refine for_b b ?_
  walk_at "y"
  refine ⟨p, rfl, ⟨vs, SqB.of (ws.sm _ _ (s1 _ _ h1))⟩, for_it walk_b (Pv := fun i σ H' => (∃ l, WS K H1 H' x dx l (stAt es i)) ∧ ∃ a, σ = [some (.ref p), some (.ref x), a]) ⟨⟨l, ws⟩, _, rfl⟩ (fun i σ H' _ hp => let ⟨⟨l, ws⟩, _⟩ := hp; ws.sm _ _ (s1 _ _ h1)) (fun i v σ H3 H4 hi hp y => ?_) fun σ H' hp => ?_⟩
  · obtain ⟨⟨l, ws⟩, a, rfl⟩ := hp
    obtain ⟨rfl, e2⟩ := y
    obtain ⟨t, ev, rfl, e3, e4, es4, er4⟩ := LogAt.get (evs_same h2 (s1.trans ws.sm)) e2
    walk_at "y"
    refine ⟨x, rfl, ?_⟩
    walk_at "y"
    refine wq_i ws (Nat.le_trans (stAt_opn es i) (by omega)) er4 (ok _ (List.mem_of_getElem? e3)) fun l' H5 ws' _ _ => ?_
    walk_at "y"
    rw [← stAt_succ e3] at ws'
    exact ⟨⟨l', ws'⟩, _, rfl⟩
  · obtain ⟨⟨l, ws⟩, a, rfl⟩ := hp
    walk_at "y"
    rw [ll] at ws
    exact ⟨x, _, _, rfl, ws.at_.1, _, rfl, x, dx, l, _, rfl, ws.at_, q _ (s1.trans ws.sm)⟩
theorem c_most_open (T : Sy K mg) : Cal gd P w K mg base (CX P w) 9 "most_open" (spMostO K) := (cf_most_open T).cal
def flawsOf (es : List Ev) : List Int := (List.range es.length).filterMap fun i => (es[i]?).bind fun e => if (stAt es i).ret e then none else some (i : Nat)
def spFlaws (K : PySem.W.Frag) : Sp := sp1 fun x H Q E => ( ∃ b p es, x = .ref p ∧ LogAt K b H p es ∧ ∀ D H', H D = none → Same H H' → H' D = some (.lst ((flawsOf es).map V.int)) → Q (.ref D) H') ∨ BadC K H x E
theorem sc_flaws : FnScope ["log", "watcher", "place", "event"] ["log"] (defScope (top 34)) := ⟨rfl, rfl, rfl, by decide +kernel, rfl, by decide +kernel, by decide +kernel⟩
theorem cf_flaws (T : Sy K mg) : CalF gd P w K mg base (CX P w) 9 "flaws" (spFlaws K) 34 ["log"] := by
  refine T.calXF (F_flaws T) sc_flaws sp1_len (fun cdv f A outer s H vs Q E z h => ?_) (fun _ _ _ _ _ _ us hl => match us, hl with | [_], _ => rfl)
  have hu1 := hu_1 z; have hu2 := hu_2 z; have hu3 := hu_3 z
  obtain ⟨x0, rfl, h⟩ := h
  refine ⟨_, (pss_cons (ps_expr (pe_cX (c_check_log T) z (passes_call (takes_of rfl rfl rfl rfl) (fun _ _ _ _ h => h)) (pa_cons (pv 0) pa_nil))) (pss_cons (ps_set (i := 1) sc_flaws.nd rfl (by first | exact Or.inl rfl | exact Or.inr rfl) (pe_mk0 (m_Watcher T) z)) (pss_one (ps_ret (pe_lc (own := [("place", 2), ("event", 3)]) (g := gTup K 2 (gCons (gName 2) (gCons (gName 3) gNil))) (by rfl) sc_flaws.nd (pi_enum2K (K := K) rfl (by rfl) (T.free "enumerate") (pv 0)) (blkOk_by (own := [("place", 2), ("event", 3)]) (N := ["log", "watcher", "place", "event"]) (sc := (defScope (top 34))) (by decide +kernel)) (fun _ _ _ _ _ => (pg_tupK (K := K) rfl (by rfl) (pgs_cons (pg_name (i := 2) sc_flaws.nd rfl (by first | exact Or.inl rfl | exact Or.inr rfl)) (pgs_cons (pg_name (i := 3) sc_flaws.nd rfl (by first | exact Or.inl rfl | exact Or.inr rfl)) pgs_nil)))) (fun _ _ _ _ _ => pts_one (pt_not (pt_val (pe_wq T rfl rfl z (pv 1) (pa_cons (pv 3) pa_nil))))) (fun _ _ _ _ _ => (pv 2))))))), ?_⟩
  rcases h with ⟨b, p, es, rfl, lg, q⟩ | bad
  rotate_left
  · walk_at "yhead"; walk_at "y"
    exact bad.check
  obtain ⟨vs, h1, h2, ok, hl⟩ := id lg
  have ll : vs.length = es.length := h2.length
  walk_at "yhead"; walk_at "y"
  refine lg.check fun H1 s1 => ?_
  walk_at "y"
  refine wnew_i fun x dx l H2 ws => ?_
  walk_at "y"
  refine lc_eb b ?_
  walk_at "y"
  refine ⟨p, vs, rfl, SqB.of (ws.sm _ _ (s1 _ _ h1)), fun D hD => ?_⟩
  have nD1 : H1 D = none := ws.sm.free hD
  refine lc_it walk_eb (Pv := fun i H' => ∃ l, WS K H1 H' x dx l (stAt es i) ∧ D ≠ x ∧ D ≠ l ∧ H' D = some (.lst (((List.range i).filterMap fun i => (es[i]?).bind fun e => if (stAt es i).ret e then none else some ((i : Nat) : Int)).map V.int))) ?_ (fun i H' _ hp => let ⟨l, ws, _⟩ := hp; ws.sm _ _ (s1 _ _ h1)) (fun i v H3 H4 hi hp y => ?_) fun H' hp => ?_
  · have nx := ne_of_none ws.at_.1 hD
    have nl := ne_of_none ws.at_.2 hD
    exact ⟨l, ⟨ws.x0, ws.l0, fun b o e => by rw [upd_ne (ne_of_none e (ws.sm.free hD))]; exact ws.sm b o e, (upd_ne nx).trans ws.at_.1, (upd_ne nl).trans ws.at_.2⟩, Ne.symm nx, Ne.symm nl, upd_same⟩
  · obtain ⟨l, ws, nx, nl, hD3⟩ := hp
    obtain ⟨tt, v1, v2, rfl, ht, rfl, e1, e2⟩ := y
    cases e1
    have sY := same_upd (o := .tup [.int i, v2]) ht
    have ws4 := ws.mono sY
    obtain ⟨t, ev, rfl, e3, e4, es4, er4⟩ := LogAt.get (evs_same h2 (s1.trans ws4.sm)) e2
    refine gTup_i (SqT.of upd_same) ?_
    have hD4 := sY _ _ hD3
    generalize upd H3 tt (.tup [.int i, .ref t]) = H4 at *
    walk_at "y"
    refine ⟨rfl, ?_⟩
    walk_at "y"
    refine ⟨x, rfl, ?_⟩
    walk_at "y"
    refine wq_i ws4 (Nat.le_trans (stAt_opn es i) (by omega)) er4 (ok _ (List.mem_of_getElem? e3)) fun l' H5 ws' hl' off => ?_
    walk_at "y"
    have hD5 := off _ _ hD4 nx nl
    have nl' : D ≠ l' := by
      rcases hl' with rfl | hn
      · exact nl
      · exact ne_of_none hD4 hn
    rw [← stAt_succ e3] at ws'
    cases hr : (stAt es i).ret ev with
    | true =>
      walk_at "y"
      refine ⟨l', ws', nx, nl', ?_⟩
      rw [hD5, filterMap_snoc]
      simp [e3, hr]
    | false =>
      walk_at "y"
      refine ⟨_, hD5, ?_, l', ⟨ws'.x0, ws'.l0, fun b o e => by rw [upd_ne (ne_of_none e nD1)]; exact ws'.sm b o e, (upd_ne (Ne.symm nx)).trans ws'.at_.1, (upd_ne (Ne.symm nl')).trans ws'.at_.2⟩, nx, nl', ?_⟩
      · rw [List.length_map]
        exact Nat.lt_of_le_of_lt (Nat.le_trans (List.length_filterMap_le ..) (by simp; omega)) (show 40 < sizeLine from Nat.lt_of_lt_of_le (by decide) (sz4 (n := 41)))
      · rw [upd_same, filterMap_snoc]
        simp [e3, hr]
  · obtain ⟨l, ws, nx, nl, hD3⟩ := hp
    rw [ll] at hD3
    exact q D H' (s1.free nD1) (s1.trans ws.sm) hD3
theorem c_flaws (T : Sy K mg) : Cal gd P w K mg base (CX P w) 9 "flaws" (spFlaws K) := (cf_flaws T).cal
end

end L75
namespace L75
open PySem PySem.Spec PyProof.Rows L2
variable {gd : Bool}
local macro_rules | `(tactic| walk_at "y1") => `(tactic| with_reducible first
  | refine tSeq_i ?_ | refine tAsg_i ?_ | refine tCons_i ?_ | refine tNil_i ?_ | refine tC_i ?_ | refine tOp_i ?_ | refine tIfS_i ?_ | refine tTest_i ?_ | refine exBl_i ?_ | refine tRet_i ?_ | refine tCall_i ?_
  | refine tCB_i ?_ | refine tLst_i ?_ | refine tTup_i ?_ | refine rI0_i ?_ | refine tDrop_i ?_ | refine tNext_i ?_ | refine tB_i ?_ | refine tAnd_i ?_ | refine tOr_i ?_ | refine tNot_i ?_ | refine tAndV_i ?_ | refine tOrV_i ?_ | refine tNotV_i ?_
  | refine tYes_i ?_ | refine tTM_i ?_ | refine tPar_i ?_ | refine tSl_i ?_ | refine tNoPart_i ?_ | refine tPart_i ?_ | refine part_i ?_ | refine tMake_i ?_ | refine tProp_i ?_ | refine tCallOG_i ?_ | refine tVeI_i ?_ | refine tOst_i ?_ | refine tMkO_i ?_ | refine sFld_i ?_ | refine fldaug_i ?_ | refine gCons_i ?_ | refine gNil_i ?_ | refine tChain_i ?_ | refine tBM_i ?_ | refine rAdd2_i ?_ | refine rLe2_i ?_ | refine rEq2_i ?_ | refine rEq2_ss ?_ | refine rNe2_i ?_ | refine rNe2_ss ?_ | refine rIsN_i ?_ | refine rNotN_i ?_ | refine tTup_i2 ?_ | refine tIf_i ?_ | refine tUn_i ?_ | refine tDGet_i ?_ | refine sDPut_i ?_ | refine tFld_i ?_ | refine tRetN_i ?_ | refine tBreak_i ?_ | refine tCont_i ?_ | refine rU_i ?_)
local macro_rules | `(tactic| walk_at "yhead") => `(tactic| dsimp only [L2.start, List.map, List.length_cons, List.length_nil, Nat.reduceAdd, Nat.reduceSub, List.replicate, List.cons_append, List.nil_append])
local macro_rules | `(tactic| walk_at "y2") => `(tactic| first
  | walk_at "y1"
  | ((with_reducible refine tVar_i (v := ?v) ?h ?q); (case h => rfl))
  | ((with_reducible refine gName_i ?_); (dsimp only [L2.wipe, List.set]))
  | with_reducible refine iteT ?_ | with_reducible refine iteF ?_ | with_reducible refine iteNT ?_ | with_reducible refine iteNF ?_
  | ((with_reducible refine iteDT ?h ?q); (case h => first | decide +kernel | omega | assumption | exact nv1 | exact nv2 | exact nv3 | exact nv4)) | ((with_reducible refine iteDF ?h ?q); (case h => first | decide +kernel | omega | assumption | exact nv1 | exact nv2 | exact nv3 | exact nv4))
  | ((with_reducible refine iteNDT ?h ?q); (case h => first | decide +kernel | omega | assumption | exact nv1 | exact nv2 | exact nv3 | exact nv4)) | ((with_reducible refine iteNDF ?h ?q); (case h => first | decide +kernel | omega | assumption | exact nv1 | exact nv2 | exact nv3 | exact nv4))
  | ((with_reducible refine rIsi2_1 (T := ?T) (b := true) ?ty ?h ?q); (case ty => first | exact ty_str | exact ty_int | exact ty_bl | exact ty_non); (case h => decide +kernel))
  | ((with_reducible refine rIsi2_1 (T := ?T) (b := false) ?ty ?h ?q); (case ty => first | exact ty_str | exact ty_int | exact ty_bl | exact ty_non); (case h => decide +kernel))
  | ((with_reducible refine rEq2_s ?h ?q); (case h => rfl)) | ((with_reducible refine rNe2_s ?h ?q); (case h => rfl))
  | ((with_reducible refine rEq_i ?h ?q); (case h => rfl)) | ((with_reducible refine rNe_i ?h ?q); (case h => rfl)))
local macro_rules | `(tactic| walk_at "y") => `(tactic| repeat walk_at "y2")

section
variable {P : Program} {w : World} {K : PySem.W.Frag} {mg : Str → Option Value} {base : Heap}
def pairV : Int × Int → List V := fun t => [.int t.1, .int t.2]
def crossAt (es : List Ev) (i : Nat) : List (Int × Int) := match es[i]? with
  | some (.sh n) => if n ∈ (stAt es i).opn then (srt ((stAt es i).opn.drop ((stAt es i).opn.idxOf n + 1))).map fun m => (((i : Nat) : Int), m) else []
  | _ => []
def crossOf (es : List Ev) (i : Nat) : List (Int × Int) := (List.range i).flatMap (crossAt es)
theorem crossOf_succ (es : List Ev) (i : Nat) : crossOf es (i + 1) = crossOf es i ++ crossAt es i := by
  unfold crossOf
  rw [List.range_succ, List.flatMap_append]
  simp
theorem crossAt_len (es : List Ev) (i : Nat) (h : i ≤ 40) : (crossAt es i).length ≤ 40 := by
  unfold crossAt
  split
  · split
    · rw [List.length_map, (srt_perm _).length_eq, List.length_drop]
      have := stAt_opn es i
      omega
    · exact Nat.zero_le _
  · exact Nat.zero_le _
theorem crossOf_len (es : List Ev) : ∀ i, i ≤ 40 → (crossOf es i).length ≤ 40 * i
  | 0, _ => Nat.le_refl _
  | i + 1, h => by
    rw [crossOf_succ, List.length_append]
    have h1 := crossOf_len es i (by omega)
    have h2 := crossAt_len es i (by omega)
    omega
def spCross (K : PySem.W.Frag) : Sp := sp1 fun x H Q E => ( ∃ b p es, x = .ref p ∧ LogAt K b H p es ∧ ∀ D H' vs, H D = none → Same H H' → H' D = some (.lst vs) → Paired (TR pairV H') vs (crossOf es es.length) → Q (.ref D) H') ∨ BadC K H x E
theorem sc_crossings : FnScope ["log", "watcher", "found", "place", "event", "later", "entry"] ["log"] (defScope (top 33)) := ⟨rfl, rfl, rfl, by decide +kernel, rfl, by decide +kernel, by decide +kernel⟩
theorem cf_crossings (T : Sy K mg) : CalF gd P w K mg base (CX P w) 9 "crossings" (spCross K) 33 ["log"] := by
  refine T.calXF (F_crossings T) sc_crossings sp1_len (fun cdv f A outer s H vs Q E z h => ?_) (fun _ _ _ _ _ _ us hl => match us, hl with | [_], _ => rfl)
  have hu1 := hu_1 z; have hu2 := hu_2 z; have hu3 := hu_3 z
  obtain ⟨x0, rfl, h⟩ := h
  refine ⟨_, (pss_cons (ps_expr (pe_cX (c_check_log T) z (passes_call (takes_of rfl rfl rfl rfl) (fun _ _ _ _ h => h)) (pa_cons (pv 0) pa_nil))) (pss_cons (ps_par (i := 1) (j := 2) (by rfl) sc_crossings.nd rfl rfl (by decide) rfl rfl (pa_cons (pe_mk0 (m_Watcher T) z) (pa_cons (pe_lst pa_nil) pa_nil)) (by rfl)) (pss_cons (ps_for (passes_of rfl) (by rfl) (pi_enum2K (K := K) rfl (by rfl) (T.free "enumerate") (pv 0)) (pg_tupK (K := K) rfl (by rfl) (pgs_cons (pg_name (i := 3) sc_crossings.nd rfl (by first | exact Or.inl rfl | exact Or.inr rfl)) (pgs_cons (pg_name (i := 4) sc_crossings.nd rfl (by first | exact Or.inl rfl | exact Or.inr rfl)) pgs_nil))) (pss_cons (ps_if (PW.pt (pw_and (pt_cmpR (r := rEq2 K) (op_eq2 hu1) (pe_ix (r := rGet K) (ix_get hu3) (pv 4) pe_int (fun _ _ => rfl)) pe_str (nomark _)) (pw_and1 (pt_cmpR (r := rIn2 K) (op_in2 hu2) (pe_ix (r := rGet K) (ix_get hu3) (pv 4) pe_int (fun _ _ => rfl)) (pe_prK (K := K) rfl (p_now T) z (pv 1)) rfl)))) (pss_cons (ps_set (i := 5) sc_crossings.nd rfl (by first | exact Or.inl rfl | exact Or.inr rfl) (pe_slice (r := rSl2 K) sl_2 (pe_prK (K := K) rfl (p_now T) z (pv 1)) (po_some (pe_op (r := rAdd2 K) op_add2 (pe_tmK (K := K) (r := rTIdx K) rfl PySem.F.slot_tuple_index PySem.F.type_tuple_index mt_tindex (pe_prK (K := K) rfl (p_now T) z (pv 1)) (pa_cons (pe_ix (r := rGet K) (ix_get hu3) (pv 4) pe_int (fun _ _ => rfl)) pa_nil)) pe_int)) po_none)) (pss_one (ps_expr (pe_bmK (K := K) rfl PySem.F.plainAttrs_list PySem.F.slot_list_extend PySem.F.type_list_extend mt_extend2 (pv 2) (pa_cons (pe_lc (own := [("entry", 6)]) (g := gName 6) (by rfl) sc_crossings.nd (pi_anyK (K := K) rfl (pe_callB (r := rSortedT K) cr_sortedT2 (by rfl) (T.free "sorted") (by decide +kernel) (pa_cons (pv 5) pa_nil))) (blkOk_by (own := [("entry", 6)]) (N := ["log", "watcher", "found", "place", "event", "later", "entry"]) (sc := (defScope (top 33))) (by decide +kernel)) (fun _ _ _ _ _ => (pg_name (i := 6) sc_crossings.nd rfl (by first | exact Or.inl rfl | exact Or.inr rfl))) (fun _ _ _ _ _ => pts_nil) (fun _ _ _ _ _ => (pe_tup (pa_cons (pv 3) (pa_cons (pv 6) pa_nil))))) pa_nil))))) pss_nil) (pss_one (ps_expr (pe_wq T rfl rfl z (pv 1) (pa_cons (pv 4) pa_nil)))))) (pss_one (ps_ret (pv 2)))))), ?_⟩
  rcases h with ⟨b, p, es, rfl, lg, q⟩ | bad
  rotate_left
  · walk_at "yhead"; walk_at "y"
    exact bad.check
  obtain ⟨vs, h1, h2, ok, hl⟩ := id lg
  have ll : vs.length = es.length := h2.length
  walk_at "yhead"; walk_at "y"
  refine lg.check fun H1 s1 => ?_
  walk_at "y"
  refine wnew_i fun x dx l H2 ws => ?_
  walk_at "y"
  refine ⟨sz4 (by simp), fun D nD => ?_⟩
  have sH3 := same_upd (H := H2) (o := .lst []) nD
  have eD := upd_same (H := H2) (a := D) (o := .lst [])
  generalize upd H2 D (.lst []) = H3 at sH3 eD ⊢
  refine ⟨_, _, rfl, ?_⟩
  have nD1 : H1 D = none := ws.sm.free nD
  have nx := Ne.symm (ne_of_none ws.at_.1 nD)
  have nl := Ne.symm (ne_of_none ws.at_.2 nD)
  replace ws := ws.mono sH3
  walk_at "y"
  refine for_eb b ?_
  walk_at "y"
  refine ⟨p, vs, rfl, SqB.of (ws.sm _ _ (s1 _ _ h1)), for_it walk_eb (Pv := fun i σ H' => (∃ l us, WS K H1 H' x dx l (stAt es i) ∧ D ≠ l ∧ H' D = some (.lst us) ∧ Paired (TR pairV H') us (crossOf es i)) ∧ ∃ a c d e, σ = [some (.ref p), some (.ref x), some (.ref D), a, c, d, e]) ⟨⟨l, [], ws, nl, eD, .nil⟩, _, _, _, _, rfl⟩ (fun i σ H' _ hp => let ⟨⟨l, us, ws, _⟩, _⟩ := hp; ws.sm _ _ (s1 _ _ h1)) (fun i v σ H4 H5 hi hp y => ?_) fun σ H' hp => ?_⟩
  · obtain ⟨⟨l, us, ws, nl, hD4, pus⟩, a, c, d, e, rfl⟩ := hp
    obtain ⟨tt, v1, v2, rfl, ht, rfl, e1, e2⟩ := y
    cases e1
    have sY := same_upd (o := .tup [.int i, v2]) ht
    have ws5 := ws.mono sY
    obtain ⟨t, ev, rfl, e3, e4, es4, er1⟩ := LogAt.get (evs_same h2 s1) e2
    replace e4 := ws5.sm _ _ e4
    refine gTup_i (SqT.of upd_same) ?_
    have hD5 := sY _ _ hD4
    have pus5 := (firm_TR _).all (sT sY) pus
    generalize upd H4 tt (.tup [.int i, .ref t]) = H5 at *
    have okE := ok _ (List.mem_of_getElem? e3)
    have hol : (stAt es i).opn.length ≤ 100 := Nat.le_trans (stAt_opn es i) (by omega)
    have i40 : i ≤ 40 := by omega
    have lus : us.length = (crossOf es i).length := pus.length
    have lus2 := crossOf_len es i i40
    -- the end of a turn: the watcher is called
    have fin : ∀ (H6 : Hp) (us' : List V) (N : L2.St → Hp → Prop) (σ : L2.St), (∀ H', (∃ l us, WS K H1 H' x dx l (stAt es (i + 1)) ∧ D ≠ l ∧ H' D = some (.lst us) ∧ Paired (TR pairV H') us (crossOf es (i + 1))) → N σ H') → WS K H1 H6 x dx l (stAt es i) → H6 D = some (.lst us') → Paired (TR pairV H6) us' (crossOf es (i + 1)) →
        (∃ dx fs, H6 x = some (.ins (He.ga K "Watcher") dx fs)) ∧ spWQ K [V.ref x, V.ref t] H6 (fun _ H' => N σ H') E0 := fun H6 us' N σ hN ws6 hD6 p6 => by
      refine wq_i ws6 hol (er1.same ws6.sm) okE fun l' H7 ws7 hl' off => hN H7 ⟨l', us', by rw [stAt_succ e3]; exact ws7, ?_, off _ _ hD6 nx nl, ?_⟩
      · rcases hl' with rfl | hn
        · exact nl
        · exact ne_of_none hD6 hn
      · refine p6.mono fun v a h => ?_
        obtain ⟨g, eg, hg⟩ := h
        exact ⟨g, eg, off _ _ hg (ne_of hg ws6.at_.1 (by intro z; cases z)) (ne_of hg ws6.at_.2 (by intro z; cases z))⟩
    have nf : (∀ n, ev ≠ .sh n) → crossOf es (i + 1) = crossOf es i := fun hn => by
      rw [crossOf_succ, show crossAt es i = [] by
        unfold crossAt
        rw [e3]
        cases ev with
        | sh n => exact absurd rfl (hn n)
        | _ => rfl, List.append_nil]
    walk_at "y"
    cases ev with
    | op n =>
      refine rGet_t (n := 0) (SqT.of e4) rfl ?_
      walk_at "y"
      refine ⟨x, rfl, ?_⟩
      walk_at "y"
      exact fin H5 us _ _ (fun H' h => ⟨h, _, _, _, _, rfl⟩) ws5 hD5 (by rw [nf (by intro n; exact nofun)]; exact pus5)
    | sh n =>
      refine rGet_t (n := 0) (SqT.of e4) rfl ?_
      walk_at "y"
      refine rGet_t (n := 1) (SqT.of e4) rfl ?_
      walk_at "y"
      refine ⟨x, dx, _, rfl, ws5.at_.1, _, rfl, x, dx, l, _, rfl, ws5.at_, fun t1 o1 H6 n1 s6 k1 _ _ => ?_⟩
      refine rIn2_f (b := false) (SqT.frz k1) rfl (flat_ints _) ?_
      rw [inV_ints]
      have ws6 := ws5.mono s6
      by_cases c : n ∈ (stAt es i).opn
      · walk_at "y"
        refine ⟨x, dx, _, rfl, ws6.at_.1, _, rfl, x, dx, l, _, rfl, ws6.at_, fun t2 o2 H7 n2 s7 k2 _ _ => ?_⟩
        have ws7 := ws6.mono s7
        walk_at "y"
        refine ⟨x, dx, _, rfl, ws7.at_.1, _, rfl, x, dx, l, _, rfl, ws7.at_, fun t3 o3 H8 n3 s8 k3 c3 d3 => ?_⟩
        have ws8 := ws7.mono s8
        have s58 := (s6.trans s7).trans s8
        refine ⟨⟨t3, o3, _, rfl, k3, c3, d3⟩, ?_⟩
        walk_at "y"
        refine rGet_t (n := 1) (SqT.of (s58 _ _ e4)) rfl ?_
        walk_at "y"
        refine ⟨t3, _, n, rfl, rfl, SqT.frz k3, c, ?_⟩
        walk_at "y"
        rw [show ((((stAt es i).opn.idxOf n : Nat) : Int) + 1) = (((stAt es i).opn.idxOf n + 1 : Nat) : Int) by omega]
        refine ⟨_, rfl, ?_⟩
        walk_at "y"
        refine rSl2_t (SqT.frz (s8 _ _ k2)) fun g H9 hg s9 => ?_
        rw [cut_from, ← List.map_drop] at hg
        have ws9 := ws8.mono s9
        have s59 := s58.trans s9
        have hD9 := s59 _ _ hD5
        walk_at "y"
        refine ⟨tyL hD9, ?_⟩
        walk_at "y"
        refine lc_b true ?_
        walk_at "y"
        refine ⟨g, _, rfl, hg, fun ns' r perm le hr => ?_⟩
        have sr := same_upd (o := .lst (ns'.map V.int)) hr
        have er := upd_same (H := H9) (a := r) (o := .lst (ns'.map V.int))
        generalize upd H9 r (.lst (ns'.map V.int)) = HA at sr er ⊢
        have ens := srt_eq perm le
        have lns : ns'.length ≤ 40 := by
          rw [perm.length_eq, List.length_drop]
          have := stAt_opn es i
          omega
        refine ⟨r, rfl, ⟨_, SqL.of er⟩, lc_pure (walk_b (b := true) (xs := ns'.map V.int)) (by rw [List.length_map]; exact sz4 (by omega)) (fun j => (ns'[j]?).bind fun m => some (((i : Nat) : Int), m)) (firm_TR pairV) (fun H' s => s _ _ er) (fun i H0 x H1 y => by obtain ⟨rfl, _⟩ := y; exact Same.refl _) (fun j v H0 HB hj s0 sB y N C hC hN => ?_) fun F HB ws' hF sB hB pr => ?_⟩
        · obtain ⟨rfl, e5⟩ := y
          rw [List.getElem?_map] at e5
          cases e6 : ns'[j]? with
          | none => rw [e6] at e5; cases e5
          | some m =>
            rw [e6] at e5
            cases e5
            walk_at "y"
            refine ⟨rfl, ?_⟩
            walk_at "y"
            refine ⟨sz4 (by simp), fun G nG => ?_⟩
            have sHC := same_upd (H := HB) (o := .tup [.int i, .int m]) nG
            have eG := upd_same (H := HB) (a := G) (o := .tup [.int i, .int m])
            generalize upd HB G (.tup [.int i, .int m]) = HC at sHC eG ⊢
            exact hC _ _ (((i : Nat) : Int), m) sHC (by rw [e6]; rfl) ⟨G, rfl, eG⟩
        · rw [List.length_map, filterMap_ix] at pr
          have e7 : ns'.filterMap (fun m => some (((i : Nat) : Int), m)) = crossAt es i := by
            unfold crossAt
            rw [e3]
            dsimp only
            rw [if_pos c, ← ens]
            exact congrFun (List.filterMap_eq_map (f := fun m : Int => (((i : Nat) : Int), m))) ns'
          rw [e7] at pr
          have wsB := (ws9.mono sr).mono sB
          have sAB := sr.trans sB
          have hDB := sAB _ _ hD9
          have lpr := pr.length
          have lca := crossAt_len es i i40
          walk_at "y"
          refine ext_i hDB hB (by rw [sizeLine_eq]; omega) ?_
          have nDx := nx
          walk_at "y"
          refine ⟨x, rfl, ?_⟩
          walk_at "y"
          have off : ∀ b o, HB b = some o → b ≠ D → upd HB D (.lst (us ++ ws')) b = some o := fun b o e n => by rw [upd_ne n]; exact e
          refine fin _ (us ++ ws') _ _ (fun H' h => ⟨h, _, _, _, _, rfl⟩) ⟨wsB.x0, wsB.l0, fun b o e => off b o (wsB.sm b o e) (ne_of_none e nD1), off _ _ wsB.at_.1 (Ne.symm nx), off _ _ wsB.at_.2 (Ne.symm nl)⟩ upd_same ?_
          rw [crossOf_succ]
          exact (firm_TR _).all (sameT_upd hDB) (paired_append ((firm_TR _).all (sT (s59.trans sAB)) pus5) pr)
      · walk_at "y"
        refine ⟨x, rfl, ?_⟩
        walk_at "y"
        refine fin H6 us _ _ (fun H' h => ⟨h, _, _, _, _, rfl⟩) ws6 (s6 _ _ hD5) ?_
        rw [crossOf_succ, show crossAt es i = [] by
          unfold crossAt
          rw [e3]
          exact if_neg c, List.append_nil]
        exact (firm_TR _).all (sT s6) pus5
    | fa n k l =>
      refine rGet_t (n := 0) (SqT.of e4) rfl ?_
      walk_at "y"
      refine ⟨x, rfl, ?_⟩
      walk_at "y"
      exact fin H5 us _ _ (fun H' h => ⟨h, _, _, _, _, rfl⟩) ws5 hD5 (by rw [nf (by intro n; exact nofun)]; exact pus5)
    | no v d =>
      refine rGet_t (n := 0) (SqT.of e4) rfl ?_
      walk_at "y"
      refine ⟨x, rfl, ?_⟩
      walk_at "y"
      exact fin H5 us _ _ (fun H' h => ⟨h, _, _, _, _, rfl⟩) ws5 hD5 (by rw [nf (by intro n; exact nofun)]; exact pus5)
    | sw z v d =>
      refine rGet_t (n := 0) (SqT.of e4) rfl ?_
      walk_at "y"
      refine ⟨x, rfl, ?_⟩
      walk_at "y"
      exact fin H5 us _ _ (fun H' h => ⟨h, _, _, _, _, rfl⟩) ws5 hD5 (by rw [nf (by intro n; exact nofun)]; exact pus5)
  · obtain ⟨⟨l, us, ws, nl, hD4, pus⟩, a, c, d, e, rfl⟩ := hp
    walk_at "y"
    rw [ll] at pus
    exact q D H' us (s1.free nD1) (s1.trans ws.sm) hD4 pus
theorem c_crossings (T : Sy K mg) : Cal gd P w K mg base (CX P w) 9 "crossings" (spCross K) := (cf_crossings T).cal
end

end L75
namespace L75
open PySem PySem.Spec PyProof.Rows L2
variable {gd : Bool}
local macro_rules | `(tactic| walk_at "y1") => `(tactic| with_reducible first
  | refine tSeq_i ?_ | refine tAsg_i ?_ | refine tCons_i ?_ | refine tNil_i ?_ | refine tC_i ?_ | refine tOp_i ?_ | refine tIfS_i ?_ | refine tTest_i ?_ | refine exBl_i ?_ | refine tRet_i ?_ | refine tCall_i ?_
  | refine tCB_i ?_ | refine tLst_i ?_ | refine tTup_i ?_ | refine rI0_i ?_ | refine tDrop_i ?_ | refine tNext_i ?_ | refine tB_i ?_ | refine tAnd_i ?_ | refine tOr_i ?_ | refine tNot_i ?_ | refine tAndV_i ?_ | refine tOrV_i ?_ | refine tNotV_i ?_
  | refine tIf_i ?_ | refine tUn_i ?_ | refine tDGet_i ?_ | refine sDPut_i ?_ | refine tFld_i ?_ | refine tRetN_i ?_ | refine tBreak_i ?_ | refine tCont_i ?_ | refine rU_i ?_)
local macro_rules | `(tactic| walk_at "yhead") => `(tactic| dsimp only [L2.start, List.map, List.length_cons, List.length_nil, Nat.reduceAdd, Nat.reduceSub, List.replicate, List.cons_append, List.nil_append])
local macro_rules | `(tactic| walk_at "y2") => `(tactic| first
  | walk_at "y1"
  | ((with_reducible refine tVar_i (v := ?v) ?h ?q); (case h => rfl))
  | ((with_reducible refine gName_i ?_); (dsimp only [List.set]))
  | ((with_reducible refine rEq_i ?h ?q); (case h => rfl)) | ((with_reducible refine rNe_i ?h ?q); (case h => rfl)))
local macro_rules | `(tactic| walk_at "y") => `(tactic| repeat walk_at "y2")

/-! own exceptions over any base: the class's facts, its making, self.f = v -/
open Builtin Builtin.ObjectAttr in
theorem osaT {prog : Program} {w : World} {A : Around} {R : Result → Shared → Prop} {hp : Heap} {g : Array GenState} {d : Drawn} {t : Nat} {os : OsState} {K : PySem.W.Frag} {name : Str} {tk : Tok} {v : Value} {x C : Addr} {fv : Array Value} {B newId initId : String} {bmB : List Value} (T : OexT K C B newId initId bmB)
    (X : K.In hp) (hx : hp.get? x = some { cls := .ref C, data := .fields fv }) (ht : PySem.W.takerIn K C name = some none)
    (hq : ∀ h' tk' dx, (∀ b o, b ≠ x → hp.get? b = some o → h'.get? b = some o) → hp.objs.size ≤ dx → dx ≠ x → h'.get? x = some { cls := .ref C, dict := some dx, data := .fields fv } →
      h'.Ns1 dx (fun y => if y = name then some v else none) → R (.ok (.ret .none)) ⟨h', g, d, tk', os⟩) :
    codeAny (model prog w) A (.call (.builtin "object.__setattr__") ⟨[.ref x, .str name tk, v], []⟩) R ⟨hp, g, d, t, os⟩ := by
  have I : PySem.W.InstAt hp x { cls := .ref C, data := .fields fv } C none := ⟨hx, rfl, rfl, trivial⟩
  have hxs : x ≠ hp.objs.size := Nat.ne_of_lt (Heap.lt_size hx)
  refine PySem.W.osa_openX T.SF X I T.ov ht fun b => ?_
  obtain ⟨cd, hcd, hh⟩ := PySem.W.any_some T.hd
  have hcls : PySem.W.Looks (model prog w) hp (classData C) cd := PySem.W.looks_clsIn X hcd
  obtain ⟨nm, bs, mro, ns, qn, hdc, sn, sb, ab, col, del⟩ := cd
  dsimp only at hh
  subst hh
  show wpAny _ _ (storeInOwnDict (.ref x) (.ref C) (.str name tk) name v b) _ _ _
  unfold storeInOwnDict ownDictForStores
  repeat (first | with_reducible refine PySem.HandSPX.store_in_new ?_ ?_ | with_reducible refine wpAny_loadPart_at hx ?_ | with_reducible refine hcls.at ?_ | wp_step)
  · exact ⟨_, #[], _, (Heap.get?_update_ne _ _ _ _ hxs.symm).trans (Heap.get?_push_at rfl rfl), rfl, fun e he => absurd he (by simp), fun _ => rfl⟩
  · intro h' tk' hn' hs
    have hx₁ : (hp.push { cls := .type "dict", data := .dict #[] }).get? x = some { cls := .ref C, data := .fields fv } := Heap.get?_push_of_some _ hx
    refine hq h' tk' hp.objs.size (fun b o hb ho => ?_) (Nat.le_refl _) hxs.symm ?_ hn'
    · exact (hs.2 b (Nat.ne_of_lt (Heap.lt_size ho))).trans ((Heap.get?_update_ne _ _ _ _ hb).trans (Heap.get?_push_of_some _ ho))
    · exact (hs.2 x hxs).trans (Heap.get?_update_self _ hx₁ rfl)
section
variable {X : Cx} {pins : List (Addr × Obj)} {σ : L2.St} {H : Hp} {s : Shared} {a C : Addr} {B newId initId : String} {bmB : List Value}
theorem ostT {f : Str} {y : V} {u : Value} {Q : Unit → Shared → Prop} {E : Value → Shared → Prop} {A : Around} (T : OexT X.K C B newId initId bmB) (I : Inv X pins σ H s) (e : H a = some (exo a C none)) (ht : PySem.W.takerIn X.K C f = some none) (ry : L2.RelV y u)
    (h : ∀ dx s', H dx = none → dx ≠ a → Inv X pins σ (upd (upd H dx (exd dx [(f, y)])) a (exo a C (some dx))) s' → Q () s') : wpAny (model X.prog X.w) A (setAttr (.ref a) f u) Q E s := by
  obtain ⟨t1, ho⟩ := exo_at I.hok e
  obtain ⟨hp, g, d, t, os⟩ := s
  refine PySem.W.set_plain I.kIn (ox := { cls := .ref C, dict := none, data := .fields #[.ref t1, .none, .none, .none, .bool false, .none] }) (od := none) ⟨ho, rfl, rfl, trivial⟩ T.sa ?_
  refine osaT T I.kIn ho ht fun h' tk' dx k dn dne hx hn => ?_
  have hnd : H dx = none := I.hok.fresh dn
  have nd : ∀ {b : Addr} {o : Obj}, hp.get? b = some o → b ≠ dx := fun {b o} q => Nat.ne_of_lt (Nat.lt_of_lt_of_le (Heap.lt_size q) dn)
  have na : ∀ {b : Addr}, H b = none → b ≠ a := fun {b} n z => by
    rw [z, e] at n
    cases n
  have U : Un X.fs [] H (upd (upd H dx (exd dx [(f, y)])) a (exo a C (some dx))) hp h' :=
    ⟨fun b o q n _ _ => k b o (na n) q, fun b o q n _ _ => ⟨o.slots, k b o (na n) q⟩, fun b o q n _ => by rw [upd_ne (na n), upd_ne (nd q)]; exact n, fun b o q _ => by
      by_cases hb : b = a
      · exact ⟨_, by rw [hb]; exact hx⟩
      · exact ⟨o, k b o hb q⟩, fun b xs q => by rw [upd_ne (at_ne e q exo_tup), upd_ne (ne_of_none q hnd)]; exact q, fun b o v q => by rw [upd_ne (at_ne e q exo_frz), upd_ne (ne_of_none q hnd)]; exact q,
      fun b ps q => ⟨#[], by rw [upd_ne (at_ne e q exo_tbl), upd_ne (ne_of_none q hnd), q]; simp⟩⟩
  refine h dx _ hnd dne (I.un (t' := tk') U fun b o q => ?_)
  by_cases hb : b = a
  · subst hb
    rw [upd_same] at q
    cases q
    exact exo_ok hx
  · rw [upd_ne hb] at q
    by_cases hd : b = dx
    · subst hd
      rw [upd_same] at q
      cases q
      exact exd_ok hn (relO_put (fs := []) ry fun g => True.intro)
    · rw [upd_ne hd] at q
      refine (I.hok b o q).stay (fun c v hc z => k c v ?_ z) (fun c hc => by rw [upd_ne (at_ne e hc exo_own), upd_ne (ne_of_none hc hnd)]; exact hc) fun c xs hc => by rw [upd_ne (at_ne e hc exo_tup), upd_ne (ne_of_none hc hnd)]; exact hc
      rcases hc with hc | hc
      · rw [hc]; exact hb
      · exact at_ne e hc exo_own
/-- the base's __init__(self, ..) -/
theorem oinitT {us : List Value} {Q : Value → Shared → Prop} (T : OexT X.K C B newId initId bmB) (I : Inv X pins σ H s) (e : H a = some (exo a C none)) (hl : us.length ≤ sizeLine) (h : ∀ s', Inv X pins σ H s' → Q .none s') :
    wpAny (model X.prog X.w) X.A (call (.builtin initId) (.ref a :: us)) Q X.xe s := by
  obtain ⟨nm, N, q, bs, bm, hdct, sn, sub, ab, col, dd, k0, k1, k2, k3, k5, hC, hT⟩ := PySem.W.excInit_of I.kIn T.q
  obtain ⟨t1, ho⟩ := exo_at I.hok e
  obtain ⟨hp, g, d, t, os⟩ := s
  refine wpAny_call (PySem.HandSPX.init_base T.F hT hC ho hl fun h' t2 k hx => ?_)
  have J := I.write (t' := t) (x := a) (e := a) (o := exo a C none) (by rw [e]; exact True.intro) (.inl rfl) k ⟨_, hx⟩ (exo_ok hx)
  have eu : upd H a (exo a C none) = H := by
    funext b
    by_cases hb : b = a
    · rw [hb, upd_same, e]
    · rw [upd_ne hb]
  rw [eu] at J
  exact h _ J
end
section
variable {X : Cx} {C : Addr} {B newId initId : String} {bmB : List Value} {k : Nat} {fI : Addr} {fd : FuncData} {ps : List Str} {sp : Sp} {x f m : Str} {e o : Expr} {es : List Expr} {ta : TA} {to te : TE} {p p' p1 p2 pos : Pos}
theorem pmkT {ds : List Value} {dvs : List V} (T : OexT X.K C B newId initId bmB) (iC : PySem.W.findIn X.K (.ref C) "__init__" = some (some (.ref fI))) (tI : PySem.W.typeIn X.K (.ref fI) = some (.type "function"))
    (F1 : FnOk X.prog X.w X.K X.mg X.base CX0 k fI fd ps sp) (hr : Room (k + 1) X.A) (hb : Binds X.K fd ps ds) (hd : Vals dvs ds) (hg : Gl X x) (hm : X.mg x = some (.ref C)) (ha : PA X (e :: es) ta)
    (hdb : (x == ("__debug__" : Str)) = false := by decide) (he : starEach (e :: es) X.env = (false, eval e X.env) :: starEach es X.env := by rfl) (hpl : (backTo pos (starEach es X.env)).any (·.1) = false := by rfl) :
    PMk X (.Call (.Name x p) (e :: es) [] pos) (tMkO C sp dvs ta) := by
  intro pins s σ H Q I h
  refine wpAny_Call_Name_kw (ld_glob I hg hm ?_ hdb)
  refine PySem.W.callWith_K (h₀ := X.base) I.ok.mod.kin T.kC (thn (ha.run pos pins s σ H _ I h) fun us s1 ⟨vs, H1, I1, r1, hz, q1⟩ => ⟨I1.kIn, ?_⟩) he hpl
  show wpAny _ _ (call (.ref C) us) _ _ _
  obtain ⟨nm, N, q, bs, bm, hdct, sn, sub, ab, col, dd, k0, k1, k2, k3, k5, hC, hT⟩ := PySem.W.excInit_of I1.kIn T.q
  obtain ⟨hp, g, dr, tk, os⟩ := s1
  have hsz : hp.objs.size ≤ hp.objs.size + 1 := Nat.le_succ _
  have hn : H1 (hp.objs.size + 1) = none := I1.hok.fresh hsz
  have hq := q1 (hp.objs.size + 1) hn
  have kk : ∀ b o, hp.get? b = some o → ((hp.push (PySem.W.kdv_tup us)).push (PySem.HandSPX.excO C hp.objs.size)).get? b = some o := fun b o e => Heap.get?_push_of_some _ (Heap.get?_push_of_some _ e)
  have hget : ((hp.push (PySem.W.kdv_tup us)).push (PySem.HandSPX.excO C hp.objs.size)).get? (hp.objs.size + 1) = some (PySem.HandSPX.excO C hp.objs.size) := by heap_get
  have I2 : Inv X pins σ (upd H1 (hp.objs.size + 1) (exo (hp.objs.size + 1) C none)) ⟨(hp.push (PySem.W.kdv_tup us)).push (PySem.HandSPX.excO C hp.objs.size), g, dr, tk, os⟩ :=
    I1.laid (t' := tk) (a := hp.objs.size + 1) (o := exo (hp.objs.size + 1) C none) (h' := (hp.push (PySem.W.kdv_tup us)).push (PySem.HandSPX.excO C hp.objs.size)) kk hsz (exo_ok hget)
  have r2 : Vals (V.ref (hp.objs.size + 1) :: (vs ++ dvs)) (Value.ref (hp.objs.size + 1) :: (us ++ ds)) := .cons rfl (r1.append hd)
  have hl : (Value.ref (hp.objs.size + 1) :: us ++ ds).length = ps.length := by
    have e := r2.length
    rw [F1.len _ _ _ _ hq] at e
    exact e.symm
  have hus : us.length ≤ sizeLine := by
    rw [← Paired.length r1, sizeLine_eq]
    omega
  refine wpAny_call (PySem.HandSPX.call_own T.F hT hC (PySem.W.looks_findIn I1.kIn iC) (fun self => PySem.W.bind_fn I1.kIn self tI) hus
    (codeAny_mono (F1.run _ X.stack _ _ ⟨Value.ref (hp.objs.size + 1) :: us, []⟩ (Value.ref (hp.objs.size + 1) :: (us ++ ds)) _ _ (fun _ _ _ => False) (hr.make C us []) (I2.env0.make C us []) (hb _ (Value.ref (hp.objs.size + 1) :: us) I2.kIn hl) r2 hq) fun r s' hq' => ?_))
  cases r with
  | error er => exact False.elim hq'
  | ok fl =>
    cases fl with
    | ret u =>
      obtain ⟨v, H2, os2, bare2, un2, hok2, rv, ev, d, fs, ea, ed, hd1, q2⟩ := hq'
      subst ev
      obtain ⟨h2, g2, d2, t2, os'⟩ := s'
      exact ⟨rv, mk_end (raises_own T.exC T.tyC) I1 hsz kk un2 hok2 os2 bare2 ea ed hd1 q2⟩
    | next => exact False.elim hq'
    | brk => exact False.elim hq'
    | cont => exact False.elim hq'
def tBiT (K : PySem.W.Frag) (C : Addr) (ta : TA) : TE := fun σ H Q => ta σ H fun vs H1 => ∃ (a : Addr) (ws : List V), vs = .ref a :: ws ∧ ws.length ≤ 1000 ∧ H1 a = some (exo a C none) ∧ Q .non H1
theorem pe_binit {pl : Sem Bool} (T : OexT X.K C B newId initId bmB) (V : BiC X.K m initId) (hh : PySem.W.handedIn (.builtin initId) = true) (hg : Gl X m) (hm : X.mg m = some (.ref (He.ga X.K m))) (ha : PA X (e :: es) ta)
    (hc : eval (.Call (.Attribute (.Name m p1) "__init__" p2) (e :: es) [] pos) X.env = (do
      let ov ← eval (.Name m p1) X.env
      standAt p2.atName
      let (f, first) ← holding [ov] (getMethod ov "__init__" pl)
      callWith pos f first (backTo pos (starEach (e :: es) X.env)) (backToKw pos (keywordEach [] X.env))) := by rfl)
    (he : starEach (e :: es) X.env = (false, eval e X.env) :: starEach es X.env := by rfl) (hpl : (backTo pos (starEach es X.env)).any (·.1) = false := by rfl) (hdb : (m == ("__debug__" : Str)) = false := by decide) :
    PE X (.Call (.Attribute (.Name m p1) "__init__" p2) (e :: es) [] pos) (tBiT X.K C ta) := by
  refine ⟨fun pins s σ H Q I h => ?_⟩
  refine PySem.W.methodCall_KW (ld_glob I hg hm ?_ hdb) hc
  refine PySem.W.method_cls I.kIn V.g (PySem.W.cls_value I.kIn V.r V.f hh ?_)
  show wpAny _ _ (callWith pos (Value.builtin initId) [] (backTo pos (starEach (e :: es) X.env)) []) _ _ _
  refine PyProof.Rows.callWith_method1 (thn (ha.run pos pins _ σ H _ (I.tok _) h) fun us s1 ⟨vs, H1, I1, r1, a, ws, ev, hl, ea, q⟩ => ?_) he hpl
  subst ev
  cases r1 with
  | @cons _ u0 _ ur ra rw' =>
    obtain rfl : u0 = Value.ref a := ra
    exact oinitT T I1 ea (by rw [← rw'.length, sizeLine_eq]; omega) fun s' J => ⟨.non, H1, J, rfl, q⟩
/-- self.f = e -/
def tOsT (C : Addr) (f : Str) (to te : TE) : TS := fun D σ H => te σ H fun y H1 => to σ H1 fun x H2 => ∃ a : Addr, x = .ref a ∧ H2 a = some (exo a C none) ∧ ∀ dx, H2 dx = none → dx ≠ a → D.nx σ (upd (upd H2 dx (exd dx [(f, y)])) a (exo a C (some dx)))
theorem ps_ostT (T : OexT X.K C B newId initId bmB) (ht : PySem.W.takerIn X.K C f = some none) (ho : PE X o to) (he : PE X e te) (hs : swapsWith e (some (.Attribute o f p')) pos.line X.env = pure false := by rfl) : PS X (.Assign [.Attribute o f p'] e pos) (tOsT C f to te) := by
  refine ⟨fun pins s σ H D I h => ?_⟩
  refine plainObj_wpAny_Assign_Attribute (thn (he.run pins s σ H _ I h) fun v s1 ⟨y, H1, I1, r1, q1⟩ => thn (ho.run pins s1 σ H1 _ I1 q1) fun u s2 ⟨x, H2, I2, r2, a, ex, ea, q⟩ => ?_) hs
  subst ex
  obtain rfl : u = Value.ref a := r2
  exact ostT T I2 ea ht r1 fun dx s' n ne J => ⟨σ, _, J, q dx n ne⟩
end

end L75
namespace L75
open PySem PySem.Spec PyProof.Rows L2
variable {gd : Bool}
local macro_rules | `(tactic| walk_at "y1") => `(tactic| with_reducible first
  | refine tSeq_i ?_ | refine tAsg_i ?_ | refine tCons_i ?_ | refine tNil_i ?_ | refine tC_i ?_ | refine tOp_i ?_ | refine tIfS_i ?_ | refine tTest_i ?_ | refine exBl_i ?_ | refine tRet_i ?_ | refine tCall_i ?_
  | refine tCB_i ?_ | refine tLst_i ?_ | refine tTup_i ?_ | refine rI0_i ?_ | refine tDrop_i ?_ | refine tNext_i ?_ | refine tB_i ?_ | refine tAnd_i ?_ | refine tOr_i ?_ | refine tNot_i ?_ | refine tAndV_i ?_ | refine tOrV_i ?_ | refine tNotV_i ?_
  | refine tYes_i ?_ | refine tTM_i ?_ | refine tPar_i ?_ | refine tSl_i ?_ | refine tNoPart_i ?_ | refine tPart_i ?_ | refine part_i ?_ | refine tMake_i ?_ | refine tProp_i ?_ | refine tCallOG_i ?_ | refine tVeI_i ?_ | refine tOst_i ?_ | refine tMkO_i ?_ | refine sFld_i ?_ | refine fldaug_i ?_ | refine gCons_i ?_ | refine gNil_i ?_ | refine tChain_i ?_ | refine tBM_i ?_ | refine rAdd2_i ?_ | refine rLe2_i ?_ | refine rEq2_i ?_ | refine rEq2_ss ?_ | refine rNe2_i ?_ | refine rNe2_ss ?_ | refine rIsN_i ?_ | refine rNotN_i ?_ | refine tTup_i2 ?_ | refine tIf_i ?_ | refine tUn_i ?_ | refine tDGet_i ?_ | refine sDPut_i ?_ | refine tFld_i ?_ | refine tRetN_i ?_ | refine tBreak_i ?_ | refine tCont_i ?_ | refine rU_i ?_)
local macro_rules | `(tactic| walk_at "yhead") => `(tactic| dsimp only [L2.start, List.map, List.length_cons, List.length_nil, Nat.reduceAdd, Nat.reduceSub, List.replicate, List.cons_append, List.nil_append])
local macro_rules | `(tactic| walk_at "y2") => `(tactic| first
  | walk_at "y1"
  | ((with_reducible refine tVar_i (v := ?v) ?h ?q); (case h => rfl))
  | ((with_reducible refine gName_i ?_); (dsimp only [L2.wipe, List.set]))
  | with_reducible refine iteT ?_ | with_reducible refine iteF ?_ | with_reducible refine iteNT ?_ | with_reducible refine iteNF ?_
  | ((with_reducible refine iteDT ?h ?q); (case h => first | decide +kernel | omega | assumption | exact nv1 | exact nv2 | exact nv3 | exact nv4)) | ((with_reducible refine iteDF ?h ?q); (case h => first | decide +kernel | omega | assumption | exact nv1 | exact nv2 | exact nv3 | exact nv4))
  | ((with_reducible refine iteNDT ?h ?q); (case h => first | decide +kernel | omega | assumption | exact nv1 | exact nv2 | exact nv3 | exact nv4)) | ((with_reducible refine iteNDF ?h ?q); (case h => first | decide +kernel | omega | assumption | exact nv1 | exact nv2 | exact nv3 | exact nv4))
  | ((with_reducible refine rIsi2_1 (T := ?T) (b := true) ?ty ?h ?q); (case ty => first | exact ty_str | exact ty_int | exact ty_bl | exact ty_non); (case h => decide +kernel))
  | ((with_reducible refine rIsi2_1 (T := ?T) (b := false) ?ty ?h ?q); (case ty => first | exact ty_str | exact ty_int | exact ty_bl | exact ty_non); (case h => decide +kernel))
  | ((with_reducible refine rEq2_s ?h ?q); (case h => rfl)) | ((with_reducible refine rNe2_s ?h ?q); (case h => rfl))
  | ((with_reducible refine rEq_i ?h ?q); (case h => rfl)) | ((with_reducible refine rNe_i ?h ?q); (case h => rfl)))
local macro_rules | `(tactic| walk_at "y") => `(tactic| repeat walk_at "y2")

section
variable {P : Program} {w : World} {K : PySem.W.Frag} {mg : Str → Option Value} {base : Heap}
section
variable {C : Addr} {σ : L2.St} {H : Hp} {Q : VK} {D : Ends} {ta : TA} {to te : TE} {f : Str}
theorem tBiT_i (q : ta σ H fun vs H1 => ∃ (a : Addr) (ws : List V), vs = .ref a :: ws ∧ ws.length ≤ 1000 ∧ H1 a = some (exo a C none) ∧ Q .non H1) : tBiT K C ta σ H Q := q
theorem tOsT_i (q : te σ H fun y H1 => to σ H1 fun x H2 => ∃ a : Addr, x = .ref a ∧ H2 a = some (exo a C none) ∧ ∀ dx, H2 dx = none → dx ≠ a → D.nx σ (upd (upd H2 dx (exd dx [(f, y)])) a (exo a C (some dx)))) : tOsT C f to te D σ H := q
end
local macro_rules | `(tactic| walk_at "y") => `(tactic| first | refine tBiT_i ?_ | refine tOsT_i ?_)
theorem sc_NoPlace___init__ : FnScope ["self", "index"] ["self", "index"] (defScope (inClass (top 10) 0)) := ⟨rfl, rfl, rfl, by decide +kernel, rfl, by decide +kernel, by decide +kernel⟩
theorem x_NoPlace (T : Sy K mg) : (∃ (fd : FuncData) (ps : List Str), FnOk P w K mg base CX0 1 (He.ma K (He.ga K "NoPlace") "__init__") fd ps (spExI K "NoPlace" "index") ∧ Binds K fd ps []) := by
  obtain ⟨fd, F⟩ := F_NoPlace___init__ T
  refine ⟨fd, _, F.ok sc_NoPlace___init__ sp2_len fun cdv A outer s H vs Q E hr h => ?_, F.bindsN (fun _ _ _ _ _ _ us hl => match us, hl with | [_, _], _ => rfl)⟩
  obtain ⟨_, v, rfl, a, rfl, ha, q⟩ := h
  refine ⟨_, ((pss_cons (ps_expr (pe_binit T.xF.no.o T.xF.ab (by decide +kernel) (by rfl) (T.glo "Absent") (pa_cons (pv 0) (pa_cons pe_str pa_nil)))) (pss_one (ps_ostT T.xF.no.o T.xF.no.tk (pv 0) (pv 1))))).nox, ?_⟩
  walk_at "yhead"; walk_at "y"
  refine tBiT_i ?_
  walk_at "y"
  refine ⟨a, [.str "no item with this index"], rfl, by show 1 ≤ 1000; decide, ha, ?_⟩
  dsimp only [tOsT]
  exact ⟨v, rfl, .ref a, rfl, a, rfl, ha, q⟩
/-- NoPlace(v) under a raise -/
theorem pmk_no (T : Sy K mg) {X : Cx} {j : Nat} {e : Expr} {es : List Expr} {ta : TA} {p pos : Pos} (hK : X.K = K) (hm : X.mg = mg) (hr : Room j X.A) (ha : PA X (e :: es) ta) (hk : 2 ≤ j := by decide) (hg : Gl X "NoPlace" := by rfl)
    (he : starEach (e :: es) X.env = (false, eval e X.env) :: starEach es X.env := by rfl) (hpl : (backTo pos (starEach es X.env)).any (·.1) = false := by rfl) :
    PMk X (.Call (.Name "NoPlace" p) (e :: es) [] pos) (tMkO (He.ga K "NoPlace") (spExI K "NoPlace" "index") [] ta) := by
  subst hK hm
  obtain ⟨fd, ps, F, b⟩ := x_NoPlace (P := X.prog) (w := X.w) (base := X.base) T
  exact pmkT T.xF.no.o T.xF.no.i T.xF.no.t F (hr.mono hk) b .nil hg (T.glo "NoPlace") ha (by decide) he hpl
end

end L75
namespace L75
open PySem PySem.Spec PyProof.Rows L2
variable {gd : Bool}
local macro_rules | `(tactic| walk_at "y1") => `(tactic| with_reducible first
  | refine tSeq_i ?_ | refine tAsg_i ?_ | refine tCons_i ?_ | refine tNil_i ?_ | refine tC_i ?_ | refine tOp_i ?_ | refine tIfS_i ?_ | refine tTest_i ?_ | refine exBl_i ?_ | refine tRet_i ?_ | refine tCall_i ?_
  | refine tCB_i ?_ | refine tLst_i ?_ | refine tTup_i ?_ | refine rI0_i ?_ | refine tDrop_i ?_ | refine tNext_i ?_ | refine tB_i ?_ | refine tAnd_i ?_ | refine tOr_i ?_ | refine tNot_i ?_ | refine tAndV_i ?_ | refine tOrV_i ?_ | refine tNotV_i ?_
  | refine tIf_i ?_ | refine tUn_i ?_ | refine tDGet_i ?_ | refine sDPut_i ?_ | refine tFld_i ?_ | refine tRetN_i ?_ | refine tBreak_i ?_ | refine tCont_i ?_ | refine rU_i ?_)
local macro_rules | `(tactic| walk_at "yhead") => `(tactic| dsimp only [L2.start, List.map, List.length_cons, List.length_nil, Nat.reduceAdd, Nat.reduceSub, List.replicate, List.cons_append, List.nil_append])
local macro_rules | `(tactic| walk_at "y2") => `(tactic| first
  | walk_at "y1"
  | ((with_reducible refine tVar_i (v := ?v) ?h ?q); (case h => rfl))
  | ((with_reducible refine gName_i ?_); (dsimp only [List.set]))
  | ((with_reducible refine rEq_i ?h ?q); (case h => rfl)) | ((with_reducible refine rNe_i ?h ?q); (case h => rfl)))
local macro_rules | `(tactic| walk_at "y") => `(tactic| repeat walk_at "y2")

/-! if and for inside a generator's body -/
section
open GenW
variable {M : Model} {A : Around} {R : GenEnd} {Y : Protocol} {n : Nat} {s₀ : Shared} {c : Code} {fs : List Frame} {s : Shared} {env : Env} {K : Flow → Sem PySem.Fin} {H : Value → Sem PySem.Fin} {gd : Bool → Bool} {lv : List Value → List Value}
theorem seg_If {test : Expr} {p q : List Stmt} {pos : Pos} (h : wpAny M (A.over c fs) (isTrue test env (eval test env)) (fun b s' => if b = true then Seg M A R Y n s₀ c ((execs p env).wrap K H gd lv) fs s' else Seg M A R Y n s₀ c ((execs q env).wrap K H gd lv) fs s') (fun x s' => Seg M A R Y n s₀ c (H x) fs s') s) :
    Seg M A R Y n s₀ c ((exec (.If test p q pos) env).wrap K H gd lv) fs s := by
  rw [exec_If]
  refine seg_bind_wrap (wpAny_standAt ?_)
  refine seg_bind_wrap (wpAny_mono h (fun b s' hb => ?_) fun _ _ x => x)
  cases b with
  | true => rw [if_pos rfl] at hb ⊢; exact hb
  | false => rw [if_neg Bool.false_ne_true] at hb ⊢; exact hb
theorem seg_For {tg iter : Expr} {body orelse : List Stmt} {pos : Pos}
    (h : wpAny M (A.over c fs) (eval iter env) (fun x s1 => wpAny M (A.over c fs) (pyIter x) (fun it s2 => ∀ p, Seg M A R Y n s₀ (.forLoop tg it body orelse env) (M.den (.forLoop tg it body orelse env))
      (.ret (fun r => ((match r with | .ok f => (.pure f : Sem Flow) | .error e => .raise e).onRaise fun (x : Value) => do
        if (← field x 1) == Value.none then unsupported "frame.own-activation:exception-without-traceback"
        setFlight x env.frame).wrap K H gd lv) none (gd false) (lv []) c p [] :: fs) s2) (fun x s' => Seg M A R Y n s₀ c (H x) fs s') s1) (fun x s' => Seg M A R Y n s₀ c (H x) fs s') s)
    (hs : ∀ x, foldedSetIterable iter env x = pure x := by intro _; rfl) :
    Seg M A R Y n s₀ c ((exec (.For tg iter body orelse pos) env).wrap K H gd lv) fs s := by
  rw [exec_For]
  refine seg_bind_wrap (wpAny_standAt ?_)
  refine seg_bind_wrap (wpAny_mono h (fun x s1 h1 => ?_) fun _ _ z => z)
  refine seg_bind_wrap (wpAny_of_eq (hs x) ?_)
  refine seg_bind_wrap (wpAny_standAt ?_)
  refine seg_bind_wrap (wpAny_holding (wpAny_mono h1 (fun it s2 h2 => ?_) fun _ _ z => z))
  exact seg_call h2
end
section
open GenW
variable {prog : Program} {w : World} {A : Around} {R : GenEnd} {Y : Protocol} {n : Nat} {s₀ : Shared} {fs : List Frame} {s : Shared} {env : Env}
theorem seg_block_nil (h : Seg (model prog w) A R Y n s₀ (.block [] env) (.pure (.done .next)) fs s) : Seg (model prog w) A R Y n s₀ (.block [] env) ((model prog w).den (.block [] env)) fs s := h
theorem seg_forLoop {tg : Expr} {it : Value} {body : List Stmt}
    (h : wpAny (model prog w) (A.over (.forLoop tg it body [] env) fs) (pyNext it) (fun r s1 => match r with
        | none => Seg (model prog w) A R Y n s₀ (.forLoop tg it body [] env) (.pure (.again (.block [] env))) fs s1
        | some v => wpAny (model prog w) (A.over (.forLoop tg it body [] env) fs) (letOwnedTupleGo tg it v) (fun _ s2 =>
            wpAny (model prog w) (A.over (.forLoop tg it body [] env) fs) (assign tg env v) (fun _ s3 =>
              Seg (model prog w) A R Y n s₀ (.forLoop tg it body [] env) ((execs body env).wrap (fun f => match f with
                | .next | .cont => .pure (.again (.forLoop tg it body [] env))
                | .brk => .pure (.done .next)
                | .ret v => .pure (.done (.ret v))) (fun e => (do noteFrame e env; theTreesLotGoes e : Sem Unit).wrap (fun _ => .raise e) .raise id id) id id) fs s3)
            (fun x s' => Seg (model prog w) A R Y n s₀ (.forLoop tg it body [] env) ((do noteFrame x env; theTreesLotGoes x : Sem Unit).wrap (fun _ => .raise x) .raise id id) fs s') s2)
            (fun x s' => Seg (model prog w) A R Y n s₀ (.forLoop tg it body [] env) ((do noteFrame x env; theTreesLotGoes x : Sem Unit).wrap (fun _ => .raise x) .raise id id) fs s') s1)
      (fun x s' => Seg (model prog w) A R Y n s₀ (.forLoop tg it body [] env) ((do noteFrame x env; theTreesLotGoes x : Sem Unit).wrap (fun _ => .raise x) .raise id id) fs s') s) :
    Seg (model prog w) A R Y n s₀ (.forLoop tg it body [] env) ((model prog w).den (.forLoop tg it body [] env)) fs s := by
  show Seg _ A R Y n s₀ _ ((forTurn tg it body [] env).onRaise (fun x => do noteFrame x env; theTreesLotGoes x)) fs s
  unfold forTurn
  rw [Sem.onRaise_eq_wrap]
  have conv : ∀ x s', Seg (model prog w) A R Y n s₀ (.forLoop tg it body [] env) ((do noteFrame x env; theTreesLotGoes x : Sem Unit).wrap (fun _ => .raise x) .raise id id) fs s' →
      Seg (model prog w) A R Y n s₀ (.forLoop tg it body [] env) ((do noteFrame x env; theTreesLotGoes x : Sem Unit).bind fun _ => .raise x) fs s' := fun x s' hx => by rw [Sem.bind_eq_wrap]; exact hx
  refine seg_bind_wrap (wpAny_standAt ?_)
  refine seg_bind_wrap (wpAny_onRaise (wpAny_mono h (fun r s1 h1 => ?_) fun x s' hx => wpAny_standAt (conv x s' hx)))
  cases r with
  | none => exact h1
  | some v =>
    refine seg_bind_wrap (wpAny_mono h1 (fun _ s2 h2 => ?_) fun x s' hx => conv x s' hx)
    refine seg_bind_wrap (wpAny_mono h2 (fun _ s3 h3 => ?_) fun x s' hx => conv x s' hx)
    rw [Sem.bind_eq_wrap', Sem.wrap_wrap]
    rw [Sem.wrap_congr (execs body env) _ _ (K' := fun f => match f with
            | .next | .cont => .pure (.again (.forLoop tg it body [] env))
            | .brk => .pure (.done .next)
            | .ret v => .pure (.done (.ret v))) (H' := (fun e => (do noteFrame e env; theTreesLotGoes e : Sem Unit).wrap (fun _ => .raise e) .raise id id))
        (fun f => by cases f <;> rfl)
        (fun e => by first | exact Sem.bind_eq_wrap _ _ | (show (do noteFrame e env; theTreesLotGoes e : Sem Unit).bind (fun _ => .raise e) = _; rw [Sem.bind_eq_wrap]))]
    exact h3
end
section
open GenW
variable {X : Cx} {pos : Pos} {tg : Expr}
def tGIf (c : TT) (t u : TGn) : TGn := fun D ys σ H => c σ H fun b H1 => if b = true then t D ys σ H1 else u D ys σ H1
theorem gs_if {test : Expr} {p q : List Stmt} {tc : TT} {t u : TGn} (hc : PT X test tc) (hp : GSs X p t) (hq : GSs X q u) : GS X (.If test p q pos) (tGIf tc t u) := by
  refine ⟨fun A S ip R n ys s₀ c fs K J gd lv s σ H D g hn k hI ht => ?_⟩
  obtain ⟨acc, cc, r, I⟩ := hI
  refine seg_If ?_
  rw [g.over]
  refine wpAny_mono (hc.run _ s σ H _ I ht) (fun b s' hb => ?_) fun x s' hx => k.exc n s₀ x s' hx
  obtain ⟨H2, I2, q2⟩ := hb
  cases b with
  | true =>
    rw [if_pos rfl] at q2 ⊢
    exact hp.run A S ip R n ys s₀ c fs K J gd lv s' σ H2 D g hn k ⟨acc, cc, r, I2⟩ q2
  | false =>
    rw [if_neg Bool.false_ne_true] at q2 ⊢
    exact hq.run A S ip R n ys s₀ c fs K J gd lv s' σ H2 D g hn k ⟨acc, cc, r, I2⟩ q2
def tGFor (wi : TI) (g : TG) (tb : TGn) : TGn := fun D ys σ H => wi σ H fun J H1 => ∃ W : Nat → Nat → List V → L2.St → Hp → Prop, (∃ m, W 0 m ys σ H1) ∧ ∀ i m ys σ H, W i m ys σ H →
  (J.stop i H ∧ D.nx ys σ H) ∨ (J.go i H ∧ ∃ N : List V → L2.St → Hp → Prop, (∀ ys' σ' H', N ys' σ' H' → ∃ m', m' < m ∧ W (i + 1) m' ys' σ' H') ∧ ∀ x H', J.yld i H x H' → g x σ H' fun σ2 H2 => tb { D with nx := N, ct := N, bk := D.nx } ys σ2 H2)
theorem gs_for {iter : Expr} {body : List Stmt} {wi : TI} {g : TG} {tb : TGn} (hp : PassesOwn (model X.prog X.w) X.A X.env X.xe) (hc : X.calm = true) (hi : PI X tg iter wi) (hg : PG X tg g) (hb : GSs X body tb)
    (hs : ∀ x, foldedSetIterable iter X.env x = pure x := by intro _; rfl) : GS X (.For tg iter body [] pos) (tGFor wi g tb) := by
  refine ⟨fun A S ip R n ys s₀ c fs K J gd lv s σ H D gc hn k hI ht => ?_⟩
  obtain ⟨acc, cc, r, I⟩ := hI
  refine seg_For ?_ hs
  rw [gc.over]
  refine wpAny_mono (hi.run _ s σ H _ I ht) (fun v s1 h1 => ?_) fun x s' hx => k.exc n s₀ x s' hx
  refine wpAny_mono h1 (fun itv s2 h2 p => ?_) fun x s' hx => k.exc n s₀ x s' hx
  obtain ⟨it, fp, tn, Jt, H2, e, I2, T, st2, f2, W, ⟨m0, w0⟩, turn⟩ := h2
  subst e
  have gl := fun (kk : Result → Sem PySem.Fin) => gc_loop (k := kk) (c' := .forLoop tg (.ref it) body [] X.env) (l := lv []) (kp := []) (p := p) gc rfl rfl
  have gb := fun (kk : Result → Sem PySem.Fin) => gc_loop (k := kk) (c' := .block [] X.env) (l := lv []) (kp := []) (p := p) gc rfl rfl
  have hH : X.A.handled = none := I2.ok.hd hc
  have loop : ∀ (m i n : Nat) (ys : List V) (s₀ s : Shared) (σ : L2.St) (H : Hp), n + ys.length = sizeLine → W i m ys σ H → GI X S ip ys σ H s → tn i s.heap → (∀ b ∈ fp, H b = none) → (∀ b ∈ fp, b ≠ S ∧ ∀ p ∈ ip, p.1 ≠ b) →
      Seg (model X.prog X.w) A R (GY X S) n s₀ (.forLoop tg (.ref it) body [] X.env) ((model X.prog X.w).den (.forLoop tg (.ref it) body [] X.env))
        (.ret (fun r => ((match r with | .ok f => (.pure f : Sem Flow) | .error e => .raise e).onRaise (cameBack X.env)).wrap K J gd lv) none (gd false) (lv []) c p [] :: fs) s := by
    intro m
    induction m using Nat.strongRecOn with
    | ind m ih =>
      intro i n ys s₀ s σ H hn w hI st fr apart
      obtain ⟨acc, cc, r, I⟩ := hI
      have ee : ∀ (n : Nat) (s₀ : Shared) (x : Value) (s' : Shared), X.xe x s' → Seg (model X.prog X.w) A R (GY X S) n s₀ (.forLoop tg (.ref it) body [] X.env)
          ((do noteFrame x X.env; theTreesLotGoes x : Sem Unit).wrap (fun _ => .raise x) .raise id id)
          (.ret (fun r => ((match r with | .ok f => (.pure f : Sem Flow) | .error e => .raise e).onRaise (cameBack X.env)).wrap K J gd lv) none (gd false) (lv []) c p [] :: fs) s' := fun n s₀ x s' hx => by
        refine seg_wrap ?_
        rw [(gl _).over]
        refine wpAny_bind (wpAny_mono (hp x s' hx) (fun _ s'' hcb => wpAny_theTreesLotGoes ?_) fun y s'' hcb => ?_)
        · exact seg_leaf (.error x) (seg_cameBack gc k hcb)
        · exact seg_leaf (.error y) (seg_cameBack gc k hcb)
      have stat : ∀ {H' : Hp}, (∀ b ∈ fp, H' b = none) → ∀ b ∈ fp, FpOk X ((S, lstObj acc cc) :: ip) H' b := fun fr b hb => ⟨fr b hb, (f2 b hb).2.1, (f2 b hb).2.2.1, (f2 b hb).2.2.2.1, (f2 b hb).2.2.2.2.1, fun q hq => by
        rcases List.mem_append.mp hq with z | z
        · exact (f2 b hb).2.2.2.2.2 q (List.mem_append_left _ z)
        · rcases List.mem_cons.mp z with z | z
          · rw [z]; exact fun z => (apart b hb).1 z.symm
          · exact (apart b hb).2 q z⟩
      refine seg_forLoop ?_
      rw [(gl _).over]
      rcases turn i m ys σ H w with ⟨stop, qn⟩ | ⟨go, N, hN, step⟩
      · refine wpAny_mono (T.done X rfl rfl rfl hc i _ s σ H X.xe I (stat fr) st stop) (fun r4 s4 h4 => ?_) fun x s' hx => ee n s₀ x s' hx
        obtain ⟨hr, I4⟩ := h4
        subst hr
        exact seg_again rfl (seg_block_nil (seg_leaf (.ok .next) (k.ok n ys s₀ s4 .next hn ⟨σ, H, ⟨acc, cc, r, I4⟩, qn⟩)))
      · refine wpAny_mono (T.item X rfl rfl rfl hc i _ s σ H X.xe I (stat fr) st go) (fun r4 s4 h4 => ?_) fun x s' hx => ee n s₀ x s' hx
        obtain ⟨u, hr, h4⟩ := h4
        subst hr
        refine wpAny_mono h4 (fun _ s5 h5 => ?_) fun x s' hx => ee n s₀ x s' hx
        obtain ⟨x, H5, I5, r5, y5, st5, fr5⟩ := h5
        have I5' := I5.pinned (stat fr5) (T.obj _ _ st5)
        refine wpAny_mono (hg.run _ s5 σ H5 x u _ I5' r5 (step x H5 y5)) (fun _ s6 h6 => ?_) fun x s' hx => ee n s₀ x s' hx
        obtain ⟨σ6, H6, I6, q6⟩ := h6
        have gl' : ∀ kk : Result → Sem PySem.Fin, GC X S (ip ++ pinsAt fp s5.heap) A (.forLoop tg (.ref it) body [] X.env) (.ret kk none (gd false) (lv []) c p [] :: fs) id := fun kk => { gl kk with
          ip := fun q hq => by
            rcases List.mem_append.mp hq with z | z
            · exact gc.ip q z
            · exact (apart q.1 (of_pinsAt z).1).1 }
        refine hb.run A S (ip ++ pinsAt fp s5.heap) R n ys s₀ _ _ _ _ id id s6 σ6 H6 { D with nx := N, ct := N, bk := D.nx } (gl' _) hn ⟨fun n' ys' s₀' s7 f hn' hs => ?_, fun n' s₀' x s7 hx => ee n' s₀' x s7 hx⟩ ⟨acc, cc, r, I6⟩ q6
        have un : ∀ {ys' : List V} {σ7 : L2.St} {H7 : Hp}, GI X S (ip ++ pinsAt fp s5.heap) ys' σ7 H7 s7 → GI X S ip ys' σ7 H7 s7 ∧ tn (i + 1) s7.heap ∧ ∀ b ∈ fp, H7 b = none := fun {ys' σ7 H7} G7 => by
          obtain ⟨acc7, c7, r7, I7⟩ := G7
          have pin : ∀ b o, b ∈ fp → s5.heap.get? b = some o → (b, o) ∈ X.pn ++ (S, lstObj acc7 c7) :: (ip ++ pinsAt fp s5.heap) := fun b o hb e => List.mem_append_right _ (List.mem_cons_of_mem _ (List.mem_append_right _ (mem_pinsAt hb e)))
          refine ⟨⟨acc7, c7, r7, Inv.unpinned (pins := (S, lstObj acc7 c7) :: ip) I7⟩, T.keep _ _ _ st5 fun b hb o e => (I7.pin (b, o) (pin b o hb e)).1, fun b hb => ?_⟩
          obtain ⟨o, e, d⟩ := T.obj _ _ st5 b hb
          exact (I7.pin (b, o) (pin b o hb e)).2.1
        have again : ∀ {ys' : List V} {σ7 : L2.St} {H7 : Hp}, n' + ys'.length = sizeLine → GI X S (ip ++ pinsAt fp s5.heap) ys' σ7 H7 s7 → N ys' σ7 H7 → Seg (model X.prog X.w) A R (GY X S) n' s₀' (.forLoop tg (.ref it) body [] X.env) ((model X.prog X.w).den (.forLoop tg (.ref it) body [] X.env))
            (.ret (fun r => ((match r with | .ok f => (.pure f : Sem Flow) | .error e => .raise e).onRaise (cameBack X.env)).wrap K J gd lv) none (gd false) (lv []) c p [] :: fs) s7 := fun {ys' σ7 H7} hn7 G7 n7 => by
          obtain ⟨m', hm, w7⟩ := hN ys' σ7 H7 n7
          obtain ⟨g1, g2, g3⟩ := un G7
          exact ih m' hm (i + 1) n' ys' s₀' s7 σ7 H7 hn7 w7 g1 g2 g3 apart
        cases f with
        | next =>
          obtain ⟨σ7, H7, G7, n7⟩ := hs
          exact seg_again rfl (again hn' G7 n7)
        | cont =>
          obtain ⟨σ7, H7, G7, n7⟩ := hs
          exact seg_again rfl (again hn' G7 n7)
        | brk =>
          obtain ⟨σ7, H7, G7, q7⟩ := hs
          exact seg_leaf (.ok .next) (k.ok n' ys' s₀' s7 .next hn' ⟨σ7, H7, (un G7).1, q7⟩)
        | ret v =>
          obtain ⟨v7, σ7, H7, G7, rv7, q7⟩ := hs
          exact seg_leaf (.ok (.ret v)) (k.ok n' ys' s₀' s7 (.ret v) hn' ⟨v7, σ7, H7, (un G7).1, rv7, q7⟩)
  refine loop m0 0 n ys s₀ s2 σ H2 hn w0 ⟨acc, cc, r, I2⟩ st2 (fun b hb => (f2 b hb).1) fun b hb => ⟨fun z => ?_, fun p hp z => ?_⟩
  · exact (f2 b hb).2.2.2.2.2 _ (List.mem_append_right _ List.mem_cons_self) z.symm
  · exact (f2 b hb).2.2.2.2.2 p (List.mem_append_right _ (List.mem_cons_of_mem _ hp)) z
end

end L75
namespace L75
open PySem PySem.Spec PyProof.Rows L2
variable {gd : Bool}
local macro_rules | `(tactic| walk_at "y1") => `(tactic| with_reducible first
  | refine tSeq_i ?_ | refine tAsg_i ?_ | refine tCons_i ?_ | refine tNil_i ?_ | refine tC_i ?_ | refine tOp_i ?_ | refine tIfS_i ?_ | refine tTest_i ?_ | refine exBl_i ?_ | refine tRet_i ?_ | refine tCall_i ?_
  | refine tCB_i ?_ | refine tLst_i ?_ | refine tTup_i ?_ | refine rI0_i ?_ | refine tDrop_i ?_ | refine tNext_i ?_ | refine tB_i ?_ | refine tAnd_i ?_ | refine tOr_i ?_ | refine tNot_i ?_ | refine tAndV_i ?_ | refine tOrV_i ?_ | refine tNotV_i ?_
  | refine tYes_i ?_ | refine tTM_i ?_ | refine tPar_i ?_ | refine tSl_i ?_ | refine tNoPart_i ?_ | refine tPart_i ?_ | refine part_i ?_ | refine tMake_i ?_ | refine tProp_i ?_ | refine tCallOG_i ?_ | refine tVeI_i ?_ | refine tOst_i ?_ | refine tMkO_i ?_ | refine sFld_i ?_ | refine fldaug_i ?_ | refine gCons_i ?_ | refine gNil_i ?_ | refine tChain_i ?_ | refine tBM_i ?_ | refine rAdd2_i ?_ | refine rLe2_i ?_ | refine rEq2_i ?_ | refine rEq2_ss ?_ | refine rNe2_i ?_ | refine rNe2_ss ?_ | refine rIsN_i ?_ | refine rNotN_i ?_ | refine tTup_i2 ?_ | refine tIf_i ?_ | refine tUn_i ?_ | refine tDGet_i ?_ | refine sDPut_i ?_ | refine tFld_i ?_ | refine tRetN_i ?_ | refine tBreak_i ?_ | refine tCont_i ?_ | refine rU_i ?_)
local macro_rules | `(tactic| walk_at "yhead") => `(tactic| dsimp only [L2.start, List.map, List.length_cons, List.length_nil, Nat.reduceAdd, Nat.reduceSub, List.replicate, List.cons_append, List.nil_append])
local macro_rules | `(tactic| walk_at "y2") => `(tactic| first
  | walk_at "y1"
  | ((with_reducible refine tVar_i (v := ?v) ?h ?q); (case h => rfl))
  | ((with_reducible refine gName_i ?_); (dsimp only [L2.wipe, List.set]))
  | with_reducible refine iteT ?_ | with_reducible refine iteF ?_ | with_reducible refine iteNT ?_ | with_reducible refine iteNF ?_
  | ((with_reducible refine iteDT ?h ?q); (case h => first | decide +kernel | omega | assumption | exact nv1 | exact nv2 | exact nv3 | exact nv4)) | ((with_reducible refine iteDF ?h ?q); (case h => first | decide +kernel | omega | assumption | exact nv1 | exact nv2 | exact nv3 | exact nv4))
  | ((with_reducible refine iteNDT ?h ?q); (case h => first | decide +kernel | omega | assumption | exact nv1 | exact nv2 | exact nv3 | exact nv4)) | ((with_reducible refine iteNDF ?h ?q); (case h => first | decide +kernel | omega | assumption | exact nv1 | exact nv2 | exact nv3 | exact nv4))
  | ((with_reducible refine rIsi2_1 (T := ?T) (b := true) ?ty ?h ?q); (case ty => first | exact ty_str | exact ty_int | exact ty_bl | exact ty_non); (case h => decide +kernel))
  | ((with_reducible refine rIsi2_1 (T := ?T) (b := false) ?ty ?h ?q); (case ty => first | exact ty_str | exact ty_int | exact ty_bl | exact ty_non); (case h => decide +kernel))
  | ((with_reducible refine rEq2_s ?h ?q); (case h => rfl)) | ((with_reducible refine rNe2_s ?h ?q); (case h => rfl))
  | ((with_reducible refine rEq_i ?h ?q); (case h => rfl)) | ((with_reducible refine rNe_i ?h ?q); (case h => rfl)))
local macro_rules | `(tactic| walk_at "y") => `(tactic| repeat walk_at "y2")

section
variable {K : PySem.W.Frag} {σ : L2.St} {H : Hp} {D : GEnds} {ys : List V} {t u : TGn} {te : TE} {tc : TT} {g : TG} {tb : TGn} {J : It} {n : Nat} {G : Hp → Prop} {Y : Nat → Hp → V → Hp → Prop}
theorem tGThen_i (q : t { D with nx := fun ys' σ' H' => u D ys' σ' H' } ys σ H) : tGThen t u D ys σ H := q
theorem tPlain_i {t : TS} (q : t { nx := D.nx ys, rt := D.rt ys, bk := D.bk ys, ct := D.ct ys } σ H) : tPlain t D ys σ H := q
theorem tG0_i (q : D.nx ys σ H) : tG0 D ys σ H := q
theorem tGYield_i (h : ys.length < sizeLine) (q : te σ H fun x H1 => D.nx (ys ++ [x]) σ H1) : tGYield te D ys σ H := ⟨h, q⟩
theorem tGIf_i (q : tc σ H fun b H1 => if b = true then t D ys σ H1 else u D ys σ H1) : tGIf tc t u D ys σ H := q
abbrev GForR (J : It) (g : TG) (tb : TGn) (D : GEnds) (ys : List V) (σ : L2.St) (H1 : Hp) : Prop := ∃ W : Nat → Nat → List V → L2.St → Hp → Prop, (∃ m, W 0 m ys σ H1) ∧ ∀ i m ys σ H, W i m ys σ H →
  (J.stop i H ∧ D.nx ys σ H) ∨ (J.go i H ∧ ∃ N : List V → L2.St → Hp → Prop, (∀ ys' σ' H', N ys' σ' H' → ∃ m', m' < m ∧ W (i + 1) m' ys' σ' H') ∧ ∀ x H', J.yld i H x H' → g x σ H' fun σ2 H2 => tb { D with nx := N, ct := N, bk := D.nx } ys σ2 H2)
theorem gfor_b (b : Bool) (q : te σ H fun x H1 => ∃ a, x = .ref a ∧ (∃ xs, SqB K b H1 a xs) ∧ GForR (itB K b a) g tb D ys σ H1) : tGFor (iAny K te) g tb D ys σ H := by
  cases b
  · exact .inr (.inl q)
  · exact .inl q
theorem gfor_it (w : Walk J n G Y) (Pv : Nat → List V → L2.St → Hp → Prop) (h0 : Pv 0 ys σ H) (hG : ∀ i ys σ H, i ≤ n → Pv i ys σ H → G H)
    (hs : ∀ i x ys σ H H', i < n → Pv i ys σ H → Y i H x H' → g x σ H' fun σ2 H2 => tb { D with nx := Pv (i + 1), ct := Pv (i + 1), bk := D.nx } ys σ2 H2) (hd : ∀ ys σ H, Pv n ys σ H → D.nx ys σ H) : GForR J g tb D ys σ H := by
  refine ⟨fun i m ys σ H => m = n - i ∧ i ≤ n ∧ Pv i ys σ H, ⟨n, by simp, Nat.zero_le _, h0⟩, ?_⟩
  rintro i m ys σ H ⟨rfl, hi, p⟩
  have q := hG i ys σ H hi p
  by_cases hlt : i < n
  · exact .inr ⟨w.goes i H hlt q, Pv (i + 1), fun ys' σ' H' p' => ⟨n - (i + 1), by omega, rfl, hlt, p'⟩, fun x H' y => hs i x ys σ H H' hlt p (w.yields i H x H' hlt q y)⟩
  · have e : i = n := by omega
    subst e
    exact .inl ⟨w.stops H q, hd ys σ H p⟩
end
local macro_rules | `(tactic| walk_at "y2") => `(tactic| with_reducible first | refine tGThen_i ?_ | refine tPlain_i ?_ | refine tG0_i ?_ | refine tGIf_i ?_)
section
variable {P : Program} {w : World} {K : PySem.W.Frag} {mg : Str → Option Value} {base : Heap}
def notesAux (k : Int) : Bool → List Ev → List V
  | _, [] => []
  | o, .op n :: es => notesAux k (o || decide (n = k)) es
  | o, .sh n :: es => notesAux k (o && !decide (n = k)) es
  | o, .no t _ :: es => if o then t :: notesAux k o es else notesAux k o es
  | o, .fa _ _ _ :: es => notesAux k o es
  | o, .sw _ _ _ :: es => notesAux k o es
theorem notesAux_len (k : Int) : ∀ (o : Bool) (es : List Ev), (notesAux k o es).length ≤ es.length
  | _, [] => Nat.le_refl _
  | o, .op n :: es => Nat.le_succ_of_le (notesAux_len k _ es)
  | o, .sh n :: es => Nat.le_succ_of_le (notesAux_len k _ es)
  | o, .no t _ :: es => by
    have h := notesAux_len k o es
    unfold notesAux
    split <;> simp <;> omega
  | o, .fa _ _ _ :: es => Nat.le_succ_of_le (notesAux_len k o es)
  | o, .sw _ _ _ :: es => Nat.le_succ_of_le (notesAux_len k o es)
/-- notes_within of a number that was opened, of None, or of a log that is refused -/
def spNotes (K : PySem.W.Frag) : SpG := fun vs H Q E => ∃ x kv, vs = [x, kv] ∧ ((∃ p es, x = .ref p ∧ LogAt K true H p es ∧
  ∃ k : Int, kv = .int k ∧ 0 ≤ k ∧ (es.any fun e => e.isOp k) = true ∧ ∀ H', Same H H' → Q (notesAux k false es) H') ∨
  (∃ b p es, x = .ref p ∧ LogAt K b H p es ∧ kv = .non ∧ ∀ d H', H d = none → Same H H' → H' d = some (.xd [("index", .non)]) → E (.ref (He.ga K "NoPlace")) (some d) H') ∨ BadC K H x E)
theorem any_op {es : List Ev} {n : Int} : ((es.map Ev.d).any fun z => PyData.eqv z (.tuple (([.str "open", .int n] : List V).map vD))) = es.any fun e => e.isOp n := by
  induction es with
  | nil => rfl
  | cons e es ih => rw [List.map_cons, List.any_cons, List.any_cons, ih, ev_eqo]
theorem dp_log {H : Hp} {p : Addr} {vs : List V} {es : List Ev} (h : H p = some (.lst vs)) (h2 : Paired (EvR K H) vs es) : Dp K H (.ref p) (.list (es.map Ev.d)) := .lst (SqL.of h) (dp_evs h2)
theorem shaped_all {H : Hp} : ∀ {vs : List V} {es : List Ev}, Paired (EvR K H) vs es → (∀ e ∈ es, e.ok) → PyData.canLayAll0 (es.map Ev.d) = true ∧ PyData.depthAll (es.map Ev.d) ≤ 2
  | _, _, .nil, _ => ⟨rfl, by simp [PyData.depthAll]⟩
  | v :: vs, e :: es, .cons h t, ok => by
    obtain ⟨h1, h2⟩ := shaped_all t fun e he => ok e (List.mem_cons_of_mem _ he)
    obtain ⟨p, _, _, s, _⟩ := h
    refine ⟨lay_cons (by simpa only [Ev.d, PyData.canLay0] using Ev.layd s (ok e (List.mem_cons_self ..))) h1, ?_⟩
    have := Ev.depd s
    simp only [List.map_cons, PyData.depthAll, Ev.d, PyData.depth]
    exact Nat.max_le.mpr ⟨by omega, h2⟩
theorem shaped_log {H : Hp} {vs : List V} {es : List Ev} (h : Paired (EvR K H) vs es) (ok : ∀ e ∈ es, e.ok) : SeqAt.shaped (.list (es.map Ev.d)) = true := by
  obtain ⟨h1, h2⟩ := shaped_all h ok
  unfold SeqAt.shaped
  rw [show PyData.canLay0 (.list (es.map Ev.d)) = true by simpa only [PyData.canLay0] using h1, Bool.true_and]
  refine decide_eq_true ?_
  simp only [PyData.depth]
  omega
theorem sz5 {n : Nat} (h : n < 1000) : n < sizeLine := Nat.lt_of_lt_of_le h (by decide)
theorem sc_notes_within : GScope ["log", "k", "is_open", "event"] ["log", "k"] (defScope (top 35)) := ⟨rfl, rfl, rfl, by decide +kernel, rfl, by decide +kernel, by decide +kernel⟩
theorem g_notes (T : Sy K mg) : ∃ (f : Addr) (fd : FuncData), GFn P w K mg base 8 f fd ["log", "k"] (spNotes K) ∧ mg "notes_within" = some (.ref f) ∧ PySem.W.keepIn K (.ref f) = true ∧ Binds K fd ["log", "k"] [] ∧ KBn K fd ["log", "k"] 0 ["k", "log"] (fun us ws => swp us ws) (fun vs zs => swp vs zs) := by
  obtain ⟨fd, F⟩ := F_notes_within T
  obtain ⟨oc, od, dV, kV, doc, pm, an, cdv, ct, osl, rfl, lk, hcd, _⟩ := id F.ex
  refine ⟨_, _, gfn_of lk hcd sc_notes_within (fun vs H Q E h => ?_) (fun A outer s H vs Q E pn hr h => ?_), T.glo "notes_within", F.kp, F.bindsN (fun _ _ _ _ _ _ us hl => match us, hl with | [_, _], _ => rfl), FunD.kbN F 0 ["k", "log"] swp swp_rel (fun _ _ _ _ _ _ us ws l1 l2 => match us, l1, ws, l2 with | [], _, [_, _], _ => rfl)⟩
  · obtain ⟨x, kv, rfl, _⟩ := h
    rfl
  · have z : RG false 7 _ := ⟨hr, fun e => nomatch e⟩
    have hu1 := hu_1 z; have hu2 := hu_2 z; have hu3 := hu_3 z
    obtain ⟨x, kv, rfl, h⟩ := h
    refine ⟨_, (gss_cons (gs_ps (ps_expr (pe_cX (c_check_log T) z (passes_call takes_gcx (fun _ _ _ _ h => h)) (pa_cons (pv 0) pa_nil)))) (gss_cons (gs_ps (ps_if (PW.pt (pw_or (pt_not (pt_val (pe_c (c_s7_is_number T) z (pa_cons (pv 1) pa_nil)))) (pw_or1 (pt_cmpR (r := rNotIn2 K) (op_notIn2 hu2) (pe_tup (pa_cons pe_str (pa_cons (pv 1) pa_nil))) (pv 0) rfl)))) (pss_one (ps_raise rfl takes_gcx (pmk_no T rfl rfl z.r (pa_cons (pv 1) pa_nil)))) pss_nil)) (gss_cons (gs_ps (ps_set (i := 2) sc_notes_within.nd rfl (by first | exact Or.inl rfl | exact Or.inr rfl) pe_bl)) (gss_cons (gs_for owns_gcx (by rfl) (pi_anyK (K := K) rfl (pv 0)) (pg_name (i := 3) sc_notes_within.nd rfl (by first | exact Or.inl rfl | exact Or.inr rfl)) (gss_cons (gs_if (pt_cmpR (r := rEq2 K) (op_eq2 hu1) (pv 3) (pe_tup (pa_cons pe_str (pa_cons (pv 1) pa_nil))) (nomark _)) (gss_cons (gs_ps (ps_set (i := 2) sc_notes_within.nd rfl (by first | exact Or.inl rfl | exact Or.inr rfl) pe_bl)) gss_nil) (gss_cons (gs_if (pt_cmpR (r := rEq2 K) (op_eq2 hu1) (pv 3) (pe_tup (pa_cons pe_str (pa_cons (pv 1) pa_nil))) (nomark _)) (gss_cons (gs_ps (ps_set (i := 2) sc_notes_within.nd rfl (by first | exact Or.inl rfl | exact Or.inr rfl) pe_bl)) gss_nil) (gss_cons (gs_if (PW.pt (pw_and (pt_cmpR (r := rEq2 K) (op_eq2 hu1) (pe_ix (r := rGet K) (ix_get hu3) (pv 3) pe_int (fun _ _ => rfl)) pe_str (nomark _)) (pw_and1 (pt_val (pv 2))))) (gss_cons (gs_yield (pe_ix (r := rGet K) (ix_get hu3) (pv 3) pe_int (fun _ _ => rfl))) gss_nil) gss_nil) gss_nil)) gss_nil)) gss_nil)) gss_nil)))), ?_⟩
    rcases h with ⟨p, es, rfl, lg, k, rfl, k0, hin, q⟩ | ⟨b, p, es, rfl, lg, rfl, q⟩ | bad
    rotate_left
    · walk_at "yhead"; walk_at "y"
      refine lg.check fun H1 s1 => ?_
      walk_at "y"
      refine ⟨_, rfl, .non, rfl, ?_⟩
      rw [show numB .non = false from rfl]
      walk_at "y"
      exact mkx_i (f := "index") (c := "NoPlace") (v := .non) (H := H1) (Q := E) fun d H' hd s3 e => q d H' (s1.free hd) (s1.trans s3) e
    · walk_at "yhead"; walk_at "y"
      exact bad.check
    obtain ⟨vs, h1, h2, ok, hl⟩ := id lg
    have ll : vs.length = es.length := h2.length
    walk_at "yhead"; walk_at "y"
    refine lg.check fun H1 s1 => ?_
    walk_at "y"
    refine ⟨_, rfl, .int k, rfl, ?_⟩
    rw [show numB (.int k) = true from decide_eq_true k0]
    walk_at "y"
    refine ⟨sz4 (by simp), fun T1 nT1 => ?_⟩
    have sH2 := same_upd (H := H1) (o := .tup [.str "open", .int k]) nT1
    have eT1 := upd_same (H := H1) (a := T1) (o := .tup [.str "open", .int k])
    generalize upd H1 T1 (.tup [.str "open", .int k]) = H2 at sH2 eT1 ⊢
    have h3 := (s1.trans sH2) _ _ h1
    have h4 := evs_same h2 (s1.trans sH2)
    walk_at "y"
    refine rNotIn2_d (dp_tup (SqT.of eT1) rfl) (dp_log h3 h4) shp2o (shaped_log h4 ok) ?_
    rw [any_op, hin]
    walk_at "y"
    refine gfor_b true ?_
    walk_at "y"
    refine ⟨p, rfl, ⟨vs, SqB.of h3⟩, gfor_it walk_b (fun i ys σ H' => ∃ o x, σ = [some (.ref p), some (.int k), some (.bl o), x] ∧ ys.length ≤ i ∧ ys ++ notesAux k o (es.drop i) = notesAux k false es ∧ Same H2 H')
      ⟨false, none, rfl, Nat.le_refl _, rfl, Same.refl _⟩ (fun i ys σ H' _ hp => let ⟨_, _, _, _, _, s⟩ := hp; s _ _ h3) (fun i v ys σ H3 H4 hi hp y => ?_) fun ys σ H' hp => ?_⟩
    · obtain ⟨o, x, rfl, hts, hno, s3⟩ := hp
      obtain ⟨rfl, e2⟩ := y
      obtain ⟨t, ev, rfl, e3, e4, es4, er4⟩ := LogAt.get (evs_same h4 s3) e2
      have okE := ok _ (List.mem_of_getElem? e3)
      have hd : es.drop i = ev :: es.drop (i + 1) := by
        obtain ⟨h5, h6⟩ := List.getElem?_eq_some_iff.mp e3
        rw [List.drop_eq_getElem_cons h5, h6]
      rw [hd] at hno
      walk_at "y"
      refine ⟨sz4 (by simp), fun T2 nT2 => ?_⟩
      have sH5 := same_upd (H := H4) (o := .tup [.str "open", .int k]) nT2
      have eT2 := upd_same (H := H4) (a := T2) (o := .tup [.str "open", .int k])
      generalize upd H4 T2 (.tup [.str "open", .int k]) = H5 at sH5 eT2 ⊢
      refine rEq2_d (Ev.dp (sH5 _ _ e4) (Ev.sub_same sH5 es4)) (dp_tup (SqT.of eT2) rfl) (Ev.shaped es4 okE) shp2o ?_
      rw [ev_eqo]
      have s5 := s3.trans sH5
      refine ⟨_, rfl, ?_⟩
      cases c1 : ev.isOp k with
      | true =>
        have ce : ev = .op k := by cases ev <;> first | cases c1 | exact congrArg Ev.op (of_decide_eq_true c1)
        subst ce
        walk_at "y"
        exact ⟨true, _, rfl, Nat.le_succ_of_le hts, by rw [← hno]; simp [notesAux], s5⟩
      | false =>
        walk_at "y"
        refine ⟨sz4 (by simp), fun T3 nT3 => ?_⟩
        have sH6 := same_upd (H := H5) (o := .tup [.str "shut", .int k]) nT3
        have eT3 := upd_same (H := H5) (a := T3) (o := .tup [.str "shut", .int k])
        generalize upd H5 T3 (.tup [.str "shut", .int k]) = H6 at sH6 eT3 ⊢
        have e6 := sH6 _ _ (sH5 _ _ e4)
        have s6 := s5.trans sH6
        refine rEq2_d (Ev.dp e6 (Ev.sub_same (sH5.trans sH6) es4)) (dp_tup (SqT.of eT3) rfl) (Ev.shaped es4 okE) shp2 ?_
        rw [ev_eqs]
        refine ⟨_, rfl, ?_⟩
        cases c2 : ev.isSh k with
        | true =>
          have ce : ev = .sh k := by cases ev <;> first | cases c2 | exact congrArg Ev.sh (of_decide_eq_true c2)
          subst ce
          walk_at "y"
          exact ⟨false, _, rfl, Nat.le_succ_of_le hts, by rw [← hno]; simp [notesAux], s6⟩
        | false =>
          walk_at "y"
          cases ev with
          | op n =>
            have c : ¬ n = k := of_decide_eq_false c1
            refine rGet_t (n := 0) (SqT.of e6) rfl ?_
            walk_at "y"
            exact ⟨o, _, rfl, Nat.le_succ_of_le hts, by rw [← hno]; simp [notesAux, c], s6⟩
          | sh n =>
            have c : ¬ n = k := of_decide_eq_false c2
            refine rGet_t (n := 0) (SqT.of e6) rfl ?_
            walk_at "y"
            exact ⟨o, _, rfl, Nat.le_succ_of_le hts, by rw [← hno]; simp [notesAux, c], s6⟩
          | fa n fk fl =>
            refine rGet_t (n := 0) (SqT.of e6) rfl ?_
            walk_at "y"
            exact ⟨o, _, rfl, Nat.le_succ_of_le hts, by rw [← hno]; simp [notesAux], s6⟩
          | sw z v d =>
            refine rGet_t (n := 0) (SqT.of e6) rfl ?_
            walk_at "y"
            exact ⟨o, _, rfl, Nat.le_succ_of_le hts, by rw [← hno]; simp [notesAux], s6⟩
          | no v d =>
            refine rGet_t (n := 0) (SqT.of e6) rfl ?_
            walk_at "y"
            cases o with
            | true =>
              walk_at "y"
              refine tGYield_i (sz5 (by omega)) ?_
              walk_at "y"
              refine rGet_t (n := 1) (SqT.of e6) rfl ?_
              exact ⟨true, _, rfl, by rw [List.length_append]; simp; omega, by rw [← hno]; simp [notesAux], s6⟩
            | false =>
              walk_at "y"
              exact ⟨false, _, rfl, Nat.le_succ_of_le hts, by rw [← hno]; simp [notesAux], s6⟩
    · obtain ⟨o, x, rfl, hts, hno, s3⟩ := hp
      rw [ll, List.drop_length, show notesAux k o [] = [] by cases o <;> rfl, List.append_nil] at hno
      rw [hno]
      exact q _ ((s1.trans sH2).trans s3)
end

end L75
namespace L75
open PySem PySem.Spec PyProof.Rows L2
variable {gd : Bool}
local macro_rules | `(tactic| walk_at "y1") => `(tactic| with_reducible first
  | refine tSeq_i ?_ | refine tAsg_i ?_ | refine tCons_i ?_ | refine tNil_i ?_ | refine tC_i ?_ | refine tOp_i ?_ | refine tIfS_i ?_ | refine tTest_i ?_ | refine exBl_i ?_ | refine tRet_i ?_ | refine tCall_i ?_
  | refine tCB_i ?_ | refine tLst_i ?_ | refine tTup_i ?_ | refine rI0_i ?_ | refine tDrop_i ?_ | refine tNext_i ?_ | refine tB_i ?_ | refine tAnd_i ?_ | refine tOr_i ?_ | refine tNot_i ?_ | refine tAndV_i ?_ | refine tOrV_i ?_ | refine tNotV_i ?_
  | refine tYes_i ?_ | refine tTM_i ?_ | refine tPar_i ?_ | refine tSl_i ?_ | refine tNoPart_i ?_ | refine tPart_i ?_ | refine part_i ?_ | refine tMake_i ?_ | refine tProp_i ?_ | refine tCallOG_i ?_ | refine tVeI_i ?_ | refine tOst_i ?_ | refine tMkO_i ?_ | refine sFld_i ?_ | refine fldaug_i ?_ | refine gCons_i ?_ | refine gNil_i ?_ | refine tChain_i ?_ | refine tBM_i ?_ | refine rAdd2_i ?_ | refine rLe2_i ?_ | refine rEq2_i ?_ | refine rEq2_ss ?_ | refine rNe2_i ?_ | refine rNe2_ss ?_ | refine rIsN_i ?_ | refine rNotN_i ?_ | refine tTup_i2 ?_ | refine tIf_i ?_ | refine tUn_i ?_ | refine tDGet_i ?_ | refine sDPut_i ?_ | refine tFld_i ?_ | refine tRetN_i ?_ | refine tBreak_i ?_ | refine tCont_i ?_ | refine rU_i ?_)
local macro_rules | `(tactic| walk_at "yhead") => `(tactic| dsimp only [L2.start, List.map, List.length_cons, List.length_nil, Nat.reduceAdd, Nat.reduceSub, List.replicate, List.cons_append, List.nil_append])
local macro_rules | `(tactic| walk_at "y2") => `(tactic| first
  | walk_at "y1"
  | ((with_reducible refine tVar_i (v := ?v) ?h ?q); (case h => rfl))
  | ((with_reducible refine gName_i ?_); (dsimp only [L2.wipe, List.set]))
  | with_reducible refine iteT ?_ | with_reducible refine iteF ?_ | with_reducible refine iteNT ?_ | with_reducible refine iteNF ?_
  | ((with_reducible refine iteDT ?h ?q); (case h => first | decide +kernel | omega | assumption | exact nv1 | exact nv2 | exact nv3 | exact nv4)) | ((with_reducible refine iteDF ?h ?q); (case h => first | decide +kernel | omega | assumption | exact nv1 | exact nv2 | exact nv3 | exact nv4))
  | ((with_reducible refine iteNDT ?h ?q); (case h => first | decide +kernel | omega | assumption | exact nv1 | exact nv2 | exact nv3 | exact nv4)) | ((with_reducible refine iteNDF ?h ?q); (case h => first | decide +kernel | omega | assumption | exact nv1 | exact nv2 | exact nv3 | exact nv4))
  | ((with_reducible refine rIsi2_1 (T := ?T) (b := true) ?ty ?h ?q); (case ty => first | exact ty_str | exact ty_int | exact ty_bl | exact ty_non); (case h => decide +kernel))
  | ((with_reducible refine rIsi2_1 (T := ?T) (b := false) ?ty ?h ?q); (case ty => first | exact ty_str | exact ty_int | exact ty_bl | exact ty_non); (case h => decide +kernel))
  | ((with_reducible refine rEq2_s ?h ?q); (case h => rfl)) | ((with_reducible refine rNe2_s ?h ?q); (case h => rfl))
  | ((with_reducible refine rEq_i ?h ?q); (case h => rfl)) | ((with_reducible refine rNe_i ?h ?q); (case h => rfl)))
local macro_rules | `(tactic| walk_at "y") => `(tactic| repeat walk_at "y2")

section
variable {P : Program} {w : World} {K : PySem.W.Frag} {mg : Str → Option Value} {base : Heap}
def flawV : Int → List V := fun n => [.str "flaw", .int n]
theorem flawsOf_len (es : List Ev) : (flawsOf es).length ≤ es.length := by
  unfold flawsOf
  exact Nat.le_trans (List.length_filterMap_le ..) (by simp)
/-- audit(log, ()) -/
def spAudit (K : PySem.W.Frag) : Sp := sp2 fun lv fv H Q E => ∃ q, fv = .ref q ∧ H q = some (.tup []) ∧ ((∃ b p es, lv = .ref p ∧ LogAt K b H p es ∧ ∀ D H' vs, H D = none → Same H H' → H' D = some (.lst vs) → Paired (TR flawV H') vs (flawsOf es) → Q (.ref D) H') ∨ BadC K H lv E)
theorem sc_audit : FnScope ["log", "faults", "fault", "place", "found"] ["log", "faults"] (defScope (top 38)) := ⟨rfl, rfl, rfl, by decide +kernel, rfl, by decide +kernel, by decide +kernel⟩
theorem cf_audit (T : Sy K mg) : CalF gd P w K mg base (CX P w) 10 "audit" (spAudit K) 38 ["log", "faults"] := by
  refine T.calXF (F_audit T) sc_audit sp2_len (fun cdv f A outer s H vs Q E z h => ?_) (fun _ _ _ _ _ _ us hl => match us, hl with | [_, _], _ => rfl)
  have hu1 := hu_1 z; have hu2 := hu_2 z; have hu3 := hu_3 z
  obtain ⟨x0, x1, rfl, h⟩ := h
  refine ⟨_, (pss_cons (ps_expr (pe_cX (c_check_log T) z (passes_call (takes_of rfl rfl rfl rfl) (fun _ _ _ _ h => h)) (pa_cons (pv 0) pa_nil))) (pss_cons (ps_if (pt_not (pt_val (pe_callB (r := rIsi2 K) call_isi2 (by rfl) (T.free "isinstance") (by decide +kernel) (pa_cons (pv 1) (pa_cons (pe_tup (pa_cons (pe_bltn (v := .ty "list") (u := .type "list") (by rfl) (T.free "list") (by decide +kernel) rfl) (pa_cons (pe_bltn (v := .ty "tuple") (u := .type "tuple") (by rfl) (T.free "tuple") (by decide +kernel) rfl) pa_nil))) pa_nil))))) (pss_one (ps_never)) pss_nil) (pss_cons (ps_for (passes_of rfl) (by rfl) (pi_anyK (K := K) rfl (pv 1)) (pg_name (i := 2) sc_audit.nd rfl (by first | exact Or.inl rfl | exact Or.inr rfl)) (pss_one ps_never)) (pss_cons (ps_setLc (i := 4) (own := [("place", 3)]) (g := gName 3) (by rfl) sc_audit.nd rfl rfl (sw_true rfl rfl rfl (by decide +kernel)) (pi_anyK (K := K) rfl (pe_cX (c_flaws T) z (passes_call (takes_of rfl rfl rfl rfl) (fun _ _ _ _ h => h)) (pa_cons (pv 0) pa_nil))) (blkOk_by (own := [("place", 3)]) (N := ["log", "faults", "fault", "place", "found"]) (sc := (defScope (top 38))) (by decide +kernel)) (fun _ _ _ _ _ => (pg_name (i := 3) sc_audit.nd rfl (by first | exact Or.inl rfl | exact Or.inr rfl))) (fun _ _ _ _ _ => pts_nil) (fun _ _ _ _ _ => (pe_tup (pa_cons pe_str (pa_cons (pv 3) pa_nil))))) (pss_cons (ps_for (passes_of rfl) (by rfl) (pi_enum2K (K := K) rfl (by rfl) (T.free "enumerate") (pv 1)) (pg_tupK (K := K) rfl (by rfl) (pgs_cons (pg_name (i := 3) sc_audit.nd rfl (by first | exact Or.inl rfl | exact Or.inr rfl)) (pgs_cons (pg_name (i := 2) sc_audit.nd rfl (by first | exact Or.inl rfl | exact Or.inr rfl)) pgs_nil))) (pss_cons ps_never (pss_cons ps_never (pss_one ps_never)))) (pss_one (ps_ret (pv 4)))))))), ?_⟩
  obtain ⟨qt, rfl, hq, h⟩ := h
  rcases h with ⟨b, p, es, rfl, lg, qq⟩ | bad
  rotate_left
  · walk_at "yhead"; walk_at "y"
    exact bad.check
  walk_at "yhead"; walk_at "y"
  refine lg.check fun H1 s1 => ?_
  walk_at "y"
  refine ⟨sz4 (by simp), fun T1 nT1 => ?_⟩
  have sH2 := same_upd (H := H1) (o := .tup [.ty "list", .ty "tuple"]) nT1
  have eT1 := upd_same (H := H1) (a := T1) (o := .tup [.ty "list", .ty "tuple"])
  generalize upd H1 T1 (.tup [.ty "list", .ty "tuple"]) = H2 at sH2 eT1 ⊢
  have s2 := s1.trans sH2
  refine rIsi2_2 (b := false) (b2 := true) (ty_tup (s2 _ _ hq)) eT1 (by decide +kernel) (by decide +kernel) ?_
  walk_at "y"
  refine for_b false ?_
  walk_at "y"
  refine ⟨qt, rfl, ⟨_, SqT.of (s2 _ _ hq)⟩, for_it (walk_b (b := false) (xs := [])) (Pv := fun j σ H' => H' = H2 ∧ σ = [some (.ref p), some (.ref qt), none, none, none]) ⟨rfl, rfl⟩ (fun j σ H' _ hj => hj.1 ▸ s2 _ _ hq) (fun j x σ H0 H' hi hj y => absurd hi (Nat.not_lt_zero _)) fun σ H' hj => ?_⟩
  obtain ⟨rfl, rfl⟩ := hj
  walk_at "y"
  refine lc_b true ?_
  walk_at "y"
  refine ⟨_, rfl, .inl ⟨b, p, es, rfl, lg.same s2, fun D1 H4 hD1 s4 e4 => ?_⟩⟩
  have fl := flawsOf_len es
  have hel : es.length ≤ 40 := lg.choose_spec.2.2.2
  have s04 := s2.trans s4
  refine ⟨D1, rfl, ⟨_, SqL.of e4⟩, lc_pure (walk_b (b := true) (xs := (flawsOf es).map V.int)) (by rw [List.length_map]; exact Nat.le_of_lt (Nat.lt_of_le_of_lt (show (flawsOf es).length ≤ 100 by omega) (sz4 (n := 101)))) (fun i => ((flawsOf es)[i]?).bind fun n => some n) (firm_TR flawV) (fun H' s => s _ _ e4) (fun i H0 x H1 y => by obtain ⟨rfl, _⟩ := y; exact Same.refl _) (fun i x H0 H5 hi s0 s5 y N C hC hN => ?_) fun D H5 vs hD s5 h5 pr => ?_⟩
  · obtain ⟨rfl, e1⟩ := y
    rw [List.getElem?_map] at e1
    cases e2 : (flawsOf es)[i]? with
    | none => rw [e2] at e1; cases e1
    | some n =>
      rw [e2] at e1
      cases e1
      walk_at "y"
      refine ⟨rfl, ?_⟩
      walk_at "y"
      refine ⟨sz4 (by simp), fun T2 nT2 => ?_⟩
      have sH6 := same_upd (H := H5) (o := .tup [.str "flaw", .int n]) nT2
      have eT2 := upd_same (H := H5) (a := T2) (o := .tup [.str "flaw", .int n])
      generalize upd H5 T2 (.tup [.str "flaw", .int n]) = H6 at sH6 eT2 ⊢
      exact hC _ _ n sH6 (by rw [e2]; rfl) ⟨T2, rfl, eT2⟩
  rw [List.length_map, filterMap_ix, show (fun n : Int => some n) = some ∘ (fun n => n) from rfl, List.filterMap_eq_map, List.map_id'] at pr
  have hD0 : H D = none := s04.free hD
  have s05 := s04.trans s5
  walk_at "y"
  refine for_eb false ?_
  walk_at "y"
  refine ⟨qt, _, rfl, SqB.of (b := false) (s05 _ _ hq), for_it (walk_eb (b := false) (xs := [])) (Pv := fun j σ H' => H' = H5 ∧ ∃ x y, σ = [some (.ref p), some (.ref qt), x, y, some (.ref D)]) ⟨rfl, _, _, rfl⟩ (fun j σ H' _ hj => hj.1 ▸ s05 _ _ hq) (fun j x σ H0 H' hi hj y => absurd hi (Nat.not_lt_zero _)) fun σ H' hj => ?_⟩
  obtain ⟨rfl, x, y, rfl⟩ := hj
  walk_at "y"
  exact qq D _ vs hD0 s05 h5 pr
theorem c_audit (T : Sy K mg) : Cal gd P w K mg base (CX P w) 10 "audit" (spAudit K) := (cf_audit T).cal
end

end L75
namespace L75
open PySem PySem.Spec PyProof.Rows L2
variable {gd : Bool}
local macro_rules | `(tactic| walk_at "y1") => `(tactic| with_reducible first
  | refine tSeq_i ?_ | refine tAsg_i ?_ | refine tCons_i ?_ | refine tNil_i ?_ | refine tC_i ?_ | refine tOp_i ?_ | refine tIfS_i ?_ | refine tTest_i ?_ | refine exBl_i ?_ | refine tRet_i ?_ | refine tCall_i ?_
  | refine tCB_i ?_ | refine tLst_i ?_ | refine tTup_i ?_ | refine rI0_i ?_ | refine tDrop_i ?_ | refine tNext_i ?_ | refine tB_i ?_ | refine tAnd_i ?_ | refine tOr_i ?_ | refine tNot_i ?_ | refine tAndV_i ?_ | refine tOrV_i ?_ | refine tNotV_i ?_
  | refine tYes_i ?_ | refine tTM_i ?_ | refine tPar_i ?_ | refine tSl_i ?_ | refine tNoPart_i ?_ | refine tPart_i ?_ | refine part_i ?_ | refine tMake_i ?_ | refine tProp_i ?_ | refine tCallOG_i ?_ | refine tVeI_i ?_ | refine tOst_i ?_ | refine tMkO_i ?_ | refine sFld_i ?_ | refine fldaug_i ?_ | refine gCons_i ?_ | refine gNil_i ?_ | refine tChain_i ?_ | refine tBM_i ?_ | refine rAdd2_i ?_ | refine rLe2_i ?_ | refine rEq2_i ?_ | refine rEq2_ss ?_ | refine rNe2_i ?_ | refine rNe2_ss ?_ | refine rIsN_i ?_ | refine rNotN_i ?_ | refine tTup_i2 ?_ | refine tIf_i ?_ | refine tUn_i ?_ | refine tDGet_i ?_ | refine sDPut_i ?_ | refine tFld_i ?_ | refine tRetN_i ?_ | refine tBreak_i ?_ | refine tCont_i ?_ | refine rU_i ?_)
local macro_rules | `(tactic| walk_at "yhead") => `(tactic| dsimp only [L2.start, List.map, List.length_cons, List.length_nil, Nat.reduceAdd, Nat.reduceSub, List.replicate, List.cons_append, List.nil_append])
local macro_rules | `(tactic| walk_at "y2") => `(tactic| first
  | walk_at "y1"
  | ((with_reducible refine tVar_i (v := ?v) ?h ?q); (case h => rfl))
  | ((with_reducible refine gName_i ?_); (dsimp only [L2.wipe, List.set]))
  | with_reducible refine iteT ?_ | with_reducible refine iteF ?_ | with_reducible refine iteNT ?_ | with_reducible refine iteNF ?_
  | ((with_reducible refine iteDT ?h ?q); (case h => first | decide +kernel | omega | assumption | exact nv1 | exact nv2 | exact nv3 | exact nv4)) | ((with_reducible refine iteDF ?h ?q); (case h => first | decide +kernel | omega | assumption | exact nv1 | exact nv2 | exact nv3 | exact nv4))
  | ((with_reducible refine iteNDT ?h ?q); (case h => first | decide +kernel | omega | assumption | exact nv1 | exact nv2 | exact nv3 | exact nv4)) | ((with_reducible refine iteNDF ?h ?q); (case h => first | decide +kernel | omega | assumption | exact nv1 | exact nv2 | exact nv3 | exact nv4))
  | ((with_reducible refine rIsi2_1 (T := ?T) (b := true) ?ty ?h ?q); (case ty => first | exact ty_str | exact ty_int | exact ty_bl | exact ty_non); (case h => decide +kernel))
  | ((with_reducible refine rIsi2_1 (T := ?T) (b := false) ?ty ?h ?q); (case ty => first | exact ty_str | exact ty_int | exact ty_bl | exact ty_non); (case h => decide +kernel))
  | ((with_reducible refine rEq2_s ?h ?q); (case h => rfl)) | ((with_reducible refine rNe2_s ?h ?q); (case h => rfl))
  | ((with_reducible refine rEq_i ?h ?q); (case h => rfl)) | ((with_reducible refine rNe_i ?h ?q); (case h => rfl)))
local macro_rules | `(tactic| walk_at "y") => `(tactic| repeat walk_at "y2")

section
variable {X : Cx}
/-- a short text so many times -/
def rMulS : R2 := fun x y H Q => ∃ (z : Str) (k : Int), x = .str z ∧ y = .int k ∧ 2 ≤ k ∧ k ≤ 100 ∧ z.length = 1 ∧ Q (.str ⟨(List.replicate k.toNat z.cps).foldl (· ++ ·) #[]⟩) H
theorem fold_len (a : Array Nat) : ∀ (n : Nat) (b : Array Nat), ((List.replicate n a).foldl (· ++ ·) b).size = b.size + n * a.size
  | 0, b => by simp
  | n + 1, b => by
    rw [List.replicate_succ, List.foldl_cons, fold_len a n, Array.size_append, Nat.add_mul]
    omega
theorem op_mulS : OpR X (binaryOp .Mult) rMulS := by
  intro pins s σ H x y v u Q I rx ry h
  obtain ⟨z, k, rfl, rfl, k2, k1, hz, q⟩ := h
  obtain ⟨t, rfl⟩ := rx
  obtain ⟨t2, rfl⟩ := ry
  have n1 : ¬ k < 1 := by omega
  have n2 : (k == 1 || z.length == 0) = false := by
    rw [hz]
    have : (k == 1) = false := beq_eq_false_iff_ne.mpr (by omega)
    rw [this]
    rfl
  refine P.mul_str (by rw [decide_eq_false (show ¬ k < -(2 ^ 63 : Int) by omega), decide_eq_false (show ¬ k ≥ 2 ^ 63 by omega)]; rfl) (fun _ _ => ?_) (fun _ _ => ?_) ?_
  · rw [hz]
    have : (1 : Int) ≤ (2 ^ 63 - 1) / k := Int.le_ediv_of_mul_le (by omega) (by omega)
    omega
  · rw [hz]
    exact decide_eq_false (by rw [sizeLine_eq]; omega)
  · rw [if_neg n1, if_neg (by rw [n2]; decide)]
    refine ⟨?_, ⟨.str _, H, I.kept (t' := s.toks + 1) fun _ _ e => e, ⟨_, rfl⟩, q⟩⟩
    have e := fold_len z.cps k.toNat #[]
    have e2 : z.cps.size = 1 := hz
    show ((List.replicate k.toNat z.cps).foldl (· ++ ·) #[]).size ≤ sizeLine
    rw [e, e2, sizeLine_eq]
    simp
    omega
end

end L75
namespace L75
open PySem PySem.Spec PyProof.Rows L2
variable {gd : Bool}
local macro_rules | `(tactic| walk_at "y1") => `(tactic| with_reducible first
  | refine tSeq_i ?_ | refine tAsg_i ?_ | refine tCons_i ?_ | refine tNil_i ?_ | refine tC_i ?_ | refine tOp_i ?_ | refine tIfS_i ?_ | refine tTest_i ?_ | refine exBl_i ?_ | refine tRet_i ?_ | refine tCall_i ?_
  | refine tCB_i ?_ | refine tLst_i ?_ | refine tTup_i ?_ | refine rI0_i ?_ | refine tDrop_i ?_ | refine tNext_i ?_ | refine tB_i ?_ | refine tAnd_i ?_ | refine tOr_i ?_ | refine tNot_i ?_ | refine tAndV_i ?_ | refine tOrV_i ?_ | refine tNotV_i ?_
  | refine tYes_i ?_ | refine tTM_i ?_ | refine tPar_i ?_ | refine tSl_i ?_ | refine tNoPart_i ?_ | refine tPart_i ?_ | refine part_i ?_ | refine tMake_i ?_ | refine tProp_i ?_ | refine tCallOG_i ?_ | refine tVeI_i ?_ | refine tOst_i ?_ | refine tMkO_i ?_ | refine sFld_i ?_ | refine fldaug_i ?_ | refine gCons_i ?_ | refine gNil_i ?_ | refine tChain_i ?_ | refine tBM_i ?_ | refine rAdd2_i ?_ | refine rLe2_i ?_ | refine rEq2_i ?_ | refine rEq2_ss ?_ | refine rNe2_i ?_ | refine rNe2_ss ?_ | refine rIsN_i ?_ | refine rNotN_i ?_ | refine tTup_i2 ?_ | refine tIf_i ?_ | refine tUn_i ?_ | refine tDGet_i ?_ | refine sDPut_i ?_ | refine tFld_i ?_ | refine tRetN_i ?_ | refine tBreak_i ?_ | refine tCont_i ?_ | refine rU_i ?_)
local macro_rules | `(tactic| walk_at "yhead") => `(tactic| dsimp only [L2.start, List.map, List.length_cons, List.length_nil, Nat.reduceAdd, Nat.reduceSub, List.replicate, List.cons_append, List.nil_append])
local macro_rules | `(tactic| walk_at "y2") => `(tactic| first
  | walk_at "y1"
  | ((with_reducible refine tVar_i (v := ?v) ?h ?q); (case h => rfl))
  | ((with_reducible refine gName_i ?_); (dsimp only [L2.wipe, List.set]))
  | with_reducible refine iteT ?_ | with_reducible refine iteF ?_ | with_reducible refine iteNT ?_ | with_reducible refine iteNF ?_
  | ((with_reducible refine iteDT ?h ?q); (case h => first | decide +kernel | omega | assumption | exact nv1 | exact nv2 | exact nv3 | exact nv4)) | ((with_reducible refine iteDF ?h ?q); (case h => first | decide +kernel | omega | assumption | exact nv1 | exact nv2 | exact nv3 | exact nv4))
  | ((with_reducible refine iteNDT ?h ?q); (case h => first | decide +kernel | omega | assumption | exact nv1 | exact nv2 | exact nv3 | exact nv4)) | ((with_reducible refine iteNDF ?h ?q); (case h => first | decide +kernel | omega | assumption | exact nv1 | exact nv2 | exact nv3 | exact nv4))
  | ((with_reducible refine rIsi2_1 (T := ?T) (b := true) ?ty ?h ?q); (case ty => first | exact ty_str | exact ty_int | exact ty_bl | exact ty_non); (case h => decide +kernel))
  | ((with_reducible refine rIsi2_1 (T := ?T) (b := false) ?ty ?h ?q); (case ty => first | exact ty_str | exact ty_int | exact ty_bl | exact ty_non); (case h => decide +kernel))
  | ((with_reducible refine rEq2_s ?h ?q); (case h => rfl)) | ((with_reducible refine rNe2_s ?h ?q); (case h => rfl))
  | ((with_reducible refine rEq_i ?h ?q); (case h => rfl)) | ((with_reducible refine rNe_i ?h ?q); (case h => rfl)))
local macro_rules | `(tactic| walk_at "y") => `(tactic| repeat walk_at "y2")

/-! what is drawn, and that both readings agree on it -/
def rep40 (c : Nat) (n : Nat) : Str := ⟨(List.replicate n c).toArray⟩
def TX : List Str := ["note", "show", "fault", "open", "shut", "", rep40 120 40, "a b~", "a", "error", "zzzzzzzz", "b", "A", "Error", "Abcdefghijkl", "x", rep40 121 40, rep40 120 41, "a\nb", "nineabcde", "Abcdefghijklm", "a1", "abc", "stack", "other"]
def Itm.drB : Itm → Bool
  | .str s => decide (s ∈ TX)
  | .int i => decide (i ≤ 2000000000) || decide (i = 1000000000000000000000000000000)
  | .tu xs => xs.all fun v => match v with | .non => true | .bl _ => true | .int _ => true | .str s => decide (s ∈ TX) | _ => false
  | .ls xs => match xs with | .int _ :: _ => true | .str _ :: _ => true | _ => false
  | _ => true
theorem tx_len : ∀ s ∈ TX, s.length ≤ 1000 := by decide +kernel
theorem Itm.dr_int {it : Itm} (h : it.drB = true) : IntIn it := by
  cases it with
  | int i => rcases (Bool.or_eq_true _ _).mp h with h | h
             · exact .inl (of_decide_eq_true h)
             · exact .inr (of_decide_eq_true h)
  | _ => trivial
theorem Itm.dr_ok {it : Itm} (h : it.drB = true) : it.Ok := by
  cases it with
  | tu xs =>
    intro x hx
    have h2 := List.all_eq_true.mp h x hx
    cases x with
    | str s => exact tx_len s (of_decide_eq_true h2)
    | non => trivial
    | bl b => trivial
    | int i => trivial
    | _ => cases h2
  | _ => trivial
theorem tx_plain : ∀ s ∈ TX, isLabelB s = lawTxtB s := by decide +kernel
theorem tx_name : ∀ s ∈ TX, isNameB s = (lawIsTextB smallS 8 (.str s) && !emptyB (.str s)) := by decide +kernel
theorem tx_kind : ∀ s ∈ TX, isKindB s = (lawIsTextB bothS 12 (.str s) && (!emptyB (.str s) && firstB (.str s))) := by decide +kernel
theorem plain_eq {it : Itm} (h : it.drB = true) : plainB it = lawPlainB it := by
  cases it with
  | str s => exact tx_plain s (of_decide_eq_true h)
  | _ => rfl
theorem name_eq {it : Itm} (h : it.drB = true) : nameB it = (lawIsTextB smallS 8 it && !emptyB it) := by
  cases it with
  | str s => exact tx_name s (of_decide_eq_true h)
  | _ => rfl
theorem kind_eq {it : Itm} (h : it.drB = true) : kindB it = (lawIsTextB bothS 12 it && (!emptyB it && firstB it)) := by
  cases it with
  | str s => exact tx_kind s (of_decide_eq_true h)
  | _ => rfl
theorem label_eq {it : Itm} (h : it.drB = true) : labelB it = (strB it && lawPlainB it) := by
  cases it with
  | str s => exact tx_plain s (of_decide_eq_true h)
  | _ => rfl
theorem word_inV (a : V) (h : (match a with | .non => true | .bl _ => true | .int _ => true | .str s => decide (s ∈ TX) | _ => false) = true) : wordB [.str "fault", .str "stack"] (vItm a) = inV a [.str "fault", .str "stack"] := by
  cases a with
  | str s => rfl
  | non => decide +kernel
  | bl b => cases b <;> decide +kernel
  | int i =>
    show false = inV (.int i) [.str "fault", .str "stack"]
    unfold inV
    simp only [List.any_cons, List.any_nil, Bool.or_false]
    rfl
  | _ => cases h
theorem shown_eq {it : Itm} (h : it.drB = true) : shownB it = xDueB it := by
  cases it with
  | tu xs =>
    match xs, h with
    | [], _ => rfl
    | [_], _ => rfl
    | [a, b], h =>
      have h2 := List.all_eq_true.mp h a (List.mem_cons_self ..)
      show (wordB _ (vItm a) && numB (vItm b)) = (inV a _ && numB (vItm b))
      rw [word_inV a h2]
    | _ :: _ :: _ :: _, _ => rfl
  | _ => exact plain_eq h
theorem due_eq {its : List Itm} (h : ∀ it ∈ its, it.drB = true) : isEventB its = isDueB its := by
  cases its with
  | nil => rfl
  | cons i0 ps =>
    cases i0 with
    | str wd =>
      have hp : ∀ it ∈ ps, it.drB = true := fun it hi => h it (List.mem_cons_of_mem _ hi)
      rw [evB, dueB_eq]
      have n1 : ¬ (Str.ofString "note" = Str.ofString "show") := by decide +kernel
      have n2 : ¬ (Str.ofString "note" = Str.ofString "fault") := by decide +kernel
      have n3 : ¬ (Str.ofString "show" = Str.ofString "fault") := by decide +kernel
      have n4 : ¬ (Str.ofString "show" = Str.ofString "note") := by decide +kernel
      have n5 : ¬ (Str.ofString "fault" = Str.ofString "note") := by decide +kernel
      have n6 : ¬ (Str.ofString "fault" = Str.ofString "show") := by decide +kernel
      have v1 : inV (.str "note") [.str "open", .str "shut"] = false := by decide +kernel
      have v2 : inV (.str "show") [.str "open", .str "shut"] = false := by decide +kernel
      have v3 : inV (.str "fault") [.str "open", .str "shut"] = false := by decide +kernel
      by_cases c1 : wd = Str.ofString "note"
      · subst c1
        by_cases l1 : ps.length = 1
        · simp only [if_true, l1, and_self]
          match ps, l1, hp with
          | [p], _, hp => exact plain_eq (hp p (List.mem_cons_self ..))
        · simp only [if_true, l1, and_false, if_false, n1, n2, false_and]
          exact noteB_ne l1
      by_cases c2 : wd = Str.ofString "show"
      · subst c2
        by_cases l2 : ps.length = 2
        · simp only [if_true, l2, and_self, n4, false_and, if_false, v2, Bool.false_eq_true]
          match ps, l2, hp with
          | [a, b], _, hp =>
            show (nameB a && shownB b) = (lawIsTextB smallS 8 a && (!emptyB a && xDueB b))
            rw [name_eq (hp a (List.mem_cons_self ..)), shown_eq (hp b (List.mem_cons_of_mem _ (List.mem_cons_self ..))), Bool.and_assoc]
        · simp only [if_true, l2, and_false, n4, n3, false_and, if_false, v2, Bool.false_eq_true]
          exact showB_ne l2
      by_cases c3 : wd = Str.ofString "fault"
      · subst c3
        by_cases l3 : ps.length = 3
        · simp only [if_true, l3, and_self, n5, n6, false_and, if_false, v3, Bool.false_eq_true]
          match ps, l3, hp with
          | [n, k, l], _, hp =>
            show (numB n && (kindB k && labelB l)) = (numB n && (lawIsTextB bothS 12 k && (!emptyB k && (firstB k && (strB l && lawPlainB l)))))
            rw [kind_eq (hp k (by simp)), label_eq (hp l (by simp)), Bool.and_assoc, Bool.and_assoc]
        · simp only [if_true, l3, and_false, n5, n6, false_and, if_false, v3, Bool.false_eq_true]
          exact faultB_ne l3
      simp only [c1, c2, c3, if_false, false_and]
      cases c4 : inV (.str wd) [.str "open", .str "shut"] with
      | true =>
        by_cases l1 : ps.length = 1
        · simp only [l1, and_self, if_true, Bool.true_and]
        · simp only [l1, and_false, if_false, Bool.true_and]
          exact oneB_ne l1
      | false => simp only [Bool.false_eq_true, false_and, if_false, Bool.false_and]
    | _ => rfl
/-- what is drawn: a tuple of items, or another item -/
def DrA (H : Hp) (v : V) (o : Option (List Itm)) : Prop := match o with
  | some its => ∃ p vs, v = .ref p ∧ H p = some (.tup vs) ∧ Paired (fun v (it : Itm) => it.At H v) vs its ∧ (∀ it ∈ its, it.drB = true) ∧ its.length ≤ 8
  | none => ∃ it : Itm, it.At H v ∧ (∀ xs, it ≠ .tu xs) ∧ it.drB = true
theorem DrA.ev {K : PySem.W.Frag} {H : Hp} {v : V} {o : Option (List Itm)} (h : DrA H v o) : EvAt K H v o := by
  cases o with
  | some its => exact (let ⟨p, vs, a, b, c, d, l⟩ := h; ⟨p, vs, a, b, c, fun it hi => Itm.dr_ok (d it hi), l⟩)
  | none => exact (let ⟨it, a, b, _⟩ := h; ⟨it, a, b⟩)

end L75
namespace L75
open PySem PySem.Spec PyProof.Rows L2
variable {gd : Bool}
local macro_rules | `(tactic| walk_at "y1") => `(tactic| with_reducible first
  | refine tSeq_i ?_ | refine tAsg_i ?_ | refine tCons_i ?_ | refine tNil_i ?_ | refine tC_i ?_ | refine tOp_i ?_ | refine tIfS_i ?_ | refine tTest_i ?_ | refine exBl_i ?_ | refine tRet_i ?_ | refine tCall_i ?_
  | refine tCB_i ?_ | refine tLst_i ?_ | refine tTup_i ?_ | refine rI0_i ?_ | refine tDrop_i ?_ | refine tNext_i ?_ | refine tB_i ?_ | refine tAnd_i ?_ | refine tOr_i ?_ | refine tNot_i ?_ | refine tAndV_i ?_ | refine tOrV_i ?_ | refine tNotV_i ?_
  | refine tYes_i ?_ | refine tTM_i ?_ | refine tPar_i ?_ | refine tSl_i ?_ | refine tNoPart_i ?_ | refine tPart_i ?_ | refine part_i ?_ | refine tMake_i ?_ | refine tProp_i ?_ | refine tCallOG_i ?_ | refine tVeI_i ?_ | refine tOst_i ?_ | refine tMkO_i ?_ | refine sFld_i ?_ | refine fldaug_i ?_ | refine gCons_i ?_ | refine gNil_i ?_ | refine tChain_i ?_ | refine tBM_i ?_ | refine rAdd2_i ?_ | refine rLe2_i ?_ | refine rEq2_i ?_ | refine rEq2_ss ?_ | refine rNe2_i ?_ | refine rNe2_ss ?_ | refine rIsN_i ?_ | refine rNotN_i ?_ | refine tTup_i2 ?_ | refine tIf_i ?_ | refine tUn_i ?_ | refine tDGet_i ?_ | refine sDPut_i ?_ | refine tFld_i ?_ | refine tRetN_i ?_ | refine tBreak_i ?_ | refine tCont_i ?_ | refine rU_i ?_)
local macro_rules | `(tactic| walk_at "yhead") => `(tactic| dsimp only [L2.start, List.map, List.length_cons, List.length_nil, Nat.reduceAdd, Nat.reduceSub, List.replicate, List.cons_append, List.nil_append])
local macro_rules | `(tactic| walk_at "y2") => `(tactic| first
  | walk_at "y1"
  | ((with_reducible refine tVar_i (v := ?v) ?h ?q); (case h => rfl))
  | ((with_reducible refine gName_i ?_); (dsimp only [L2.wipe, List.set]))
  | with_reducible refine iteT ?_ | with_reducible refine iteF ?_ | with_reducible refine iteNT ?_ | with_reducible refine iteNF ?_
  | ((with_reducible refine iteDT ?h ?q); (case h => first | decide +kernel | omega | assumption | exact nv1 | exact nv2 | exact nv3 | exact nv4)) | ((with_reducible refine iteDF ?h ?q); (case h => first | decide +kernel | omega | assumption | exact nv1 | exact nv2 | exact nv3 | exact nv4))
  | ((with_reducible refine iteNDT ?h ?q); (case h => first | decide +kernel | omega | assumption | exact nv1 | exact nv2 | exact nv3 | exact nv4)) | ((with_reducible refine iteNDF ?h ?q); (case h => first | decide +kernel | omega | assumption | exact nv1 | exact nv2 | exact nv3 | exact nv4))
  | ((with_reducible refine rIsi2_1 (T := ?T) (b := true) ?ty ?h ?q); (case ty => first | exact ty_str | exact ty_int | exact ty_bl | exact ty_non); (case h => decide +kernel))
  | ((with_reducible refine rIsi2_1 (T := ?T) (b := false) ?ty ?h ?q); (case ty => first | exact ty_str | exact ty_int | exact ty_bl | exact ty_non); (case h => decide +kernel))
  | ((with_reducible refine rEq2_s ?h ?q); (case h => rfl)) | ((with_reducible refine rNe2_s ?h ?q); (case h => rfl))
  | ((with_reducible refine rEq_i ?h ?q); (case h => rfl)) | ((with_reducible refine rNe_i ?h ?q); (case h => rfl)))
local macro_rules | `(tactic| walk_at "y") => `(tactic| repeat walk_at "y2")

section
variable {P : Program} {w : World} {K : PySem.W.Frag} {mg : Str → Option Value} {base : Heap}
def OffP (p : Addr) (H H' : Hp) : Prop := ∀ b o, H b = some o → b ≠ p → H' b = some o
theorem OffP.trans {p : Addr} {H H' H2 : Hp} (a : OffP p H H') (b : OffP p H' H2) : OffP p H H2 := fun c o e n => b c o (a c o e n) n
theorem OffP.of {p : Addr} {H H' : Hp} (s : Same H H') : OffP p H H' := fun c o e _ => s c o e
def DrS (H : Hp) (p : Addr) (c t : Int) : Prop := ∃ L, 0 ≤ L ∧ H p = some (.dK (stK L c t))
theorem DrS.same {H H' : Hp} {p : Addr} {c t : Int} (h : DrS H p c t) (s : Same H H') : DrS H' p c t := let ⟨L, a, b⟩ := h; ⟨L, a, s _ _ b⟩
theorem DrS.ne {H : Hp} {p a : Addr} {c t : Int} {o : HO} (h : DrS H p c t) (e : H a = some o) (n : ∀ L, o ≠ .dK (stK L c t)) : a ≠ p := fun z => by
  obtain ⟨L, _, k⟩ := h
  rw [z, k] at e
  exact n L (Option.some.inj e).symm
theorem digit_i {H : Hp} {p : Addr} {c t z : Int} {Q : VK} {E : XK} (h : DrS H p c t) (t0 : 0 ≤ t) (t1 : t < 100000000) (z1 : 1 ≤ z) (z2 : z ≤ 40)
    (q : ∀ d t' H', 0 ≤ d → d < z → t ≤ t' → t' ≤ t + 4 → OffP p H H' → DrS H' p c t' → Q (.int d) H') : spDigit ([V.ref p, V.int z] ++ []) H Q E := by
  obtain ⟨L, L0, k⟩ := h
  exact ⟨_, _, rfl, p, L, c, t, z, rfl, rfl, k, L0, t0, t1, z1, z2, fun d L' t' H' a1 a2 a3 a4 a5 off k' => q d t' H' a1 a2 a4 a5 off ⟨L', a3, k'⟩⟩
theorem Itm.At.off {H H' : Hp} {p : Addr} {c t : Int} {v : V} {it : Itm} (h : it.At H v) (d : DrS H p c t) (s : OffP p H H') : it.At H' v := by
  cases it with
  | tu xs => exact (let ⟨a, e, k⟩ := h; ⟨a, e, s _ _ k (d.ne k fun _ z => nomatch z)⟩)
  | ls xs => exact (let ⟨a, e, k⟩ := h; ⟨a, e, s _ _ k (d.ne k fun _ z => nomatch z)⟩)
  | dc => exact (let ⟨a, e, k⟩ := h; ⟨a, e, s _ _ k (d.ne k fun _ z => nomatch z)⟩)
  | _ => exact h
theorem DrA.off {H H' : Hp} {p : Addr} {c t : Int} {v : V} {o : Option (List Itm)} (h : DrA H v o) (d : DrS H p c t) (s : OffP p H H') : DrA H' v o := by
  cases o with
  | some its => exact (let ⟨a, vs, e, k, pr, r⟩ := h; ⟨a, vs, e, s _ _ k (d.ne k fun _ z => nomatch z), pr.mono fun v it h => h.off d s, r⟩)
  | none => exact (let ⟨it, a, b⟩ := h; ⟨it, a.off d s, b⟩)
theorem DrA.same {H H' : Hp} {v : V} {o : Option (List Itm)} (h : DrA H v o) (s : Same H H') : DrA H' v o := by
  cases o with
  | some its => exact (let ⟨a, vs, e, k, pr, r⟩ := h; ⟨a, vs, e, s _ _ k, pr.mono fun v it h => h.same s, r⟩)
  | none => exact (let ⟨it, a, b⟩ := h; ⟨it, a.same s, b⟩)
/-- a drawn event -/
def EvD (H : Hp) (v : V) (its : List Itm) : Prop := DrA H v (some its) ∧ 2 ≤ its.length ∧ its.length ≤ 4 ∧ isEventB its = true
def thB (v : V) : Bool := plV v && ((vItm v).drB && plainB (vItm v))
theorem th_at {v : V} {H : Hp} (h : thB v = true) : (vItm v).At H v := by
  obtain ⟨h1, h2⟩ := He.ba h
  obtain ⟨h2, _⟩ := He.ba h2
  cases v with
  | str s => exact ⟨rfl, tx_len s (of_decide_eq_true h2)⟩
  | non => rfl
  | bl b => rfl
  | int i => rfl
  | _ => cases h1
theorem tx_at {s : Str} {H : Hp} (h : s ∈ TX) : (Itm.str s).At H (.str s) := ⟨rfl, tx_len s h⟩
theorem ev_op {n : Int} (h : 0 ≤ n) : isEventB [.str "open", .int n] = true := by
  rw [evB, if_neg (by decide +kernel), if_neg (by decide +kernel), if_neg (by decide +kernel), show inV (.str "open") [.str "open", .str "shut"] = true by decide +kernel, Bool.true_and]
  exact decide_eq_true h
theorem ev_sh {n : Int} (h : 0 ≤ n) : isEventB [.str "shut", .int n] = true := by
  rw [evB, if_neg (by decide +kernel), if_neg (by decide +kernel), if_neg (by decide +kernel), show inV (.str "shut") [.str "open", .str "shut"] = true by decide +kernel, Bool.true_and]
  exact decide_eq_true h
theorem ev_no {it : Itm} (h : plainB it = true) : isEventB [.str "note", it] = true := by
  rw [evB, if_pos rfl]
  exact h
theorem ev_sw {s : Str} {it : Itm} (h1 : isNameB s = true) (h : shownB it = true) : isEventB [.str "show", .str s, it] = true := by
  rw [evB, if_neg (by decide +kernel), if_pos rfl]
  show (isNameB s && shownB it) = true
  rw [h1, h]
  rfl
theorem ev_fa {n : Int} {k l : Str} (h : 0 ≤ n) (h1 : isKindB k = true) (h2 : isLabelB l = true) : isEventB [.str "fault", .int n, .str k, .str l] = true := by
  rw [evB, if_neg (by decide +kernel), if_neg (by decide +kernel), if_pos rfl]
  show (decide (0 ≤ n) && (isKindB k && isLabelB l)) = true
  rw [h1, h2, decide_eq_true h]
  rfl
theorem shown_of_plain {v : V} (h : thB v = true) : shownB (vItm v) = true := by
  obtain ⟨h1, h2⟩ := He.ba h
  obtain ⟨_, h2⟩ := He.ba h2
  cases v with
  | str s => exact h2
  | non => exact h2
  | bl b => exact h2
  | int i => exact h2
  | _ => cases h1
theorem th_dr {v : V} (h : thB v = true) : (vItm v).drB = true := (He.ba (He.ba h).2).1
theorem th_pl {v : V} (h : thB v = true) : plainB (vItm v) = true := (He.ba (He.ba h).2).2
/-- an element of a list by an index that is drawn -/
theorem rGet_dr {H : Hp} {a : Addr} {xs : List V} {d : Int} {Q : VK} (h : H a = some (.lst xs)) (d0 : 0 ≤ d) (d1 : d < (xs.length : Nat)) (q : ∀ v, v ∈ xs → xs[d.toNat]? = some v → Q v H) : rGet K (.ref a) (.int d) H Q := by
  have hl : d.toNat < xs.length := by omega
  have e : xs[d.toNat]? = some xs[d.toNat] := List.getElem?_eq_getElem hl
  exact rGet_l (n := d.toNat) (SqL.of h) e (q _ (List.getElem_mem hl) e) (by omega)
def spLEvent : Sp := sp1 fun sv H Q _ => ∃ p c t, sv = .ref p ∧ DrS H p c t ∧ 0 ≤ t ∧ t < 10000000 ∧ ∀ v its t' H', t ≤ t' → t' ≤ t + 40 → OffP p H H' → DrS H' p c t' → EvD H' v its → Q v H'
theorem s40x : (⟨(List.replicate (40 : Int).toNat (Str.ofString "x").cps).foldl (· ++ ·) #[]⟩ : Str) = rep40 120 40 := by decide +kernel
theorem s40y : (⟨(List.replicate (40 : Int).toNat (Str.ofString "y").cps).foldl (· ++ ·) #[]⟩ : Str) = rep40 121 40 := by decide +kernel
theorem s41x : (⟨(List.replicate (41 : Int).toNat (Str.ofString "x").cps).foldl (· ++ ·) #[]⟩ : Str) = rep40 120 41 := by decide +kernel
theorem p30 : (10 : Int) ^ (30 : Int).toNat = 1000000000000000000000000000000 := by decide +kernel
theorem p9 : (10 : Int) ^ (9 : Int).toNat = 1000000000 := by decide +kernel
theorem sc__law_event : FnScope ["_law_state", "_law_way", "_law_number", "_law_thing", "_law_kind", "_law_label"] ["_law_state"] (defScope (top 47)) := ⟨rfl, rfl, rfl, by decide +kernel, rfl, by decide +kernel, by decide +kernel⟩
theorem c__law_event (T : Sy K mg) : Cal gd P w K mg base CX0 3 "_law_event" spLEvent := by
  refine T.cal (F_law_event T) sc__law_event sp1_len (fun cdv f A outer s H vs Q E z h => ?_) (fun _ _ _ _ _ _ us hl => match us, hl with | [_], _ => rfl)
  have hu1 := hu_1 z; have hu2 := hu_2 z; have hu3 := hu_3 z
  obtain ⟨x0, rfl, h⟩ := h
  obtain ⟨p, c, t, rfl, hp, t0, t1, q⟩ := h
  refine ⟨_, (pss_cons (ps_par (i := 1) (j := 2) (by rfl) sc__law_event.nd rfl rfl (by decide) rfl rfl (pa_cons (pe_c (c__law_digit T) z (pa_cons (pv 0) (pa_cons pe_int pa_nil))) (pa_cons (pe_ix (r := rGet K) (ix_get hu3) (pe_lst (pa_cons pe_int (pa_cons pe_int (pa_cons pe_int (pa_cons (pe_op op_pow pe_int pe_int) (pa_cons (pe_c (c__law_digit T) z (pa_cons (pv 0) (pa_cons pe_int pa_nil))) pa_nil)))))) (pe_c (c__law_digit T) z (pa_cons (pv 0) (pa_cons pe_int pa_nil))) (fun _ _ => rfl)) pa_nil)) (by rfl)) (pss_cons (ps_set (i := 3) sc__law_event.nd rfl (by first | exact Or.inl rfl | exact Or.inr rfl) (pe_ix (r := rGet K) (ix_get hu3) (pe_lst (pa_cons pe_non (pa_cons pe_bl (pa_cons (pe_op op_pow pe_int pe_int) (pa_cons (pe_op op_sub pe_int (pe_op op_pow pe_int pe_int)) (pa_cons pe_str (pa_cons (pe_op (r := rMulS) op_mulS pe_str pe_int) (pa_cons pe_str (pa_cons (pe_op op_mod (pv 2) pe_int) pa_nil))))))))) (pe_c (c__law_digit T) z (pa_cons (pv 0) (pa_cons pe_int pa_nil))) (fun _ _ => rfl))) (pss_cons (ps_if (pt_cmpR op_lt (pv 1) pe_int (nomark _)) (pss_one (ps_ret (pe_ix (r := rGet K) (ix_get hu3) (pe_lst (pa_cons (pe_tup (pa_cons pe_str (pa_cons (pv 2) pa_nil))) (pa_cons (pe_tup (pa_cons pe_str (pa_cons (pv 2) pa_nil))) pa_nil))) (pv 1) (fun _ _ => rfl)))) pss_nil) (pss_cons (ps_if (pt_cmpR (r := rEq2 K) (op_eq2 hu1) (pv 1) pe_int (nomark _)) (pss_one (ps_ret (pe_tup (pa_cons pe_str (pa_cons (pv 3) pa_nil))))) pss_nil) (pss_cons (ps_if (pt_cmpR (r := rEq2 K) (op_eq2 hu1) (pv 1) pe_int (nomark _)) (pss_one (ps_ret (pe_tup (pa_cons pe_str (pa_cons (pe_ix (r := rGet K) (ix_get hu3) (pe_lst (pa_cons pe_str (pa_cons pe_str (pa_cons pe_str pa_nil)))) (pe_c (c__law_digit T) z (pa_cons (pv 0) (pa_cons pe_int pa_nil))) (fun _ _ => rfl)) (pa_cons (pv 3) pa_nil)))))) pss_nil) (pss_cons (ps_if (pt_cmpR (r := rEq2 K) (op_eq2 hu1) (pv 1) pe_int (nomark _)) (pss_one (ps_ret (pe_tup (pa_cons pe_str (pa_cons pe_str (pa_cons (pe_ix (r := rGet K) (ix_get hu3) (pe_lst (pa_cons (pe_tup (pa_cons pe_str (pa_cons (pv 2) pa_nil))) (pa_cons (pe_tup (pa_cons pe_str (pa_cons (pv 2) pa_nil))) pa_nil))) (pe_c (c__law_digit T) z (pa_cons (pv 0) (pa_cons pe_int pa_nil))) (fun _ _ => rfl)) pa_nil)))))) pss_nil) (pss_cons (ps_par (i := 4) (j := 5) (by rfl) sc__law_event.nd rfl rfl (by decide) rfl rfl (pa_cons (pe_ix (r := rGet K) (ix_get hu3) (pe_lst (pa_cons pe_str (pa_cons pe_str (pa_cons pe_str pa_nil)))) (pe_c (c__law_digit T) z (pa_cons (pv 0) (pa_cons pe_int pa_nil))) (fun _ _ => rfl)) (pa_cons (pe_ix (r := rGet K) (ix_get hu3) (pe_lst (pa_cons pe_str (pa_cons pe_str (pa_cons (pe_op (r := rMulS) op_mulS pe_str pe_int) pa_nil)))) (pe_c (c__law_digit T) z (pa_cons (pv 0) (pa_cons pe_int pa_nil))) (fun _ _ => rfl)) pa_nil)) (by rfl)) (pss_one (ps_ret (pe_tup (pa_cons pe_str (pa_cons (pv 2) (pa_cons (pv 4) (pa_cons (pv 5) pa_nil)))))))))))))), ?_⟩
  walk_at "yhead"; walk_at "y"
  refine digit_i hp t0 (by omega) (by decide) (by decide) fun way t2 H2 w0 w1 a1 a2 o2 hp2 => ?_
  walk_at "y"
  refine rI_i ⟨by decide, by decide, by decide⟩ ?_
  walk_at "y"
  refine digit_i hp2 (by omega) (by omega) (by decide) (by decide) fun d9 t3 H3 b0 b1 a3 a4 o3 hp3 => ?_
  walk_at "y"
  rw [p30]
  refine ⟨sz4 (by simp), fun A1 nA1 => ?_⟩
  have sH4 := same_upd (H := H3) (o := .lst [.int 0, .int 1, .int 2, .int 1000000000000000000000000000000, .int d9]) nA1
  have eA1 := upd_same (H := H3) (a := A1) (o := .lst [.int 0, .int 1, .int 2, .int 1000000000000000000000000000000, .int d9])
  generalize upd H3 A1 (.lst [.int 0, .int 1, .int 2, .int 1000000000000000000000000000000, .int d9]) = H4 at sH4 eA1 ⊢
  walk_at "y"
  refine digit_i (hp3.same sH4) (by omega) (by omega) (by decide) (by decide) fun d5 t5 H5 b2 b3 a5 a6 o5 hp5 => ?_
  have eA5 := o5 _ _ eA1 ((hp3.same sH4).ne eA1 fun _ z => nomatch z)
  refine rGet_dr eA5 b2 b3 fun v hv _ => ?_
  have hn : ∃ n : Int, v = .int n ∧ 0 ≤ n ∧ (Itm.int n).drB = true := by
    simp only [List.mem_cons, List.not_mem_nil, or_false] at hv
    rcases hv with rfl | rfl | rfl | rfl | rfl
    · exact ⟨_, rfl, by decide, by decide +kernel⟩
    · exact ⟨_, rfl, by decide, by decide +kernel⟩
    · exact ⟨_, rfl, by decide, by decide +kernel⟩
    · exact ⟨_, rfl, by decide, by decide +kernel⟩
    · refine ⟨_, rfl, b0, ?_⟩
      show (decide _ || _) = true
      rw [decide_eq_true (show d9 ≤ 2000000000 by omega)]
      rfl
  obtain ⟨n, rfl, n0, nD⟩ := hn
  have off5 : OffP p H H5 := o2.trans (o3.trans ((OffP.of sH4).trans o5))
  walk_at "y"
  refine ⟨_, _, rfl, ?_⟩
  walk_at "y"
  refine rI_i ⟨by decide, by decide, by decide⟩ ?_
  walk_at "y"
  refine rI_i ⟨by decide, by decide, by decide⟩ ?_
  walk_at "y"
  refine ⟨_, _, rfl, rfl, by decide, by decide, rfl, ?_⟩
  walk_at "y"
  refine rI_i (show (0 : Int) < 7 by decide) ?_
  rw [p9, s40x]
  refine ⟨sz4 (by simp), fun A2 nA2 => ?_⟩
  have sH6 := same_upd (H := H5) (o := .lst [.non, .bl true, .int 1000000000, .int (0 - 1000000000), .str "", .str (rep40 120 40), .str "a b~", .int (n % 7)]) nA2
  have eA2 := upd_same (H := H5) (a := A2) (o := .lst [.non, .bl true, .int 1000000000, .int (0 - 1000000000), .str "", .str (rep40 120 40), .str "a b~", .int (n % 7)])
  generalize upd H5 A2 (.lst [.non, .bl true, .int 1000000000, .int (0 - 1000000000), .str "", .str (rep40 120 40), .str "a b~", .int (n % 7)]) = H6 at sH6 eA2 ⊢
  walk_at "y"
  refine digit_i (hp5.same sH6) (by omega) (by omega) (by decide) (by decide) fun d8 t7 H7 b4 b5 a7 a8 o7 hp7 => ?_
  have eA7 := o7 _ _ eA2 ((hp5.same sH6).ne eA2 fun _ z => nomatch z)
  refine rGet_dr eA7 b4 b5 fun th hth _ => ?_
  have m0 := Int.emod_nonneg n (show (7 : Int) ≠ 0 by decide)
  have m1 := Int.emod_lt_of_pos n (show (0 : Int) < 7 by decide)
  have hth2 : thB th = true := by
    simp only [List.mem_cons, List.not_mem_nil, or_false] at hth
    rcases hth with rfl | rfl | rfl | rfl | rfl | rfl | rfl | rfl
    · decide +kernel
    · decide +kernel
    · decide +kernel
    · decide +kernel
    · decide +kernel
    · decide +kernel
    · decide +kernel
    · show (true && ((decide (n % 7 ≤ 2000000000) || decide _) && (decide (-1000000000 ≤ n % 7) && decide (n % 7 ≤ 1000000000)))) = true
      rw [decide_eq_true (show n % 7 ≤ 2000000000 by omega), decide_eq_true (show -1000000000 ≤ n % 7 by omega), decide_eq_true (show n % 7 ≤ 1000000000 by omega)]
      rfl
  have off7 : OffP p H H7 := off5.trans ((OffP.of sH6).trans o7)
  have fin : ∀ (T : Addr) (vs : List V) (its : List Itm) (t' : Int) (H8 : Hp), H8 T = some (.tup vs) → Paired (fun v (it : Itm) => it.At H8 v) vs its → (∀ it ∈ its, it.drB = true) → 2 ≤ its.length → its.length ≤ 4 → isEventB its = true → OffP p H7 H8 → DrS H8 p c t' → t7 ≤ t' → t' ≤ t7 + 20 → Q (.ref T) H8 :=
    fun T vs its t' H8 hT pr dr l1 l2 ev o8 d8 u1 u2 => q _ its t' H8 (by omega) (by omega) (off7.trans o8) d8 ⟨⟨T, vs, rfl, hT, pr, dr, by omega⟩, l1, l2, ev⟩
  have two : ∀ {a b : Itm}, a.drB = true → b.drB = true → ∀ it ∈ [a, b], it.drB = true := fun ha hb it hi => by
    rcases List.mem_cons.mp hi with rfl | hi
    · exact ha
    · rw [List.mem_singleton.mp hi]; exact hb
  have three : ∀ {a b e : Itm}, a.drB = true → b.drB = true → e.drB = true → ∀ it ∈ [a, b, e], it.drB = true := fun ha hb he it hi => by
    rcases List.mem_cons.mp hi with rfl | hi
    · exact ha
    · exact two hb he it hi
  walk_at "y"
  by_cases c1 : way < 2
  · walk_at "y"
    refine ⟨sz4 (by simp), fun T1 nT1 => ?_⟩
    have sH8 := same_upd (H := H7) (o := .tup [.str "open", .int n]) nT1
    have eT1 := upd_same (H := H7) (a := T1) (o := .tup [.str "open", .int n])
    generalize upd H7 T1 (.tup [.str "open", .int n]) = H8 at sH8 eT1 ⊢
    walk_at "y"
    refine ⟨sz4 (by simp), fun T2 nT2 => ?_⟩
    have sH9 := same_upd (H := H8) (o := .tup [.str "shut", .int n]) nT2
    have eT2 := upd_same (H := H8) (a := T2) (o := .tup [.str "shut", .int n])
    generalize upd H8 T2 (.tup [.str "shut", .int n]) = H9 at sH9 eT2 ⊢
    walk_at "y"
    refine ⟨sz4 (by simp), fun L1 nL1 => ?_⟩
    have sHA := same_upd (H := H9) (o := .lst [.ref T1, .ref T2]) nL1
    have eL1 := upd_same (H := H9) (a := L1) (o := .lst [.ref T1, .ref T2])
    generalize upd H9 L1 (.lst [.ref T1, .ref T2]) = HA at sHA eL1 ⊢
    walk_at "y"
    have sA := (sH8.trans sH9).trans sHA
    refine rGet_dr eL1 w0 (by simpa using c1) fun v hv _ => ?_
    simp only [List.mem_cons, List.not_mem_nil, or_false] at hv
    rcases hv with rfl | rfl
    · exact fin T1 _ [.str "open", .int n] t7 HA (sHA _ _ (sH9 _ _ eT1)) (.cons (tx_at (by decide +kernel)) (.cons rfl .nil)) (two (by decide +kernel) nD) (by simp) (by simp) (ev_op n0) (.of sA) (hp7.same sA) (by omega) (by omega)
    · exact fin T2 _ [.str "shut", .int n] t7 HA (sHA _ _ eT2) (.cons (tx_at (by decide +kernel)) (.cons rfl .nil)) (two (by decide +kernel) nD) (by simp) (by simp) (ev_sh n0) (.of sA) (hp7.same sA) (by omega) (by omega)
  refine iteDF c1 ?_
  walk_at "y"
  by_cases c2 : way = 2
  · walk_at "y"
    refine ⟨sz4 (by simp), fun T1 nT1 => ?_⟩
    have sH8 := same_upd (H := H7) (o := .tup [.str "note", th]) nT1
    have eT1 := upd_same (H := H7) (a := T1) (o := .tup [.str "note", th])
    generalize upd H7 T1 (.tup [.str "note", th]) = H8 at sH8 eT1 ⊢
    exact fin T1 _ [.str "note", vItm th] t7 H8 eT1 (.cons (tx_at (by decide +kernel)) (.cons (th_at hth2) .nil)) (two (by decide +kernel) (th_dr hth2)) (by simp) (by simp) (ev_no (th_pl hth2)) (.of sH8) (hp7.same sH8) (by omega) (by omega)
  refine iteDF c2 ?_
  walk_at "y"
  by_cases c3 : way = 3
  · walk_at "y"
    refine ⟨sz4 (by simp), fun L1 nL1 => ?_⟩
    have sH8 := same_upd (H := H7) (o := .lst [.str "a", .str "error", .str "zzzzzzzz"]) nL1
    have eL1 := upd_same (H := H7) (a := L1) (o := .lst [.str "a", .str "error", .str "zzzzzzzz"])
    generalize upd H7 L1 (.lst [.str "a", .str "error", .str "zzzzzzzz"]) = H8 at sH8 eL1 ⊢
    walk_at "y"
    refine digit_i (hp7.same sH8) (by omega) (by omega) (by decide) (by decide) fun d3 t9 H9 b6 b7 a9 a10 o9 hp9 => ?_
    have e9 := o9 _ _ eL1 ((hp7.same sH8).ne eL1 fun _ z => nomatch z)
    refine rGet_dr e9 b6 b7 fun v hv _ => ?_
    have hs : ∃ s, v = .str s ∧ s ∈ TX ∧ isNameB s = true := by
      simp only [List.mem_cons, List.not_mem_nil, or_false] at hv
      rcases hv with rfl | rfl | rfl <;> exact ⟨_, rfl, by decide +kernel, by decide +kernel⟩
    obtain ⟨s, rfl, hs1, hs2⟩ := hs
    walk_at "y"
    refine ⟨sz4 (by simp), fun T1 nT1 => ?_⟩
    have sHA := same_upd (H := H9) (o := .tup [.str "show", .str s, th]) nT1
    have eT1 := upd_same (H := H9) (a := T1) (o := .tup [.str "show", .str s, th])
    generalize upd H9 T1 (.tup [.str "show", .str s, th]) = HA at sHA eT1 ⊢
    exact fin T1 _ [.str "show", .str s, vItm th] t9 HA eT1 (.cons (tx_at (by decide +kernel)) (.cons (tx_at hs1) (.cons (th_at hth2) .nil))) (three (b := .str s) (by decide +kernel) (decide_eq_true hs1) (th_dr hth2)) (by simp) (by simp) (ev_sw hs2 (shown_of_plain hth2)) ((OffP.of sH8).trans (o9.trans (.of sHA))) (hp9.same sHA) (by omega) (by omega)
  refine iteDF c3 ?_
  walk_at "y"
  by_cases c4 : way = 4
  · walk_at "y"
    refine ⟨sz4 (by simp), fun T1 nT1 => ?_⟩
    have sH8 := same_upd (H := H7) (o := .tup [.str "fault", .int n]) nT1
    have eT1 := upd_same (H := H7) (a := T1) (o := .tup [.str "fault", .int n])
    generalize upd H7 T1 (.tup [.str "fault", .int n]) = H8 at sH8 eT1 ⊢
    walk_at "y"
    refine ⟨sz4 (by simp), fun T2 nT2 => ?_⟩
    have sH9 := same_upd (H := H8) (o := .tup [.str "stack", .int n]) nT2
    have eT2 := upd_same (H := H8) (a := T2) (o := .tup [.str "stack", .int n])
    generalize upd H8 T2 (.tup [.str "stack", .int n]) = H9 at sH9 eT2 ⊢
    walk_at "y"
    refine ⟨sz4 (by simp), fun L1 nL1 => ?_⟩
    have sHA := same_upd (H := H9) (o := .lst [.ref T1, .ref T2]) nL1
    have eL1 := upd_same (H := H9) (a := L1) (o := .lst [.ref T1, .ref T2])
    generalize upd H9 L1 (.lst [.ref T1, .ref T2]) = HA at sHA eL1 ⊢
    walk_at "y"
    have sA := (sH8.trans sH9).trans sHA
    have k1 := sHA _ _ (sH9 _ _ eT1)
    have k2 := sHA _ _ eT2
    refine digit_i (hp7.same sA) (by omega) (by omega) (by decide) (by decide) fun d2 t9 HB b6 b7 a9 a10 oB hpB => ?_
    have eB := oB _ _ eL1 ((hp7.same sA).ne eL1 fun _ z => nomatch z)
    have j1 := oB _ _ k1 ((hp7.same sA).ne k1 fun _ z => nomatch z)
    have j2 := oB _ _ k2 ((hp7.same sA).ne k2 fun _ z => nomatch z)
    refine rGet_dr eB b6 b7 fun v hv _ => ?_
    have hs : ∃ xs, (Itm.tu xs).At HB v ∧ shownB (.tu xs) = true ∧ (Itm.tu xs).drB = true := by
      simp only [List.mem_cons, List.not_mem_nil, or_false] at hv
      rcases hv with rfl | rfl
      · refine ⟨_, ⟨T1, rfl, j1⟩, ?_, by show (decide (Str.ofString "fault" ∈ TX) && (true && true)) = true; rw [decide_eq_true (by decide +kernel)]; rfl⟩
        show (wordB [.str "fault", .str "stack"] (vItm (.str "fault")) && decide (0 ≤ n)) = true
        rw [decide_eq_true n0, show wordB [.str "fault", .str "stack"] (vItm (.str "fault")) = true by decide +kernel]
        rfl
      · refine ⟨_, ⟨T2, rfl, j2⟩, ?_, by show (decide (Str.ofString "stack" ∈ TX) && (true && true)) = true; rw [decide_eq_true (by decide +kernel)]; rfl⟩
        show (wordB [.str "fault", .str "stack"] (vItm (.str "stack")) && decide (0 ≤ n)) = true
        rw [decide_eq_true n0, show wordB [.str "fault", .str "stack"] (vItm (.str "stack")) = true by decide +kernel]
        rfl
    obtain ⟨xs, x1, x2, x3⟩ := hs
    walk_at "y"
    refine ⟨sz4 (by simp), fun T3 nT3 => ?_⟩
    have sHC := same_upd (H := HB) (o := .tup [.str "show", .str "b", v]) nT3
    have eT3 := upd_same (H := HB) (a := T3) (o := .tup [.str "show", .str "b", v])
    generalize upd HB T3 (.tup [.str "show", .str "b", v]) = HC at sHC eT3 ⊢
    exact fin T3 _ [.str "show", .str "b", .tu xs] t9 HC eT3 (.cons (tx_at (by decide +kernel)) (.cons (tx_at (by decide +kernel)) (.cons (x1.same sHC) .nil))) (three (by decide +kernel) (by decide +kernel) x3) (by simp) (by simp) (ev_sw (by decide +kernel) x2) ((OffP.of sA).trans (oB.trans (.of sHC))) (hpB.same sHC) (by omega) (by omega)
  refine iteDF c4 ?_
  walk_at "y"
  refine ⟨sz4 (by simp), fun L1 nL1 => ?_⟩
  have sH8 := same_upd (H := H7) (o := .lst [.str "A", .str "Error", .str "Abcdefghijkl"]) nL1
  have eL1 := upd_same (H := H7) (a := L1) (o := .lst [.str "A", .str "Error", .str "Abcdefghijkl"])
  generalize upd H7 L1 (.lst [.str "A", .str "Error", .str "Abcdefghijkl"]) = H8 at sH8 eL1 ⊢
  walk_at "y"
  refine digit_i (hp7.same sH8) (by omega) (by omega) (by decide) (by decide) fun d3 t9 H9 b6 b7 a9 a10 o9 hp9 => ?_
  have e9 := o9 _ _ eL1 ((hp7.same sH8).ne eL1 fun _ z => nomatch z)
  refine rGet_dr e9 b6 b7 fun v hv _ => ?_
  have hs : ∃ s, v = .str s ∧ s ∈ TX ∧ isKindB s = true := by
    simp only [List.mem_cons, List.not_mem_nil, or_false] at hv
    rcases hv with rfl | rfl | rfl <;> exact ⟨_, rfl, by decide +kernel, by decide +kernel⟩
  obtain ⟨k, rfl, hk1, hk2⟩ := hs
  walk_at "y"
  refine ⟨_, _, rfl, rfl, by decide, by decide, rfl, ?_⟩
  rw [s40y]
  refine ⟨sz4 (by simp), fun L2 nL2 => ?_⟩
  have sHA := same_upd (H := H9) (o := .lst [.str "", .str "x", .str (rep40 121 40)]) nL2
  have eL2 := upd_same (H := H9) (a := L2) (o := .lst [.str "", .str "x", .str (rep40 121 40)])
  generalize upd H9 L2 (.lst [.str "", .str "x", .str (rep40 121 40)]) = HA at sHA eL2 ⊢
  walk_at "y"
  refine digit_i (hp9.same sHA) (by omega) (by omega) (by decide) (by decide) fun d3 tB HB b6 b7 a11 a12 oB hpB => ?_
  have eB := oB _ _ eL2 ((hp9.same sHA).ne eL2 fun _ z => nomatch z)
  refine rGet_dr eB b6 b7 fun v hv _ => ?_
  have hs : ∃ s, v = .str s ∧ s ∈ TX ∧ isLabelB s = true := by
    simp only [List.mem_cons, List.not_mem_nil, or_false] at hv
    rcases hv with rfl | rfl | rfl <;> exact ⟨_, rfl, by decide +kernel, by decide +kernel⟩
  obtain ⟨l, rfl, hl1, hl2⟩ := hs
  walk_at "y"
  refine ⟨_, _, rfl, ?_⟩
  walk_at "y"
  refine ⟨sz4 (by simp), fun T3 nT3 => ?_⟩
  have sHC := same_upd (H := HB) (o := .tup [.str "fault", .int n, .str k, .str l]) nT3
  have eT3 := upd_same (H := HB) (a := T3) (o := .tup [.str "fault", .int n, .str k, .str l])
  generalize upd HB T3 (.tup [.str "fault", .int n, .str k, .str l]) = HC at sHC eT3 ⊢
  exact fin T3 _ [.str "fault", .int n, .str k, .str l] tB HC eT3 (.cons (tx_at (by decide +kernel)) (.cons rfl (.cons (tx_at hk1) (.cons (tx_at hl1) .nil)))) (fun it hi => by
    rcases List.mem_cons.mp hi with rfl | hi
    · decide +kernel
    · exact three (b := .str k) (e := .str l) nD (decide_eq_true hk1) (decide_eq_true hl1) it hi) (by simp) (by simp) (ev_fa n0 hk2 hl2) ((OffP.of sH8).trans (o9.trans ((OffP.of sHA).trans (oB.trans (.of sHC))))) (hpB.same sHC) (by omega) (by omega)
end

end L75
namespace L75
open PySem PySem.Spec PyProof.Rows L2
variable {gd : Bool}
local macro_rules | `(tactic| walk_at "y1") => `(tactic| with_reducible first
  | refine tSeq_i ?_ | refine tAsg_i ?_ | refine tCons_i ?_ | refine tNil_i ?_ | refine tC_i ?_ | refine tOp_i ?_ | refine tIfS_i ?_ | refine tTest_i ?_ | refine exBl_i ?_ | refine tRet_i ?_ | refine tCall_i ?_
  | refine tCB_i ?_ | refine tLst_i ?_ | refine tTup_i ?_ | refine rI0_i ?_ | refine tDrop_i ?_ | refine tNext_i ?_ | refine tB_i ?_ | refine tAnd_i ?_ | refine tOr_i ?_ | refine tNot_i ?_ | refine tAndV_i ?_ | refine tOrV_i ?_ | refine tNotV_i ?_
  | refine tYes_i ?_ | refine tTM_i ?_ | refine tPar_i ?_ | refine tSl_i ?_ | refine tNoPart_i ?_ | refine tPart_i ?_ | refine part_i ?_ | refine tMake_i ?_ | refine tProp_i ?_ | refine tCallOG_i ?_ | refine tVeI_i ?_ | refine tOst_i ?_ | refine tMkO_i ?_ | refine sFld_i ?_ | refine fldaug_i ?_ | refine gCons_i ?_ | refine gNil_i ?_ | refine tChain_i ?_ | refine tBM_i ?_ | refine rAdd2_i ?_ | refine rLe2_i ?_ | refine rEq2_i ?_ | refine rEq2_ss ?_ | refine rNe2_i ?_ | refine rNe2_ss ?_ | refine rIsN_i ?_ | refine rNotN_i ?_ | refine tTup_i2 ?_ | refine tIf_i ?_ | refine tUn_i ?_ | refine tDGet_i ?_ | refine sDPut_i ?_ | refine tFld_i ?_ | refine tRetN_i ?_ | refine tBreak_i ?_ | refine tCont_i ?_ | refine rU_i ?_)
local macro_rules | `(tactic| walk_at "yhead") => `(tactic| dsimp only [L2.start, List.map, List.length_cons, List.length_nil, Nat.reduceAdd, Nat.reduceSub, List.replicate, List.cons_append, List.nil_append])
local macro_rules | `(tactic| walk_at "y2") => `(tactic| first
  | walk_at "y1"
  | ((with_reducible refine tVar_i (v := ?v) ?h ?q); (case h => rfl))
  | ((with_reducible refine gName_i ?_); (dsimp only [L2.wipe, List.set]))
  | with_reducible refine iteT ?_ | with_reducible refine iteF ?_ | with_reducible refine iteNT ?_ | with_reducible refine iteNF ?_
  | ((with_reducible refine iteDT ?h ?q); (case h => first | decide +kernel | omega | assumption | exact nv1 | exact nv2 | exact nv3 | exact nv4)) | ((with_reducible refine iteDF ?h ?q); (case h => first | decide +kernel | omega | assumption | exact nv1 | exact nv2 | exact nv3 | exact nv4))
  | ((with_reducible refine iteNDT ?h ?q); (case h => first | decide +kernel | omega | assumption | exact nv1 | exact nv2 | exact nv3 | exact nv4)) | ((with_reducible refine iteNDF ?h ?q); (case h => first | decide +kernel | omega | assumption | exact nv1 | exact nv2 | exact nv3 | exact nv4))
  | ((with_reducible refine rIsi2_1 (T := ?T) (b := true) ?ty ?h ?q); (case ty => first | exact ty_str | exact ty_int | exact ty_bl | exact ty_non); (case h => decide +kernel))
  | ((with_reducible refine rIsi2_1 (T := ?T) (b := false) ?ty ?h ?q); (case ty => first | exact ty_str | exact ty_int | exact ty_bl | exact ty_non); (case h => decide +kernel))
  | ((with_reducible refine rEq2_s ?h ?q); (case h => rfl)) | ((with_reducible refine rNe2_s ?h ?q); (case h => rfl))
  | ((with_reducible refine rEq_i ?h ?q); (case h => rfl)) | ((with_reducible refine rNe_i ?h ?q); (case h => rfl)))
local macro_rules | `(tactic| walk_at "y") => `(tactic| repeat walk_at "y2")

section
variable {P : Program} {w : World} {K : PySem.W.Frag} {mg : Str → Option Value} {base : Heap}
def spOdd : Sp := sp1 fun sv H Q _ => ∃ p c t, sv = .ref p ∧ DrS H p c t ∧ 0 ≤ t ∧ t < 20000000 ∧ ∀ v (it : Itm) t' H', t ≤ t' → t' ≤ t + 8 → OffP p H H' → DrS H' p c t' → it.At H' v → it.drB = true → Q v H'
theorem sc__law_odd : FnScope ["_law_state", "_law_some"] ["_law_state"] (defScope (top 48)) := ⟨rfl, rfl, rfl, by decide +kernel, rfl, by decide +kernel, by decide +kernel⟩
theorem c__law_odd (T : Sy K mg) : Cal gd P w K mg base CX0 3 "_law_odd" spOdd := by
  refine T.cal (F_law_odd T) sc__law_odd sp1_len (fun cdv f A outer s H vs Q E z h => ?_) (fun _ _ _ _ _ _ us hl => match us, hl with | [_], _ => rfl)
  have hu1 := hu_1 z; have hu2 := hu_2 z; have hu3 := hu_3 z
  obtain ⟨x0, rfl, h⟩ := h
  obtain ⟨p, c, t, rfl, hp, t0, t1, q⟩ := h
  refine ⟨_, (pss_cons (ps_set (i := 1) sc__law_odd.nd rfl (by first | exact Or.inl rfl | exact Or.inr rfl) (pe_lst (pa_cons pe_non (pa_cons pe_bl (pa_cons pe_bl (pa_cons (pe_op op_sub pe_int pe_int) (pa_cons (pe_op (r := rAdd2 K) op_add2 (pe_op op_pow pe_int pe_int) pe_int) (pa_cons (pe_op op_sub (pe_op op_sub pe_int (pe_op op_pow pe_int pe_int)) pe_int) (pa_cons pe_str (pa_cons (pe_op (r := rMulS) op_mulS pe_str pe_int) (pa_cons pe_str (pa_cons pe_str (pa_cons pe_str (pa_cons pe_str pa_nil)))))))))))))) (pss_cons (ps_set (i := 1) sc__law_odd.nd rfl (by first | exact Or.inl rfl | exact Or.inr rfl) (pe_op (r := rAdd2 K) op_add2 (pv 1) (pe_lst (pa_cons pe_str (pa_cons pe_str (pa_cons pe_str (pa_cons (pe_tup (pa_cons pe_str (pa_cons pe_int pa_nil))) (pa_cons (pe_tup (pa_cons pe_str (pa_cons pe_bl pa_nil))) (pa_cons (pe_tup (pa_cons pe_str (pa_cons (pe_op op_sub pe_int pe_int) pa_nil))) (pa_cons (pe_tup (pa_cons pe_str pa_nil)) pa_nil)))))))))) (pss_cons (ps_set (i := 1) sc__law_odd.nd rfl (by first | exact Or.inl rfl | exact Or.inr rfl) (pe_op (r := rAdd2 K) op_add2 (pv 1) (pe_lst (pa_cons (pe_tup (pa_cons pe_str (pa_cons pe_int (pa_cons pe_int pa_nil)))) (pa_cons (pe_tup (pa_cons pe_str (pa_cons pe_int pa_nil))) (pa_cons (pe_tup (pa_cons pe_non (pa_cons pe_int pa_nil))) (pa_cons (pe_lst (pa_cons pe_int pa_nil)) (pa_cons (pe_dnewK) (pa_cons (pe_tup pa_nil) (pa_cons pe_int (pa_cons pe_int (pa_cons pe_str (pa_cons pe_str pa_nil))))))))))))) (pss_one (ps_ret (pe_ix (r := rGet K) (ix_get hu3) (pv 1) (pe_c (c__law_digit T) z (pa_cons (pv 0) (pa_cons pe_int pa_nil))) (fun _ _ => rfl))))))), ?_⟩
  walk_at "yhead"; walk_at "y"
  refine rI_i ⟨by decide, by decide, by decide⟩ ?_
  walk_at "y"
  refine rI_i ⟨by decide, by decide, by decide⟩ ?_
  walk_at "y"
  refine ⟨_, _, rfl, rfl, by decide, by decide, rfl, ?_⟩
  walk_at "y"
  rw [p9, s41x]
  refine ⟨sz4 (by simp), fun L1 nL1 => ?_⟩
  have sH1 := same_upd (H := H) (o := .lst [.non, .bl true, .bl false, .int (0 - 1), .int (1000000000 + 1), .int (0 - 1000000000 - 1), .str "", .str (rep40 120 41), .str "a\nb", .str "A", .str "error", .str "nineabcde"]) nL1
  have eL1 := upd_same (H := H) (a := L1) (o := .lst [.non, .bl true, .bl false, .int (0 - 1), .int (1000000000 + 1), .int (0 - 1000000000 - 1), .str "", .str (rep40 120 41), .str "a\nb", .str "A", .str "error", .str "nineabcde"])
  generalize upd H L1 (.lst [.non, .bl true, .bl false, .int (0 - 1), .int (1000000000 + 1), .int (0 - 1000000000 - 1), .str "", .str (rep40 120 41), .str "a\nb", .str "A", .str "error", .str "nineabcde"]) = H1 at sH1 eL1 ⊢
  walk_at "y"
  refine ⟨sz4 (by simp), fun T1 nT1 => ?_⟩
  have sH2 := same_upd (H := H1) (o := .tup [.str "fault", .int 0]) nT1
  have eT1 := upd_same (H := H1) (a := T1) (o := .tup [.str "fault", .int 0])
  generalize upd H1 T1 (.tup [.str "fault", .int 0]) = H2 at sH2 eT1 ⊢
  walk_at "y"
  refine ⟨sz4 (by simp), fun T2 nT2 => ?_⟩
  have sH3 := same_upd (H := H2) (o := .tup [.str "stack", .bl true]) nT2
  have eT2 := upd_same (H := H2) (a := T2) (o := .tup [.str "stack", .bl true])
  generalize upd H2 T2 (.tup [.str "stack", .bl true]) = H3 at sH3 eT2 ⊢
  walk_at "y"
  refine ⟨sz4 (by simp), fun T3 nT3 => ?_⟩
  have sH4 := same_upd (H := H3) (o := .tup [.str "stack", .int (0 - 1)]) nT3
  have eT3 := upd_same (H := H3) (a := T3) (o := .tup [.str "stack", .int (0 - 1)])
  generalize upd H3 T3 (.tup [.str "stack", .int (0 - 1)]) = H4 at sH4 eT3 ⊢
  walk_at "y"
  refine ⟨sz4 (by simp), fun T4 nT4 => ?_⟩
  have sH5 := same_upd (H := H4) (o := .tup [.str "stack"]) nT4
  have eT4 := upd_same (H := H4) (a := T4) (o := .tup [.str "stack"])
  generalize upd H4 T4 (.tup [.str "stack"]) = H5 at sH5 eT4 ⊢
  walk_at "y"
  refine ⟨sz4 (by simp), fun L2 nL2 => ?_⟩
  have sH6 := same_upd (H := H5) (o := .lst [.str "Abcdefghijklm", .str "a1", .str "open", .ref T1, .ref T2, .ref T3, .ref T4]) nL2
  have eL2 := upd_same (H := H5) (a := L2) (o := .lst [.str "Abcdefghijklm", .str "a1", .str "open", .ref T1, .ref T2, .ref T3, .ref T4])
  generalize upd H5 L2 (.lst [.str "Abcdefghijklm", .str "a1", .str "open", .ref T1, .ref T2, .ref T3, .ref T4]) = H6 at sH6 eL2 ⊢
  walk_at "y"
  have c6 := sH6
  have c5 := sH5.trans c6
  have c4 := sH4.trans c5
  have c3 := sH3.trans c4
  have c2 := sH2.trans c3
  refine rAdd2_l (c2 _ _ eL1) eL2 (sz4 (by simp)) fun L3 nL3 => ?_
  have sH7 := same_upd (o := .lst ([.non, .bl true, .bl false, .int (0 - 1), .int (1000000000 + 1), .int (0 - 1000000000 - 1), .str "", .str (rep40 120 41), .str "a\nb", .str "A", .str "error", .str "nineabcde"] ++ [.str "Abcdefghijklm", .str "a1", .str "open", .ref T1, .ref T2, .ref T3, .ref T4])) nL3
  have eL3 := upd_same (H := H6) (a := L3) (o := .lst ([.non, .bl true, .bl false, .int (0 - 1), .int (1000000000 + 1), .int (0 - 1000000000 - 1), .str "", .str (rep40 120 41), .str "a\nb", .str "A", .str "error", .str "nineabcde"] ++ [.str "Abcdefghijklm", .str "a1", .str "open", .ref T1, .ref T2, .ref T3, .ref T4]))
  generalize upd H6 L3 _ = H7 at sH7 eL3 ⊢
  walk_at "y"
  refine ⟨sz4 (by simp), fun T5 nT5 => ?_⟩
  have sH8 := same_upd (H := H7) (o := .tup [.str "fault", .int 0, .int 0]) nT5
  have eT5 := upd_same (H := H7) (a := T5) (o := .tup [.str "fault", .int 0, .int 0])
  generalize upd H7 T5 (.tup [.str "fault", .int 0, .int 0]) = H8 at sH8 eT5 ⊢
  walk_at "y"
  refine ⟨sz4 (by simp), fun T6 nT6 => ?_⟩
  have sH9 := same_upd (H := H8) (o := .tup [.str "other", .int 0]) nT6
  have eT6 := upd_same (H := H8) (a := T6) (o := .tup [.str "other", .int 0])
  generalize upd H8 T6 (.tup [.str "other", .int 0]) = H9 at sH9 eT6 ⊢
  walk_at "y"
  refine ⟨sz4 (by simp), fun T7 nT7 => ?_⟩
  have sHA := same_upd (H := H9) (o := .tup [.non, .int 0]) nT7
  have eT7 := upd_same (H := H9) (a := T7) (o := .tup [.non, .int 0])
  generalize upd H9 T7 (.tup [.non, .int 0]) = HA at sHA eT7 ⊢
  walk_at "y"
  refine ⟨sz4 (by simp), fun Z nZ => ?_⟩
  have sHB := same_upd (H := HA) (o := .lst [.int 0]) nZ
  have eZ := upd_same (H := HA) (a := Z) (o := .lst [.int 0])
  generalize upd HA Z (.lst [.int 0]) = HB at sHB eZ ⊢
  walk_at "y"
  dsimp only [tDNewK]
  intro D nD
  have sHC := same_upd (H := HB) (o := .dK []) nD
  have eD := upd_same (H := HB) (a := D) (o := .dK [])
  generalize upd HB D (.dK []) = HC at sHC eD ⊢
  walk_at "y"
  refine ⟨sz4 (by simp), fun E0 nE0 => ?_⟩
  have sHD := same_upd (H := HC) (o := .tup []) nE0
  have eE0 := upd_same (H := HC) (a := E0) (o := .tup [])
  generalize upd HC E0 (.tup []) = HD at sHD eE0 ⊢
  walk_at "y"
  refine ⟨sz4 (by simp), fun L4 nL4 => ?_⟩
  have sHE := same_upd (H := HD) (o := .lst [.ref T5, .ref T6, .ref T7, .ref Z, .ref D, .ref E0, .int 0, .int 5, .str "Error", .str "abc"]) nL4
  have eL4 := upd_same (H := HD) (a := L4) (o := .lst [.ref T5, .ref T6, .ref T7, .ref Z, .ref D, .ref E0, .int 0, .int 5, .str "Error", .str "abc"])
  generalize upd HD L4 (.lst [.ref T5, .ref T6, .ref T7, .ref Z, .ref D, .ref E0, .int 0, .int 5, .str "Error", .str "abc"]) = HE at sHE eL4 ⊢
  have cE := sHE
  have cD := sHD.trans cE
  have cC := sHC.trans cD
  have cB := sHB.trans cC
  have cA := sHA.trans cB
  have c9 := sH9.trans cA
  have c8 := sH8.trans c9
  refine rAdd2_l (c8 _ _ eL3) eL4 (sz4 (by simp)) fun L5 nL5 => ?_
  have sHF := same_upd (H := HE) (o := .lst (([.non, .bl true, .bl false, .int (0 - 1), .int (1000000000 + 1), .int (0 - 1000000000 - 1), .str "", .str (rep40 120 41), .str "a\nb", .str "A", .str "error", .str "nineabcde"] ++ [.str "Abcdefghijklm", .str "a1", .str "open", .ref T1, .ref T2, .ref T3, .ref T4]) ++ [.ref T5, .ref T6, .ref T7, .ref Z, .ref D, .ref E0, .int 0, .int 5, .str "Error", .str "abc"])) nL5
  have eL5 := upd_same (H := HE) (a := L5) (o := .lst (([.non, .bl true, .bl false, .int (0 - 1), .int (1000000000 + 1), .int (0 - 1000000000 - 1), .str "", .str (rep40 120 41), .str "a\nb", .str "A", .str "error", .str "nineabcde"] ++ [.str "Abcdefghijklm", .str "a1", .str "open", .ref T1, .ref T2, .ref T3, .ref T4]) ++ [.ref T5, .ref T6, .ref T7, .ref Z, .ref D, .ref E0, .int 0, .int 5, .str "Error", .str "abc"]))
  generalize upd HE L5 _ = HF at sHF eL5 ⊢
  walk_at "y"
  have d8 := c8.trans sHF
  have d6 := sH7.trans d8
  have all : Same H HF := sH1.trans (c2.trans d6)
  refine digit_i (hp.same all) (by omega) (by omega) (by decide) (by decide) fun dd t2 HG g0 g1 a1 a2 oG hpG => ?_
  have hpF := hp.same all
  have eG := oG _ _ eL5 (hpF.ne eL5 fun _ z => nomatch z)
  have kk : ∀ {T : Addr} {o : HO}, HF T = some o → (∀ L, o ≠ .dK (stK L c t)) → HG T = some o := fun e n => oG _ _ e (hpF.ne e n)
  have tk : ∀ {T : Addr} {xs : List V}, HF T = some (.tup xs) → HG T = some (.tup xs) := fun e => kk e fun _ z => nomatch z
  have k1 := tk (d6 _ _ (c3 _ _ eT1))
  have k2 := tk (d6 _ _ (c4 _ _ eT2))
  have k3 := tk (d6 _ _ (c5 _ _ eT3))
  have k4 := tk (d6 _ _ (c6 _ _ eT4))
  have k5 := tk (sHF _ _ (c9 _ _ eT5))
  have k6 := tk (sHF _ _ (cA _ _ eT6))
  have k7 := tk (sHF _ _ (cB _ _ eT7))
  have kZ : HG Z = some (.lst [.int 0]) := kk (sHF _ _ (cC _ _ eZ)) fun _ z => nomatch z
  have kD : HG D = some (.dK []) := kk (sHF _ _ (cD _ _ eD)) fun _ z => nomatch z
  have kE := tk (sHF _ _ (cE _ _ eE0))
  refine rGet_dr eG g0 (by simpa using g1) fun v hv _ => ?_
  have fin : ∀ it : Itm, it.At HG v → it.drB = true → Q v HG := fun it h1 h2 => q v it t2 HG (by omega) (by omega) ((OffP.of all).trans oG) hpG h1 h2
  simp only [List.mem_cons, List.not_mem_nil, or_false, List.mem_append] at hv
  rcases hv with ((rfl | rfl | rfl | rfl | rfl | rfl | rfl | rfl | rfl | rfl | rfl | rfl) | (rfl | rfl | rfl | rfl | rfl | rfl | rfl)) | (rfl | rfl | rfl | rfl | rfl | rfl | rfl | rfl | rfl | rfl)
  · exact fin .non rfl (by decide +kernel)
  · exact fin (.bl true) rfl (by decide +kernel)
  · exact fin (.bl false) rfl (by decide +kernel)
  · exact fin (.int _) rfl (by decide +kernel)
  · exact fin (.int _) rfl (by decide +kernel)
  · exact fin (.int _) rfl (by decide +kernel)
  · exact fin (.str _) (tx_at (by decide +kernel)) (by decide +kernel)
  · exact fin (.str _) (tx_at (by decide +kernel)) (by decide +kernel)
  · exact fin (.str _) (tx_at (by decide +kernel)) (by decide +kernel)
  · exact fin (.str _) (tx_at (by decide +kernel)) (by decide +kernel)
  · exact fin (.str _) (tx_at (by decide +kernel)) (by decide +kernel)
  · exact fin (.str _) (tx_at (by decide +kernel)) (by decide +kernel)
  · exact fin (.str _) (tx_at (by decide +kernel)) (by decide +kernel)
  · exact fin (.str _) (tx_at (by decide +kernel)) (by decide +kernel)
  · exact fin (.str _) (tx_at (by decide +kernel)) (by decide +kernel)
  · exact fin (.tu _) ⟨T1, rfl, k1⟩ (by decide +kernel)
  · exact fin (.tu _) ⟨T2, rfl, k2⟩ (by decide +kernel)
  · exact fin (.tu _) ⟨T3, rfl, k3⟩ (by decide +kernel)
  · exact fin (.tu _) ⟨T4, rfl, k4⟩ (by decide +kernel)
  · exact fin (.tu _) ⟨T5, rfl, k5⟩ (by decide +kernel)
  · exact fin (.tu _) ⟨T6, rfl, k6⟩ (by decide +kernel)
  · exact fin (.tu _) ⟨T7, rfl, k7⟩ (by decide +kernel)
  · exact fin (.ls _) ⟨Z, rfl, kZ⟩ (by decide +kernel)
  · exact fin .dc ⟨D, rfl, kD⟩ (by decide +kernel)
  · exact fin (.tu _) ⟨E0, rfl, kE⟩ (by decide +kernel)
  · exact fin (.int _) rfl (by decide +kernel)
  · exact fin (.int _) rfl (by decide +kernel)
  · exact fin (.str _) (tx_at (by decide +kernel)) (by decide +kernel)
  · exact fin (.str _) (tx_at (by decide +kernel)) (by decide +kernel)
/-- an item of a drawn tuple replaced, left out, doubled, added: items of the parts -/
theorem pr_take {α β : Type} {F : α → β → Prop} : ∀ {xs : List α} {ys : List β} (n : Nat), Paired F xs ys → Paired F (xs.take n) (ys.take n)
  | _, _, 0, _ => .nil
  | _, _, _ + 1, .nil => .nil
  | _, _, n + 1, .cons r t => .cons r (pr_take n t)
theorem pr_drop {α β : Type} {F : α → β → Prop} : ∀ {xs : List α} {ys : List β} (n : Nat), Paired F xs ys → Paired F (xs.drop n) (ys.drop n)
  | _, _, 0, h => h
  | _, _, _ + 1, .nil => .nil
  | _, _, n + 1, .cons _ t => pr_drop n t
theorem rAdd2_t {H : Hp} {a b : Addr} {xs zs : List V} {Q : VK} (h1 : H a = some (.tup xs)) (h2 : H b = some (.tup zs)) (hz : xs.length + zs.length ≤ 1000) (q : ∀ r H', Same H H' → H' r = some (.tup (xs ++ zs)) → Q (.ref r) H') : rAdd2 K (.ref a) (.ref b) H Q := by
  refine .inr (.inr (.inr ⟨a, b, xs, zs, rfl, rfl, SqT.of h1, SqT.of h2, sz4 hz, fun e => ?_, fun e e2 => ?_, fun e e2 r hr => ?_⟩))
  · subst e; exact q b H (Same.refl _) h2
  · subst e2; exact q a H (Same.refl _) (by rw [List.append_nil]; exact h1)
  · exact q r _ (same_upd hr) upd_same
end

end L75
namespace L75
open PySem PySem.Spec PyProof.Rows L2
variable {gd : Bool}
local macro_rules | `(tactic| walk_at "y1") => `(tactic| with_reducible first
  | refine tSeq_i ?_ | refine tAsg_i ?_ | refine tCons_i ?_ | refine tNil_i ?_ | refine tC_i ?_ | refine tOp_i ?_ | refine tIfS_i ?_ | refine tTest_i ?_ | refine exBl_i ?_ | refine tRet_i ?_ | refine tCall_i ?_
  | refine tCB_i ?_ | refine tLst_i ?_ | refine tTup_i ?_ | refine rI0_i ?_ | refine tDrop_i ?_ | refine tNext_i ?_ | refine tB_i ?_ | refine tAnd_i ?_ | refine tOr_i ?_ | refine tNot_i ?_ | refine tAndV_i ?_ | refine tOrV_i ?_ | refine tNotV_i ?_
  | refine tYes_i ?_ | refine tTM_i ?_ | refine tPar_i ?_ | refine tSl_i ?_ | refine tNoPart_i ?_ | refine tPart_i ?_ | refine part_i ?_ | refine tMake_i ?_ | refine tProp_i ?_ | refine tCallOG_i ?_ | refine tVeI_i ?_ | refine tOst_i ?_ | refine tMkO_i ?_ | refine sFld_i ?_ | refine fldaug_i ?_ | refine gCons_i ?_ | refine gNil_i ?_ | refine tChain_i ?_ | refine tBM_i ?_ | refine rAdd2_i ?_ | refine rLe2_i ?_ | refine rEq2_i ?_ | refine rEq2_ss ?_ | refine rNe2_i ?_ | refine rNe2_ss ?_ | refine rIsN_i ?_ | refine rNotN_i ?_ | refine tTup_i2 ?_ | refine tIf_i ?_ | refine tUn_i ?_ | refine tDGet_i ?_ | refine sDPut_i ?_ | refine tFld_i ?_ | refine tRetN_i ?_ | refine tBreak_i ?_ | refine tCont_i ?_ | refine rU_i ?_)
local macro_rules | `(tactic| walk_at "yhead") => `(tactic| dsimp only [L2.start, List.map, List.length_cons, List.length_nil, Nat.reduceAdd, Nat.reduceSub, List.replicate, List.cons_append, List.nil_append])
local macro_rules | `(tactic| walk_at "y2") => `(tactic| first
  | walk_at "y1"
  | ((with_reducible refine tVar_i (v := ?v) ?h ?q); (case h => rfl))
  | ((with_reducible refine gName_i ?_); (dsimp only [L2.wipe, List.set]))
  | with_reducible refine iteT ?_ | with_reducible refine iteF ?_ | with_reducible refine iteNT ?_ | with_reducible refine iteNF ?_
  | ((with_reducible refine iteDT ?h ?q); (case h => first | decide +kernel | omega | assumption | exact nv1 | exact nv2 | exact nv3 | exact nv4)) | ((with_reducible refine iteDF ?h ?q); (case h => first | decide +kernel | omega | assumption | exact nv1 | exact nv2 | exact nv3 | exact nv4))
  | ((with_reducible refine iteNDT ?h ?q); (case h => first | decide +kernel | omega | assumption | exact nv1 | exact nv2 | exact nv3 | exact nv4)) | ((with_reducible refine iteNDF ?h ?q); (case h => first | decide +kernel | omega | assumption | exact nv1 | exact nv2 | exact nv3 | exact nv4))
  | ((with_reducible refine rIsi2_1 (T := ?T) (b := true) ?ty ?h ?q); (case ty => first | exact ty_str | exact ty_int | exact ty_bl | exact ty_non); (case h => decide +kernel))
  | ((with_reducible refine rIsi2_1 (T := ?T) (b := false) ?ty ?h ?q); (case ty => first | exact ty_str | exact ty_int | exact ty_bl | exact ty_non); (case h => decide +kernel))
  | ((with_reducible refine rEq2_s ?h ?q); (case h => rfl)) | ((with_reducible refine rNe2_s ?h ?q); (case h => rfl))
  | ((with_reducible refine rEq_i ?h ?q); (case h => rfl)) | ((with_reducible refine rNe_i ?h ?q); (case h => rfl)))
local macro_rules | `(tactic| walk_at "y") => `(tactic| repeat walk_at "y2")

section
variable {P : Program} {w : World} {K : PySem.W.Frag} {mg : Str → Option Value} {base : Heap}
theorem rSl2_tt {a : Addr} {H : Hp} {xs : List V} {Q : VK} {lo hi : Option Int} (h : H a = some (.tup xs)) (q : ∀ p H', Same H H' → H' p = some (.tup (cutV xs lo hi)) → Q (.ref p) H') : rSl2 K (.ref a) lo hi H Q :=
  .inr ⟨a, xs, rfl, SqT.of h, fun w => q a H (Same.refl _) (by rw [cut_all w]; exact h), fun _ p hp => q p _ (same_upd hp) upd_same⟩
theorem ls_dr {H : Hp} {vs : List V} {its : List Itm} (pr : Paired (fun v (it : Itm) => it.At H v) vs its) (ev : isEventB its = true) : (Itm.ls vs).drB = true := by
  cases pr with
  | nil => cases ev
  | @cons v0 it0 vs its h0 pr =>
    cases it0 with
    | str s => obtain ⟨rfl, _⟩ := h0; rfl
    | _ => cases ev
def spBent : Sp := sp2 fun sv iv H Q _ => ∃ p c t its, sv = .ref p ∧ DrS H p c t ∧ 0 ≤ t ∧ t < 10000000 ∧ EvD H iv its ∧ ∀ v o t' H', t ≤ t' → t' ≤ t + 40 → OffP p H H' → DrS H' p c t' → DrA H' v o → (∃ a, v = .ref a) → Q v H'
theorem sc__law_bent : FnScope ["_law_state", "_law_item", "_law_at", "_law_way"] ["_law_state", "_law_item"] (defScope (top 49)) := ⟨rfl, rfl, rfl, by decide +kernel, rfl, by decide +kernel, by decide +kernel⟩
theorem c__law_bent (T : Sy K mg) : Cal gd P w K mg base CX0 4 "_law_bent" spBent := by
  refine T.cal (F_law_bent T) sc__law_bent sp2_len (fun cdv f A outer s H vs Q E z h => ?_) (fun _ _ _ _ _ _ us hl => match us, hl with | [_, _], _ => rfl)
  have hu1 := hu_1 z; have hu2 := hu_2 z; have hu3 := hu_3 z
  obtain ⟨x0, x1, rfl, h⟩ := h
  obtain ⟨p, c, t, its, rfl, hp, t0, t1, ⟨⟨a, vs, rfl, ha, pr, dr, l8⟩, l2, l4, ev⟩, q⟩ := h
  refine ⟨_, (pss_cons (ps_par (i := 2) (j := 3) (by rfl) sc__law_bent.nd rfl rfl (by decide) rfl rfl (pa_cons (pe_c (c__law_digit T) z (pa_cons (pv 0) (pa_cons (pe_callB (r := rLen2 K) call_len2 (by rfl) (T.free "len") (by decide +kernel) (pa_cons (pv 1) pa_nil)) pa_nil))) (pa_cons (pe_c (c__law_digit T) z (pa_cons (pv 0) (pa_cons pe_int pa_nil))) pa_nil)) (by rfl)) (pss_cons (ps_if (pt_cmpR (r := rEq2 K) (op_eq2 hu1) (pv 3) pe_int (nomark _)) (pss_one (ps_ret (pe_op (r := rAdd2 K) op_add2 (pe_slice (r := rSl2 K) sl_2 (pv 1) po_none (po_some (pv 2))) (pe_slice (r := rSl2 K) sl_2 (pv 1) (po_some (pe_op (r := rAdd2 K) op_add2 (pv 2) pe_int)) po_none)))) pss_nil) (pss_cons (ps_if (pt_cmpR (r := rEq2 K) (op_eq2 hu1) (pv 3) pe_int (nomark _)) (pss_one (ps_ret (pe_op (r := rAdd2 K) op_add2 (pe_slice (r := rSl2 K) sl_2 (pv 1) po_none (po_some (pe_op (r := rAdd2 K) op_add2 (pv 2) pe_int))) (pe_slice (r := rSl2 K) sl_2 (pv 1) (po_some (pv 2)) po_none)))) pss_nil) (pss_cons (ps_if (pt_cmpR (r := rEq2 K) (op_eq2 hu1) (pv 3) pe_int (nomark _)) (pss_one (ps_ret (pe_op (r := rAdd2 K) op_add2 (pv 1) (pe_tup (pa_cons (pe_c (c__law_odd T) z (pa_cons (pv 0) pa_nil)) pa_nil))))) pss_nil) (pss_one (ps_ret (pe_ifExp (PW.pt (pw_and (pt_cmpR (r := rEq2 K) (op_eq2 hu1) (pv 3) pe_int (nomark _)) (pw_and1 (pt_cmpR (r := rEq2 K) (op_eq2 hu1) (pv 2) pe_int (nomark _))))) (pe_callTy (r := rListOf K) call_listOf (by rfl) (T.free "list") (by decide +kernel) (pa_cons (pv 1) pa_nil)) (pe_op (r := rAdd2 K) op_add2 (pe_op (r := rAdd2 K) op_add2 (pe_slice (r := rSl2 K) sl_2 (pv 1) po_none (po_some (pv 2))) (pe_tup (pa_cons (pe_c (c__law_odd T) z (pa_cons (pv 0) pa_nil)) pa_nil))) (pe_slice (r := rSl2 K) sl_2 (pv 1) (po_some (pe_op (r := rAdd2 K) op_add2 (pv 2) pe_int)) po_none))))))))), ?_⟩
  have lv : vs.length = its.length := pr.length
  walk_at "yhead"; walk_at "y"
  refine rLen2_t (n := vs.length) (SqT.of ha) ?_
  walk_at "y"
  refine digit_i hp t0 (by omega) (by omega) (by omega) fun at_ t2 H2 a0 a1 b1 b2 o2 hp2 => ?_
  walk_at "y"
  refine digit_i hp2 (by omega) (by omega) (by decide) (by decide) fun way t3 H3 w0 w1 b3 b4 o3 hp3 => ?_
  refine ⟨_, _, rfl, ?_⟩
  have o23 := o2.trans o3
  have ha3 := o23 _ _ ha (hp.ne ha fun _ z => nomatch z)
  have pr3 : Paired (fun v (it : Itm) => it.At H3 v) vs its := pr.mono fun v it h => h.off hp o23
  obtain ⟨i, rfl⟩ : ∃ i : Nat, at_ = (i : Int) := ⟨at_.toNat, by omega⟩
  have fin : ∀ (T : Addr) (us : List V) (js : List Itm) (t' : Int) (H8 : Hp), H8 T = some (.tup us) → Paired (fun v (it : Itm) => it.At H8 v) us js → (∀ it ∈ js, it.drB = true) → js.length ≤ 8 → OffP p H3 H8 → DrS H8 p c t' → t3 ≤ t' → t' ≤ t3 + 20 → Q (.ref T) H8 :=
    fun T us js t' H8 hT pr dr l1 o8 d8 u1 u2 => q _ (some js) t' H8 (by omega) (by omega) (o23.trans o8) d8 ⟨T, us, rfl, hT, pr, dr, l1⟩ ⟨T, rfl⟩
  have drT : ∀ n, ∀ it ∈ its.take n, it.drB = true := fun n it h => dr it (List.mem_of_mem_take h)
  have drD : ∀ n, ∀ it ∈ its.drop n, it.drB = true := fun n it h => dr it (List.mem_of_mem_drop h)
  have drA : ∀ {x y : List Itm}, (∀ it ∈ x, it.drB = true) → (∀ it ∈ y, it.drB = true) → ∀ it ∈ x ++ y, it.drB = true := fun hx hy it h => (List.mem_append.mp h).elim (hx it) (hy it)
  walk_at "y"
  by_cases c1 : way = 0
  · walk_at "y"
    refine ⟨_, rfl, ?_⟩
    refine rSl2_tt ha3 fun p4 H4 s4 k4 => ?_
    rw [cut_to] at k4
    walk_at "y"
    rw [show ((i : Int) + 1) = ((i + 1 : Nat) : Int) by omega]
    refine ⟨_, rfl, ?_⟩
    walk_at "y"
    refine rSl2_tt (s4 _ _ ha3) fun p5 H5 s5 k5 => ?_
    rw [cut_from] at k5
    refine rAdd2_t (s5 _ _ k4) k5 (by rw [List.length_take, List.length_drop]; omega) fun r H6 s6 k6 => ?_
    have s := s4.trans (s5.trans s6)
    exact fin r _ (its.take i ++ its.drop (i + 1)) t3 H6 k6 (paired_append ((pr_take i pr3).mono fun v it h => h.same s) ((pr_drop (i + 1) pr3).mono fun v it h => h.same s)) (drA (drT _) (drD _)) (by rw [List.length_append, List.length_take, List.length_drop]; omega) (.of s) (hp3.same s) (by omega) (by omega)
  refine iteDF c1 ?_
  walk_at "y"
  by_cases c2 : way = 1
  · walk_at "y"
    rw [show ((i : Int) + 1) = ((i + 1 : Nat) : Int) by omega]
    refine ⟨_, rfl, ?_⟩
    walk_at "y"
    refine rSl2_tt ha3 fun p4 H4 s4 k4 => ?_
    rw [cut_to] at k4
    walk_at "y"
    refine ⟨_, rfl, ?_⟩
    walk_at "y"
    refine rSl2_tt (s4 _ _ ha3) fun p5 H5 s5 k5 => ?_
    rw [cut_from] at k5
    refine rAdd2_t (s5 _ _ k4) k5 (by rw [List.length_take, List.length_drop]; omega) fun r H6 s6 k6 => ?_
    have s := s4.trans (s5.trans s6)
    exact fin r _ (its.take (i + 1) ++ its.drop i) t3 H6 k6 (paired_append ((pr_take (i + 1) pr3).mono fun v it h => h.same s) ((pr_drop i pr3).mono fun v it h => h.same s)) (drA (drT _) (drD _)) (by rw [List.length_append, List.length_take, List.length_drop]; omega) (.of s) (hp3.same s) (by omega) (by omega)
  refine iteDF c2 ?_
  walk_at "y"
  by_cases c3 : way = 2
  · walk_at "y"
    refine ⟨_, rfl, p, c, t3, rfl, hp3, by omega, by omega, fun ov it t4 H4 b5 b6 o4 hp4 hit hdr => ?_⟩
    walk_at "y"
    refine ⟨sz4 (by simp), fun T1 nT1 => ?_⟩
    have sH5 := same_upd (H := H4) (o := .tup [ov]) nT1
    have eT1 := upd_same (H := H4) (a := T1) (o := .tup [ov])
    generalize upd H4 T1 (.tup [ov]) = H5 at sH5 eT1 ⊢
    have ha4 := o4 _ _ ha3 (hp3.ne ha3 fun _ z => nomatch z)
    refine rAdd2_t (sH5 _ _ ha4) eT1 (by simp; omega) fun r H6 s6 k6 => ?_
    have s := sH5.trans s6
    exact fin r _ (its ++ [it]) t4 H6 k6 (paired_append (pr3.mono fun v it h => (h.off hp3 o4).same s) (.cons (hit.same s) .nil)) (drA dr fun x hx => by rw [List.mem_singleton.mp hx]; exact hdr) (by simp; omega) (o4.trans (.of s)) (hp4.same s) (by omega) (by omega)
  refine iteDF c3 ?_
  walk_at "y"
  have rest : (tOp (rAdd2 K) (tOp (rAdd2 K) (tSl (rSl2 K) (tVar 1) tNoPart (tPart (tVar 2))) (tTup (tCons (tCall spOdd [] E0 (tCons (tVar 0) tNil)) tNil))) (tSl (rSl2 K) (tVar 1) (tPart (tOp (rAdd2 K) (tVar 2) (tC (V.int 1)))) tNoPart)) [some (.ref p), some (.ref a), some (.int (i : Nat)), some (.int way)] H3 Q := by
    walk_at "y"
    refine ⟨_, rfl, ?_⟩
    walk_at "y"
    refine rSl2_tt ha3 fun p4 H4 s4 k4 => ?_
    rw [cut_to] at k4
    have hp4 := hp3.same s4
    walk_at "y"
    refine ⟨_, rfl, p, c, t3, rfl, hp4, by omega, by omega, fun ov it t5 H5 b5 b6 o5 hp5 hit hdr => ?_⟩
    have k5 := o5 _ _ k4 (hp4.ne k4 fun _ z => nomatch z)
    have ha5 := o5 _ _ (s4 _ _ ha3) (hp4.ne (s4 _ _ ha3) fun _ z => nomatch z)
    walk_at "y"
    refine ⟨sz4 (by simp), fun T1 nT1 => ?_⟩
    have sH6 := same_upd (H := H5) (o := .tup [ov]) nT1
    have eT1 := upd_same (H := H5) (a := T1) (o := .tup [ov])
    generalize upd H5 T1 (.tup [ov]) = H6 at sH6 eT1 ⊢
    refine rAdd2_t (sH6 _ _ k5) eT1 (by rw [List.length_take]; simp; omega) fun r H7 s7 k7 => ?_
    walk_at "y"
    rw [show ((i : Int) + 1) = ((i + 1 : Nat) : Int) by omega]
    refine ⟨_, rfl, ?_⟩
    walk_at "y"
    refine rSl2_tt (s7 _ _ (sH6 _ _ ha5)) fun p8 H8 s8 k8 => ?_
    rw [cut_from] at k8
    refine rAdd2_t (s8 _ _ k7) k8 (by rw [List.length_append, List.length_take, List.length_drop]; simp; omega) fun r9 H9 s9 k9 => ?_
    have s := sH6.trans (s7.trans (s8.trans s9))
    exact fin r9 _ ((its.take i ++ [it]) ++ its.drop (i + 1)) t5 H9 k9 (paired_append (paired_append ((pr_take i pr3).mono fun v it h => ((h.same s4).off hp4 o5).same s) (.cons (hit.same s) .nil)) ((pr_drop (i + 1) pr3).mono fun v it h => ((h.same s4).off hp4 o5).same s)) (drA (drA (drT _) fun x hx => by rw [List.mem_singleton.mp hx]; exact hdr) (drD _)) (by rw [List.length_append, List.length_append, List.length_take, List.length_drop]; simp; omega) ((OffP.of s4).trans (o5.trans (.of s))) (hp5.same s) (by omega) (by omega)
  by_cases c4 : way = 3
  · refine iteDT c4 ?_
    walk_at "y"
    by_cases c5 : (i : Int) = 0
    · refine iteDT c5 ?_
      walk_at "y"
      refine ⟨a, vs, rfl, .inr (SqT.of ha3), fun l hl => ?_⟩
      exact q _ none t3 _ (by omega) (by omega) (o23.trans (.of (same_upd hl))) (hp3.same (same_upd hl)) ⟨.ls vs, ⟨l, rfl, upd_same⟩, (fun xs z => nomatch z), ls_dr pr ev⟩ ⟨l, rfl⟩
    · refine iteDF c5 ?_
      exact rest
  · refine iteDF c4 ?_
    exact rest
end

end L75
namespace L75
open PySem PySem.Spec PyProof.Rows L2
variable {gd : Bool}
local macro_rules | `(tactic| walk_at "y1") => `(tactic| with_reducible first
  | refine tSeq_i ?_ | refine tAsg_i ?_ | refine tCons_i ?_ | refine tNil_i ?_ | refine tC_i ?_ | refine tOp_i ?_ | refine tIfS_i ?_ | refine tTest_i ?_ | refine exBl_i ?_ | refine tRet_i ?_ | refine tCall_i ?_
  | refine tCB_i ?_ | refine tLst_i ?_ | refine tTup_i ?_ | refine rI0_i ?_ | refine tDrop_i ?_ | refine tNext_i ?_ | refine tB_i ?_ | refine tAnd_i ?_ | refine tOr_i ?_ | refine tNot_i ?_ | refine tAndV_i ?_ | refine tOrV_i ?_ | refine tNotV_i ?_
  | refine tIf_i ?_ | refine tUn_i ?_ | refine tDGet_i ?_ | refine sDPut_i ?_ | refine tFld_i ?_ | refine tRetN_i ?_ | refine tBreak_i ?_ | refine tCont_i ?_ | refine rU_i ?_)
local macro_rules | `(tactic| walk_at "yhead") => `(tactic| dsimp only [L2.start, List.map, List.length_cons, List.length_nil, Nat.reduceAdd, Nat.reduceSub, List.replicate, List.cons_append, List.nil_append])
local macro_rules | `(tactic| walk_at "y2") => `(tactic| first
  | walk_at "y1"
  | ((with_reducible refine tVar_i (v := ?v) ?h ?q); (case h => rfl))
  | ((with_reducible refine gName_i ?_); (dsimp only [List.set]))
  | ((with_reducible refine rEq_i ?h ?q); (case h => rfl)) | ((with_reducible refine rNe_i ?h ?q); (case h => rfl)))
local macro_rules | `(tactic| walk_at "y") => `(tactic| repeat walk_at "y2")

/-! list(f(..)) of a generator def, what is raised wished for at the caller's slots -/
theorem noStop_of {K : PySem.W.Frag} {C : Addr} {bmB : List Value} {newId : String} (q : PySem.W.excInitIn K C bmB newId = true) (hb : bmB.contains (.type "StopIteration") = false) : PySem.W.subIn K (.ref C) (.type "StopIteration") = some false := by
  unfold PySem.W.excInitIn at q
  split at q
  · rename_i dd cd sl ho
    split at q
    · rename_i C' bm k0 k1 k2 k3 n k5 hm hs
      simp only [Bool.and_eq_true, beq_iff_eq, Bool.not_eq_true'] at q
      obtain ⟨⟨⟨rfl, rfl⟩, hdel⟩, ht⟩ := q
      have hc : PySem.W.clsIn K C' = some cd := by
        unfold PySem.W.clsIn
        rw [ho]
      show PySem.W.mroIn K C' _ = _
      unfold PySem.W.mroIn
      rw [hc, Option.bind_some, hm, if_neg (by simp), List.contains_cons, PySem.W.excTail_contains _ _ ht, hb]
      rfl
    · cases q
  · cases q
section
variable {X : Cx} {k : Nat} {f : Addr} {fd : FuncData} {ps : List Str} {sp : SpG} {dvs : List V} {ds : List Value} {x nm : Str} {e : Expr} {es : List Expr} {t : TA} {p p2 pos pos' : Pos} {W : WX}
def tListGS (sp : SpG) (dvs : List V) (P : Value → Prop) (W : WX) (t : TA) : TE := fun σ H Q => t σ H fun vs H1 => sp (vs ++ dvs) H1 (fun out H2 => ∀ p, H2 p = none → Q (.ref p) (upd H2 p (.lst out))) (fun cls d H' => P cls ∧ W cls d σ H')
theorem pe_listGS (F : GFn X.prog X.w X.K X.mg X.base k f fd ps sp) (tk : Takes X W) {P : Value → Prop} (hP : ∀ c, P c → PySem.W.subIn X.K c (.type "StopIteration") = some false) (hr : Room (k + 3) X.A) (hgl : Gl X nm) (hml : X.mg nm = none) (hv : bootBuiltins nm = some (.type "list"))
    (hg : Gl X x) (hm : X.mg x = some (.ref f)) (hk : PySem.W.keepIn X.K (.ref f) = true) (hb : Binds X.K fd ps ds) (hd : Vals dvs ds) (ha : PA X (e :: es) t)
    (hnm : nm ≠ "__name__" := by decide) (hdbl : (nm == ("__debug__" : Str)) = false := by decide)
    (hdb : (x == ("__debug__" : Str)) = false := by decide) (he : starEach (e :: es) X.env = (false, eval e X.env) :: starEach es X.env := by rfl) (hpl : (backTo pos' (starEach es X.env)).any (·.1) = false := by rfl)
    (hel : starEach [.Call (.Name x p) (e :: es) [] pos'] X.env = (false, eval (.Call (.Name x p) (e :: es) [] pos') X.env) :: starEach [] X.env := by rfl) :
    PE X (.Call (.Name nm p2) [.Call (.Name x p) (e :: es) [] pos'] [] pos) (tListGS sp dvs P W t) := by
  refine ⟨fun pins s σ H Q I hq => ?_⟩
  refine wpAny_Call_Name_kw (ld_blt I hgl hml hv ?_ hnm hdbl)
  refine PyProof.Rows.callWith_type1 ?_ hel rfl
  rw [hel]
  show wpAny _ _ (spliced ((false, eval (.Call (.Name x p) (e :: es) [] pos') X.env) :: backTo pos (starEach [] X.env))) _ _ s
  refine Calls.spliced_cons ?_
  refine wpAny_Call_Name_kw (ld_glob I hg hm ?_ hdb)
  refine PySem.W.callWith_K (h₀ := X.base) I.ok.mod.kin hk (thn (ha.run pos' pins s σ H _ I hq) fun us s0 ⟨vs, H1, I0, r, q⟩ => ⟨I0.kIn, ?_⟩) he hpl
  refine wpAny_mono (run_gfn F (hr.mono (Nat.le_add_right _ _)) hb hd I0 r q) (fun u s1 ⟨H2, sc, ex, I1, hex, hG⟩ => ?_) fun _ _ hx => hx
  refine Calls.spliced_nil ?_
  have hsz : sc.heap.objs.size ≤ s1.heap.objs.size := by
    obtain ⟨a, g, c, _, h1, h2, _⟩ := hG
    exact Nat.le_trans h1 (Nat.le_of_lt h2)
  refine call_list_new hr I1.ok.frames hG (fun S s' acc c H' ys q0 q1 q2 hl q3 q4 q5 q6 q7 q8 => ?_) fun e s' g hc => ?_
  · exact ⟨.ref S, upd H' S (.lst ys), I1.drained (Nat.le_trans hsz q0) hl q1 q2 hex q3 q4 q5 q6 q7, rfl, q8 S q7⟩
  · have kin : X.K.In s'.heap := by
      obtain ⟨a, B, H', cls, d, _, fl, _, ub, _⟩ := id hc
      refine I1.ok.mod.kin.keeps fun b o eb => fl.1 b o (ub.keep b o (I1.bs b o eb).1 (I1.bs b o eb).2 fun hm => ?_)
      rcases List.mem_cons.mp (I1.stkSub b hm) with z | z
      · have h1 := Heap.lt_size eb
        have h2 := Nat.le_trans I1.ok.bsz I1.ok.above
        rw [z] at h1
        exact absurd (Nat.lt_of_lt_of_le h1 h2) (Nat.lt_irrefl _)
      · exact I1.ok.nofr eb z
    refine ⟨notStop_of (fun cls d H hW => hP cls hW.1) kin hc, passAt tk σ pins H2 sc e _ I1 ?_⟩
    · obtain ⟨a, B, H', cls, d, z1, fl, z2, ub, z3, z4, z5, z6⟩ := hc
      exact ⟨a, B, H', cls, d, z1, fl, z2, ub, z3, z4, allBare_setGen z5 rfl, z6.2⟩
end

end L75
namespace L75
open PySem PySem.Spec PyProof.Rows L2
variable {gd : Bool}
local macro_rules | `(tactic| walk_at "y1") => `(tactic| with_reducible first
  | refine tSeq_i ?_ | refine tAsg_i ?_ | refine tCons_i ?_ | refine tNil_i ?_ | refine tC_i ?_ | refine tOp_i ?_ | refine tIfS_i ?_ | refine tTest_i ?_ | refine exBl_i ?_ | refine tRet_i ?_ | refine tCall_i ?_
  | refine tCB_i ?_ | refine tLst_i ?_ | refine tTup_i ?_ | refine rI0_i ?_ | refine tDrop_i ?_ | refine tNext_i ?_ | refine tB_i ?_ | refine tAnd_i ?_ | refine tOr_i ?_ | refine tNot_i ?_ | refine tAndV_i ?_ | refine tOrV_i ?_ | refine tNotV_i ?_
  | refine tIf_i ?_ | refine tUn_i ?_ | refine tDGet_i ?_ | refine sDPut_i ?_ | refine tFld_i ?_ | refine tRetN_i ?_ | refine tBreak_i ?_ | refine tCont_i ?_ | refine rU_i ?_)
local macro_rules | `(tactic| walk_at "yhead") => `(tactic| dsimp only [L2.start, List.map, List.length_cons, List.length_nil, Nat.reduceAdd, Nat.reduceSub, List.replicate, List.cons_append, List.nil_append])
local macro_rules | `(tactic| walk_at "y2") => `(tactic| first
  | walk_at "y1"
  | ((with_reducible refine tVar_i (v := ?v) ?h ?q); (case h => rfl))
  | ((with_reducible refine gName_i ?_); (dsimp only [List.set]))
  | ((with_reducible refine rEq_i ?h ?q); (case h => rfl)) | ((with_reducible refine rNe_i ?h ?q); (case h => rfl)))
local macro_rules | `(tactic| walk_at "y") => `(tactic| repeat walk_at "y2")

/-! list(zip(range(0), g)): g a generator that is not begun -/
theorem begins_range0 (r : Addr) {t u v : Tok} : Begins (.ref r) { cls := .type "range_iterator", data := .fields #[rawInt 0, rawInt 0, rawInt 1] } (fun h => IsRange h r 0 0 1 t u v) where
  iter := fun prog w A E s Q hr hQ => by
    have e : Builtin.Range.rangeSize 0 0 1 = 0 := by decide +kernel
    have := wpAny_pyIter_range (prog := prog) (w := w) (A := A) (E := E) (Q := Q) hr (by decide +kernel)
    rw [e] at this
    exact this hQ
  keeps := fun h h' x hk => hk _ _ x
  free := rfl
abbrev zgT (h : Heap) (o1 : Obj) (b : Addr) : Heap := (h.push o1).push { cls := .type "tuple", data := .seq #[.ref h.objs.size, .ref b] }
abbrev zgO (h : Heap) (o1 : Obj) (b : Addr) : Heap := (zgT h o1 b).push { cls := .type "tuple", data := .seq #[.none, .none] }
abbrev zgZ (h : Heap) (o1 : Obj) (b : Addr) : Heap := (zgO h o1 b).push { cls := .type "zip", data := .fields #[.none, .bool false, .bool false, .ref (h.push o1).objs.size, .ref (zgT h o1 b).objs.size] }
set_option maxHeartbeats 4000000 in
theorem meets_zip_newG {v1 : Value} {o1 : Obj} {b g : Nat} {H1 : Heap → Prop} (B1 : Begins v1 o1 H1) :
    Meets (Builtin.«zip.__new__» ⟨[.type "zip", v1, .ref b], []⟩) (fun _ R s => (H1 s.heap ∧ s.heap.IsGen b g) ∧
      R (.ok (.ret (.ref (zgO s.heap o1 b).objs.size))) { s with heap := zgZ s.heap o1 b }) :=
  .of_wp fun prog w A R s h => by
    obtain ⟨hp, gg, d, tk, os⟩ := s; obtain ⟨⟨h1, h2⟩, h⟩ := h
    have hsub := sub_zip
    have q1 : ∀ {A' : Around} {E : Value → Shared → Prop} {Q : Value → Shared → Prop}, Q (.ref hp.objs.size) ⟨(hp.push o1), gg, d, tk, os⟩ → wpAny (model prog w) A' (pyIter v1) Q E ⟨hp, gg, d, tk, os⟩ :=
      fun q => B1.iter prog w _ _ ⟨hp, gg, d, tk, os⟩ _ h1 q
    have q2 : ∀ {A' : Around} {E : Value → Shared → Prop} {Q : Value → Shared → Prop}, Q (.ref b) ⟨(hp.push o1), gg, d, tk, os⟩ → wpAny (model prog w) A' (pyIter (.ref b)) Q E ⟨(hp.push o1), gg, d, tk, os⟩ :=
      fun q => wpAny_pyIter_gen (s := ⟨(hp.push o1), gg, d, tk, os⟩) (h2.keeps fun b' o' e => Heap.get?_push_of_some _ e) q
    wp_walk using q1, q2
    exact ⟨_, rfl, h⟩
section
variable {prog : Program} {w : World} {A : Around} {E : Value → Shared → Prop} {s : Shared}
theorem zip_beginsG {v1 : Value} {o1 : Obj} {b g : Nat} {H1 : Heap → Prop} {Q : Value → Shared → Prop} (B1 : Begins v1 o1 H1) (h1 : H1 s.heap) (h2 : s.heap.IsGen b g)
    (h : ∀ h', IsZip h' (s.heap.objs.size + 3) (s.heap.objs.size + 1) (s.heap.objs.size + 2) .none → IsTupOf2 h' (s.heap.objs.size + 1) (.ref s.heap.objs.size) (.ref b) →
      IsTupOf2 h' (s.heap.objs.size + 2) .none .none → h'.get? s.heap.objs.size = some o1 → h'.objs.size = s.heap.objs.size + 4 →
      (∀ c o, s.heap.get? c = some o → h'.get? c = some o) → Q (.ref (s.heap.objs.size + 3)) { s with heap := h' }) :
    wpAny (model prog w) A (call (.type "zip") [v1, .ref b]) Q E s := by
  refine callType_new PySem.F.called_zip (by decide) (PySem.F.typeCall_zip_2 _ _) (PySem.F.newCall_zip_2 _ _) (fun obj => PySem.F.args_object_init_3 obj _ _) PySem.F.entry_zip_new
    (meets_zip_newG (b := b) (g := g) B1) ⟨⟨h1, h2⟩, ?_⟩
  have z1 : (s.heap.push o1).objs.size = s.heap.objs.size + 1 := by rw [Heap.size_push]
  have zT : (zgT s.heap o1 b).objs.size = s.heap.objs.size + 2 := by rw [Heap.size_push, z1]
  have zO : (zgO s.heap o1 b).objs.size = s.heap.objs.size + 3 := by rw [Heap.size_push, zT]
  have zZ : (zgZ s.heap o1 b).objs.size = s.heap.objs.size + 4 := by rw [Heap.size_push, zO]
  have gZ : (zgZ s.heap o1 b).get? (zgO s.heap o1 b).objs.size = some { cls := .type "zip", data := .fields #[.none, .bool false, .bool false, .ref (s.heap.push o1).objs.size, .ref (zgT s.heap o1 b).objs.size] } := Heap.get?_push_size _ rfl
  have gO : (zgZ s.heap o1 b).get? (zgT s.heap o1 b).objs.size = some { cls := .type "tuple", data := .seq #[.none, .none] } := Heap.get?_push_of_some _ (Heap.get?_push_size _ rfl)
  have gT : (zgZ s.heap o1 b).get? (s.heap.push o1).objs.size = some { cls := .type "tuple", data := .seq #[.ref s.heap.objs.size, .ref b] } := Heap.get?_push_of_some _ (Heap.get?_push_of_some _ (Heap.get?_push_size _ rfl))
  have g1 : (zgZ s.heap o1 b).get? s.heap.objs.size = some o1 := Heap.get?_push_of_some _ (Heap.get?_push_of_some _ (Heap.get?_push_of_some _ (Heap.get?_push_size _ B1.free)))
  rw [zO, zT, z1] at gZ
  rw [zT] at gO
  rw [z1] at gT
  show _ ∧ _
  rw [zO]
  exact ⟨⟨_, gZ, rfl⟩, h _ gZ gT gO g1 zZ fun c o e => Heap.get?_push_of_some _ (Heap.get?_push_of_some _ (Heap.get?_push_of_some _ (Heap.get?_push_of_some _ e)))⟩
/-- next of such a zip: the first iterator is at its end -/
theorem zipG_next_end {z TI TO i1 : Addr} {v2 a1 a2 : Value} {Q : Fin → Shared → Prop} (hh : A.handled = none) (hz : IsZip s.heap z TI TO .none) (hTI : IsTupOf2 s.heap TI (.ref i1) v2) (hTO : IsTupOf2 s.heap TO a1 a2) (st1 : IsRangeIter s.heap i1 0 0 1) (ne : z ≠ i1)
    (hE : ∀ h' tk e, (∀ c o, c ≠ z → c ≠ i1 → s.heap.get? c = some o → h'.get? c = some o) → (∃ o, h'.get? e = some o ∧ o.cls = .type "StopIteration") → E (.ref e) { s with heap := h', toks := tk }) :
    wpAny (model prog w) A (Builtin.«zip.__next__» ⟨[.ref z], []⟩) Q E s := by
  obtain ⟨hp, g, d, tk0, os⟩ := s
  show wpAny _ _ (field (.ref z) 2 >>= _) _ _ _
  refine wpAny_bind (wpAny_field hz rfl (x := .bool false) rfl ?_)
  show wpAny _ _ (field (.ref z) 3 >>= _) _ _ _
  refine wpAny_bind (wpAny_field hz rfl (x := .ref TI) rfl ?_)
  refine wpAny_bind (wpAny_seqItems hTI rfl ?_)
  show wpAny _ _ (Builtin.SmallTypes.ownedTupleIsFree (.ref z) >>= _) _ _ _
  refine wpAny_bind ?_
  unfold Builtin.SmallTypes.ownedTupleIsFree
  refine wpAny_bind (wpAny_field hz rfl (x := .none) rfl (wpAny_pure ?_))
  simp only [if_true]
  refine wpAny_bind (wpAny_rule ?_)
  refine wpAny_bind (wpAny_field hz rfl (x := .ref TO) rfl ?_)
  refine wpAny_bind (wpAny_setField_rec hz (by simp) fun g0 hz0 hs0 => ?_)
  replace hz0 : IsZip g0 z TI TO .ellipsis := hz0
  replace hs0 : Heap.SameBut z hp g0 := hs0
  refine wpAny_bind ?_
  simp only [List.zipIdx_cons, List.zipIdx_nil, List.forIn_cons, List.forIn_nil]
  refine wpAny_bind (wpAny_bind (wpAny_onRaise ?_))
  show wpAny _ _ (Builtin.SmallTypes.nextOf (.ref i1) >>= _) _ _ ⟨g0, g, d, tk0, os⟩
  have hi0 : IsRangeIter g0 i1 0 0 1 := hs0.extBut _ _ (Ne.symm ne) st1
  have hT : Shared.TypeIs ⟨g0, g, d, tk0, os⟩ (.ref i1) "range_iterator" := ⟨_, hi0, rfl⟩
  refine wpAny_bind ?_
  unfold Builtin.SmallTypes.nextOf
  refine wpAny_bind (wpAny_callSpecial?_slot (name := Str.ofString "__next__") hT PySem.F.slot_range_iterator_next
    (wpAny_call_entry PySem.F.slot_range_iterator_next hT PySem.F.entry_range_iterator_next ?_ (PySem.F.args_range_iterator_next_1 _)))
  show wpAny _ _ (field (.ref i1) 0 >>= _) _ _ _
  refine wpAny_bind (wpAny_field hi0 rfl (x := rawInt 0) rfl ?_)
  show wpAny _ _ (field (.ref i1) 1 >>= _) _ _ _
  refine wpAny_bind (wpAny_field hi0 rfl (x := rawInt 0) rfl ?_)
  show wpAny _ _ (field (.ref i1) 2 >>= _) _ _ _
  refine wpAny_bind (wpAny_field hi0 rfl (x := rawInt 1) rfl ?_)
  show wpAny _ _ (if (0 : Int) ≤ 0 then _ else _) _ _ _
  rw [if_pos (by decide)]
  refine wpAny_bind (wpAny_rule ?_)
  refine wpAny_bind ?_
  show wpAny _ _ (newExc (.type "StopIteration") [] >>= _) _ _ _
  refine wpAny_bind ?_
  simp only [newExc, newTuple]
  refine wpAny_bind (wpAny_newObj_type ?_ (by size_fits))
  refine wpAny_bind (m := firstArgMember _ _) (wpAny_of_eq (a := Value.none) (by first | rfl | (simp only [firstArgMember]; rfl)) ?_)
  refine wpAny_newObj_type ?_ (by size_fits)
  simp only [raiseNew]
  refine wpAny_bind (wpAny_handled ?_)
  first | rw [show A.in1.handled = none from hh] | rw [hh]
  refine wpAny_bind (wpAny_pure (wpAny_throw ?_))
  have hg : ∀ c o, g0.get? c = some o → ((g0.push { cls := Value.type "tuple", data := Data.seq #[] }).push { cls := Value.type "StopIteration", data := Data.fields (#[Value.ref g0.objs.size, Value.none, Value.none, Value.none, Value.bool false, Value.none] ++ ownMembersOf (Value.type "StopIteration") []) }).get? c = some o := fun c o e => Heap.get?_push_of_some _ (Heap.get?_push_of_some _ e)
  have hzq := hg _ _ hz0
  have hez : (g0.push { cls := Value.type "tuple", data := Data.seq #[] }).objs.size ≠ z := by
    have := Heap.lt_size hz0
    rw [Heap.size_push]
    exact Nat.ne_of_gt (Nat.lt_succ_of_lt this)
  refine wpAny_setField_rec (s := ⟨_, g, d, tk0, os⟩) hzq (by simp) fun q' _ hq' => ?_
  exact hE q' tk0 _ (fun c o cz c1 x => hq'.extBut _ _ cz (hg _ _ (hs0.extBut _ _ cz x))) ⟨_, hq'.extBut _ _ hez (Heap.get?_push_size _ rfl), rfl⟩
theorem pyNext_zipG_end {z TI TO i1 : Addr} {v2 a1 a2 : Value} {Q : Option Value → Shared → Prop} (hh : A.handled = none) (hz : IsZip s.heap z TI TO .none) (hTI : IsTupOf2 s.heap TI (.ref i1) v2) (hTO : IsTupOf2 s.heap TO a1 a2) (st1 : IsRangeIter s.heap i1 0 0 1) (ne : z ≠ i1)
    (hQ : ∀ h' tk, (∀ c o, c ≠ z → c ≠ i1 → s.heap.get? c = some o → h'.get? c = some o) → Q none { s with heap := h', toks := tk }) : wpAny (model prog w) A (pyNext (.ref z)) Q E s := by
  have hT : s.TypeIs (.ref z) "zip" := ⟨_, hz, rfl⟩
  unfold pyNext
  refine wpAny_bind (wpAny_attempt (wpAny_callSpecial?_slot (name := Str.ofString "__next__") hT PySem.F.slot_zip_next
    (wpAny_call_entry PySem.F.slot_zip_next hT PySem.F.entry_zip_next (zipG_next_end hh hz hTI hTO st1 ne fun h' tk e hk he => ?_) (PySem.F.args_zip_next_1 _))))
  obtain ⟨o, ho, hc⟩ := he
  refine wpAny_bind (wpAny_isInstance (T := "StopIteration") (b := true) ⟨o, ho, hc⟩ isSubtype_stop ?_)
  exact wpAny_pure (hQ _ _ hk)
theorem zip_no_len : typeLookup (.type "zip") "__len__" = pure none := by rw [typeLookup_type, builtinLookup_eq_fast]; kernel_rfl
theorem zip_no_hint : typeLookup (.type "zip") "__length_hint__" = pure none := by rw [typeLookup_type, builtinLookup_eq_fast]; kernel_rfl
theorem list_zipG {z TI TO i1 : Addr} {v2 a1 a2 : Value} {Q : Value → Shared → Prop} (hh : A.handled = none) (hz : IsZip s.heap z TI TO .none) (hTI : IsTupOf2 s.heap TI (.ref i1) v2) (hTO : IsTupOf2 s.heap TO a1 a2) (st1 : IsRangeIter s.heap i1 0 0 1) (ne : z ≠ i1)
    (hQ : ∀ h' tk c, (∀ b o, b ≠ z → b ≠ i1 → s.heap.get? b = some o → h'.get? b = some o) → h'.get? s.heap.objs.size = some { cls := .type "list", data := .seq #[] c } → Q (.ref s.heap.objs.size) { s with heap := h', toks := tk }) :
    wpAny (model prog w) A (call (.type "list") [.ref z]) Q E s := by
  have hSz : s.heap.objs.size ≠ z := Nat.ne_of_gt (Heap.lt_size hz)
  have hSi : s.heap.objs.size ≠ i1 := Nat.ne_of_gt (Heap.lt_size st1)
  refine callType_codes (Q₁ := fun obj s₁ => obj = .ref s.heap.objs.size ∧ s₁ = { s with heap := s.heap.push { cls := .type "list", data := .seq #[] } }) PySem.F.called_list (PySem.F.typeCall_list_1 _) PySem.F.entry_list_init
    (code_list_new _ ⟨rfl, rfl⟩) fun obj s₁ h₁ => ?_
  obtain ⟨rfl, rfl⟩ := h₁
  have hS : (s.heap.push { cls := .type "list", data := .seq #[] }).get? s.heap.objs.size = some { cls := .type "list", data := .seq #[] } := Heap.get?_push_size _ rfl
  refine ⟨⟨_, hS, rfl⟩, PySem.F.args_list_init_2 _ _, ?_⟩
  show wpAny _ A.in1.in1 (do let old ← Builtin.List.listItems (.ref s.heap.objs.size); Builtin.List.listUpdate (.ref s.heap.objs.size) (fun _ => #[]); letGo old.toList.reverse; Builtin.List.listExtendWith (.ref s.heap.objs.size) (.ref z) .none) _ _ _
  refine wpAny_bind ?_
  unfold Builtin.List.listItems
  refine wpAny_bind (wpAny_seqItems hS rfl (wpAny_pure ?_))
  show wpAny _ A.in1.in1 (updateSeq s.heap.objs.size (fun _ => #[]) >>= fun _ => letGo (#[] : Array Value).toList.reverse >>= fun _ => Builtin.List.listExtendWith (.ref s.heap.objs.size) (.ref z) .none) _ _ _
  refine wpAny_bind (wpAny_updateSeq hS rfl ?_)
  have hS2 := Heap.get?_update_self (Obj.mapSeq (fun _ => (#[] : Array Value))) hS rfl
  refine wpAny_bind (wpAny_letGo ?_)
  unfold Builtin.List.listExtendWith
  have up : ∀ (h : Heap) (f : Obj → Obj), (∀ b o, s.heap.get? b = some o → h.get? b = some o) → ∀ b o, s.heap.get? b = some o → (h.update s.heap.objs.size f).get? b = some o := fun h f q b o e =>
    (Heap.get?_update_other _ _ (Ne.symm (Nat.ne_of_lt (Heap.lt_size e)))).trans (q b o e)
  have k1 : ∀ b o, s.heap.get? b = some o → (s.heap.push { cls := .type "list", data := .seq #[] }).get? b = some o := fun b o e => Heap.get?_push_of_some _ e
  have k2 := up _ (Obj.mapSeq (fun _ => (#[] : Array Value))) k1
  have gty : ∀ {h : Heap}, (∀ b o, s.heap.get? b = some o → h.get? b = some o) → Shared.TypeIs { s with heap := h } (.ref z) "zip" := fun {h} q => ⟨_, q _ _ hz, rfl⟩
  refine wpAny_bind (wpAny_typeOf (T := "zip") (gty k2) ?_)
  have h1 : Builtin.List.listSameRef (.ref s.heap.objs.size) (.ref z) = false := by simp [Builtin.List.listSameRef, hSz]
  have h2 : (Value.type "zip" == Value.type "list") = false := by decide
  have h3 : (Value.type "zip" == Value.type "tuple") = false := by decide
  simp only [h1, h2, h3, Bool.or_false, Bool.false_eq_true, if_false]
  refine wpAny_bind (wpAny_pyIter_zip (s := { s with heap := _ }) (k2 _ _ hz) ?_)
  refine wpAny_bind (wpAny_holding ?_)
  unfold Builtin.List.listLengthHint
  refine wpAny_bind (wpAny_specialOf (gty k2) zip_no_len ?_)
  show wpAny _ A.in1.in1 (specialOf (Value.ref z) (Str.ofString "__length_hint__") >>= _) _ _ _
  refine wpAny_bind (wpAny_specialOf (gty k2) zip_no_hint ?_)
  refine wpAny_pure ?_
  show wpAny _ A.in1.in1 (rule "list.extend.makes-room" >>= fun _ => Builtin.List.listTouch (.ref s.heap.objs.size) >>= fun _ =>
    again (.builtin "list.extend.loop" ⟨[.ref s.heap.objs.size, .ref z, .none], []⟩)) _ _ _
  refine wpAny_bind (wpAny_rule ?_)
  refine wpAny_bind ?_
  show wpAny _ A.in1.in1 (updateSeq s.heap.objs.size (·.push .none) >>= fun _ => updateSeq s.heap.objs.size (·.pop)) _ _ _
  refine wpAny_bind (wpAny_updateSeq hS2 rfl ?_)
  have hS3 := Heap.get?_update_self (Obj.mapSeq (·.push Value.none)) hS2 rfl
  refine wpAny_updateSeq (hz := by seq_fits) hS3 rfl ?_
  have hS4 := Heap.get?_update_self (Obj.mapSeq (·.pop)) hS3 rfl
  have k4 := up _ (Obj.mapSeq (·.pop)) (up _ (Obj.mapSeq (·.push Value.none)) k2)
  refine wpAny_pure ⟨plainId_quiet PySem.F.plain_extend_loop _, ?_⟩
  refine codeAny_builtin PySem.F.entry_extend_loop ?_
  rw [Around.under_plainId PySem.F.plain_extend_loop _]
  show wpAny _ A.in1.in1 (pyNext (.ref z) >>= _) _ _ _
  refine wpAny_bind (pyNext_zipG_end (s := { s with heap := _ }) hh (k4 _ _ hz) (k4 _ _ hTI) (k4 _ _ hTO) (k4 _ _ st1) ne fun h' tk hk => ?_)
  exact wpAny_pure ⟨rfl, hQ h' tk _ (fun b o nb ni e => hk b o nb ni (k4 b o e)) (hk _ _ hSz hSi hS4)⟩
end
section
variable {X : Cx} {k : Nat} {f : Addr} {fd : FuncData} {ps : List Str} {sp : SpG} {dvs : List V} {ds : List Value} {x : Str} {e : Expr} {es : List Expr} {t ta : TA} {p p2 pos pos' : Pos}
/-- this is a generator -/
def genO (a : Addr) : HO := .ext fun h => ∃ g, h.IsGen a g
def tGenE (sp : SpG) (dvs : List V) (t : TA) : TE := fun σ H Q => t σ H fun vs H1 => sp (vs ++ dvs) H1 (fun _ _ => True) (fun _ _ _ => True) ∧ ∀ a, H1 a = none → Q (.ref a) (upd H1 a (genO a))
/-- f(e, ..) of a generator def, as a value that never begins -/
theorem pe_genE (F : GFn X.prog X.w X.K X.mg X.base k f fd ps sp) (hr : Room k X.A) (hg : Gl X x) (hm : X.mg x = some (.ref f)) (hk : PySem.W.keepIn X.K (.ref f) = true) (hb : Binds X.K fd ps ds) (hd : Vals dvs ds)
    (ha : PA X (e :: es) t) (hdb : (x == ("__debug__" : Str)) = false := by decide) (he : starEach (e :: es) X.env = (false, eval e X.env) :: starEach es X.env := by rfl) (hpl : (backTo pos' (starEach es X.env)).any (·.1) = false := by rfl) :
    PE X (.Call (.Name x p) (e :: es) [] pos') (tGenE sp dvs t) := by
  refine ⟨fun pins s σ H Q I h => ?_⟩
  refine wpAny_Call_Name_kw (ld_glob I hg hm ?_ hdb)
  refine PySem.W.callWith_K (h₀ := X.base) I.ok.mod.kin hk (thn (ha.run pos' pins s σ H _ I h) fun us s1 ⟨vs, H1, I1, r, q, q2⟩ => ⟨I1.kIn, ?_⟩) he hpl
  have r2 : Vals (vs ++ dvs) (us ++ ds) := r.append hd
  have hl2 : (us ++ ds).length = ps.length := by rw [← r2.length]; exact F.len _ _ _ _ q
  show wpAny _ _ (call (.ref f) us) _ _ _
  refine wpAny_call (codeAny_mono (F.run X.A X.stack s1 H1 ⟨us, []⟩ (us ++ ds) (vs ++ dvs) _ _ hr I1.env0 (hb s1 us I1.kIn hl2) r2 q) fun r s' hq => ?_)
  cases r with
  | error e => exact False.elim hq
  | ok fl =>
    cases fl with
    | ret u =>
      obtain ⟨a, g, c, rfl, ha1, ha2, hgen, hgs, os, hbare, hlim, hkp, _⟩ := hq
      have I2 : Inv X pins σ H1 s' := I1.call' (ch := []) os (Un.kept hkp) (I1.hok.kept hkp) hbare fun b z => by simp at z
      have hn : H1 a = none := I1.hok.fresh ha1
      have I3 : Inv X pins σ (upd H1 a (genO a)) s' := I1.call' (ch := []) os (by
        have uk : Un (frs X.stack) [] H1 H1 s1.heap s'.heap := Un.kept hkp
        refine ⟨uk.keep, uk.slot, fun b ob q n hx => ?_, uk.there, fun b xs q => ?_, fun b ob y q => ?_, fun b qs q => ?_⟩
        · rw [upd_ne (Nat.ne_of_lt (Nat.lt_of_lt_of_le (Heap.lt_size q) ha1))]; exact uk.free b ob q n hx
        · rw [upd_ne (ne_of_none q hn)]; exact q
        · rw [upd_ne (ne_of_none q hn)]; exact q
        · exact ⟨#[], by rw [upd_ne (ne_of_none q hn), q]; simp⟩) (fun b u q => by
        by_cases hb : b = a
        · subst hb
          rw [upd_same] at q
          cases q
          obtain ⟨o, nm, qn, ho, hc, hd', hsl⟩ := id hgen
          exact ⟨⟨g, hgen⟩, ⟨o, ho⟩, fun h1 h2 ⟨g', o', nm', qn', ho', r'⟩ hk => ⟨g', o', nm', qn', hk _ ho', r'⟩⟩
        · rw [upd_ne hb] at q
          exact (I2.hok b u q).stay (fun _ _ _ z => z) (fun d z => by rw [upd_ne (ne_of_none z hn)]; exact z) fun d xs z => by rw [upd_ne (ne_of_none z hn)]; exact z) hbare fun b z => by simp at z
      exact ⟨.ref a, _, I3, rfl, q2 a hn⟩
    | next => exact False.elim hq
    | brk => exact False.elim hq
    | cont => exact False.elim hq
/-- range(j) as a value -/
theorem cr_range1 : CallR X (.type "range") (fun vs H Q => ∃ j, vs = [V.int j] ∧ ∀ p, H p = none → Q (.ref p) (upd H p (.rng 0 j))) := by
  intro pins s σ H vs us Q I r h
  obtain ⟨j, rfl, q⟩ := h
  obtain ⟨u1, rfl, ri⟩ := vals1 r
  obtain ⟨t, rfl⟩ := ri
  refine call_range_1 ⟨.ref s.heap.objs.size, upd H s.heap.objs.size (.rng 0 j), I.laid (t' := s.toks + 1 + 1) (fun b o e => Heap.get?_push_of_some _ e) (Nat.le_refl _) ?_, rfl, q _ (I.hok.fresh (Nat.le_refl _))⟩
  exact ⟨s.toks, t, s.toks + 1, Heap.get?_push_size _ rfl⟩
def tLZ (ta : TA) : TE := fun σ H Q => ta σ H fun vs H1 => ∃ r b, vs = [.ref r, .ref b] ∧ H1 r = some (.rng 0 0) ∧ H1 b = some (genO b) ∧ ∀ p, H1 p = none → Q (.ref p) (upd H1 p (.lst []))
/-- list(zip(range(0), g)) -/
theorem pe_lz {e2 : Expr} (hgl : Gl X "list") (hml : X.mg "list" = none) (hg : Gl X "zip") (hm : X.mg "zip" = none) (ha : PA X [e, e2] ta)
    (hs : starEach [e, e2] X.env = (false, eval e X.env) :: starEach [e2] X.env := by rfl) (hpl : (backTo pos (starEach [e2] X.env)).any (·.1) = false := by rfl)
    (hs2 : starEach [.Call (.Name "zip" p) [e, e2] [] pos] X.env = (false, eval (.Call (.Name "zip" p) [e, e2] [] pos) X.env) :: starEach [] X.env := by rfl)
    (hcalm : X.calm = true := by rfl) : PE X (.Call (.Name "list" p2) [.Call (.Name "zip" p) [e, e2] [] pos] [] pos') (tLZ ta) := by
  refine ⟨fun pins s σ H Q I h => ?_⟩
  refine Call_ (ld_blt I hgl hml PyProof.Rows.boot_list (PyProof.Rows.callWith_type1 ?_ hs2 rfl))
  rw [hs2]
  show wpAny _ _ (spliced ((false, eval (.Call (.Name "zip" p) [e, e2] [] pos) X.env) :: backTo pos' (starEach [] X.env))) _ _ s
  refine Calls.spliced_cons ?_
  refine Call_ (ld_blt I hg hm PyProof.Rows.boot_zip (PyProof.Rows.callWith_type1 (thn (ha.run pos pins s σ H _ I h) fun us s1 ⟨vs, H1, I1, r1, q1⟩ => ?_) hs hpl))
  obtain ⟨r, b, rfl, hr, hb, q⟩ := q1
  cases r1 with
  | cons ra rr =>
    cases rr with
    | cons rb rr =>
      cases rr
      cases ra
      cases rb
      obtain ⟨t1, t2, t3, er⟩ := (show ObjOk X.prog X.w H1 s1.heap r (.rng 0 0) from I1.hok r _ hr)
      obtain ⟨⟨g, hgen⟩, _⟩ := (show ObjOk X.prog X.w H1 s1.heap b (genO b) from I1.hok b _ hb)
      refine zip_beginsG (begins_range0 r) er hgen fun h' hz hTI hTO h1 hsz hk => ?_
      refine Calls.spliced_nil ?_
      have I2 : Inv X pins σ H1 { s1 with heap := h' } := I1.kept (t' := s1.toks) hk
      refine list_zipG (s := { s1 with heap := h' }) (I1.ok.hd hcalm) hz hTI hTO h1 (Nat.ne_of_gt (Nat.lt_add_of_pos_right (by decide))) fun h'' tk c hk2 hS => ?_
      have hsz2 : s1.heap.objs.size ≤ h'.objs.size := by rw [hsz]; exact Nat.le_add_right _ _
      exact ⟨.ref h'.objs.size, upd H1 h'.objs.size (.lst []), I1.laid (t' := tk) (fun b' o e => hk2 b' o (Nat.ne_of_lt (Nat.lt_of_lt_of_le (Heap.lt_size e) (Nat.le_add_right _ _))) (Nat.ne_of_lt (Heap.lt_size e)) (hk b' o e)) hsz2 (show ObjOk X.prog X.w _ _ _ (.lst []) from ⟨by decide, [], c, .nil, hS⟩), rfl, q _ (I1.hok.fresh hsz2)⟩
end

end L75
namespace L75
open PySem PySem.Spec PyProof.Rows L2
variable {gd : Bool}
local macro_rules | `(tactic| walk_at "y1") => `(tactic| with_reducible first
  | refine tSeq_i ?_ | refine tAsg_i ?_ | refine tCons_i ?_ | refine tNil_i ?_ | refine tC_i ?_ | refine tOp_i ?_ | refine tIfS_i ?_ | refine tTest_i ?_ | refine exBl_i ?_ | refine tRet_i ?_ | refine tCall_i ?_
  | refine tCB_i ?_ | refine tLst_i ?_ | refine tTup_i ?_ | refine rI0_i ?_ | refine tDrop_i ?_ | refine tNext_i ?_ | refine tB_i ?_ | refine tAnd_i ?_ | refine tOr_i ?_ | refine tNot_i ?_ | refine tAndV_i ?_ | refine tOrV_i ?_ | refine tNotV_i ?_
  | refine tYes_i ?_ | refine tTM_i ?_ | refine tPar_i ?_ | refine tSl_i ?_ | refine tNoPart_i ?_ | refine tPart_i ?_ | refine part_i ?_ | refine tMake_i ?_ | refine tProp_i ?_ | refine tCallOG_i ?_ | refine tVeI_i ?_ | refine tOst_i ?_ | refine tMkO_i ?_ | refine sFld_i ?_ | refine fldaug_i ?_ | refine gCons_i ?_ | refine gNil_i ?_ | refine tChain_i ?_ | refine tBM_i ?_ | refine rAdd2_i ?_ | refine rLe2_i ?_ | refine rEq2_i ?_ | refine rEq2_ss ?_ | refine rNe2_i ?_ | refine rNe2_ss ?_ | refine rIsN_i ?_ | refine rNotN_i ?_ | refine tTup_i2 ?_ | refine tIf_i ?_ | refine tUn_i ?_ | refine tDGet_i ?_ | refine sDPut_i ?_ | refine tFld_i ?_ | refine tRetN_i ?_ | refine tBreak_i ?_ | refine tCont_i ?_ | refine rU_i ?_)
local macro_rules | `(tactic| walk_at "yhead") => `(tactic| dsimp only [L2.start, List.map, List.length_cons, List.length_nil, Nat.reduceAdd, Nat.reduceSub, List.replicate, List.cons_append, List.nil_append])
local macro_rules | `(tactic| walk_at "y2") => `(tactic| first
  | walk_at "y1"
  | ((with_reducible refine tVar_i (v := ?v) ?h ?q); (case h => rfl))
  | ((with_reducible refine gName_i ?_); (dsimp only [L2.wipe, List.set]))
  | with_reducible refine iteT ?_ | with_reducible refine iteF ?_ | with_reducible refine iteNT ?_ | with_reducible refine iteNF ?_
  | ((with_reducible refine iteDT ?h ?q); (case h => first | decide +kernel | omega | assumption | exact nv1 | exact nv2 | exact nv3 | exact nv4)) | ((with_reducible refine iteDF ?h ?q); (case h => first | decide +kernel | omega | assumption | exact nv1 | exact nv2 | exact nv3 | exact nv4))
  | ((with_reducible refine iteNDT ?h ?q); (case h => first | decide +kernel | omega | assumption | exact nv1 | exact nv2 | exact nv3 | exact nv4)) | ((with_reducible refine iteNDF ?h ?q); (case h => first | decide +kernel | omega | assumption | exact nv1 | exact nv2 | exact nv3 | exact nv4))
  | ((with_reducible refine rIsi2_1 (T := ?T) (b := true) ?ty ?h ?q); (case ty => first | exact ty_str | exact ty_int | exact ty_bl | exact ty_non); (case h => decide +kernel))
  | ((with_reducible refine rIsi2_1 (T := ?T) (b := false) ?ty ?h ?q); (case ty => first | exact ty_str | exact ty_int | exact ty_bl | exact ty_non); (case h => decide +kernel))
  | ((with_reducible refine rEq2_s ?h ?q); (case h => rfl)) | ((with_reducible refine rNe2_s ?h ?q); (case h => rfl))
  | ((with_reducible refine rEq_i ?h ?q); (case h => rfl)) | ((with_reducible refine rNe_i ?h ?q); (case h => rfl)))
local macro_rules | `(tactic| walk_at "y") => `(tactic| repeat walk_at "y2")

open LamX
section
variable {P : Program} {w : World} {K : PySem.W.Frag} {mg : Str → Option Value} {base : Heap}
def lamQ : Str := ("_law_log_right" : Str) ++ ".<locals>." ++ "<lambda>"
def refAt : He.Defn := ("_law_log_right", none)
def TL (K : PySem.W.Frag) : List (Addr × Str) := [((He.cT K refAt).2, lamQ)]
theorem TL_mem : ((He.cT K refAt).2, lamQ) ∈ TL K := List.mem_singleton.mpr rfl
theorem TL_u : ∀ p ∈ TL K, p.1 = (He.cT K refAt).2 → p.2 = lamQ := fun p hp _ => by rw [List.mem_singleton.mp hp]
/-- what is due: nothing, or the index in a list -/
def DueV (H : Hp) (o : Option V) (v : V) : Prop := match o with | none => v = .str "nothing" | some iv => ∃ D, v = .ref D ∧ H D = some (.lst [iv])
def DueD (o : Option V) : PyData := match o with | none => .str "nothing" | some iv => .list [vD iv]
def flatI : Option V → Prop | none => True | some iv => iv = .non ∨ ∃ i : Nat, iv = .int i ∧ i ≤ 1000
theorem DueV.ext {H H' : Hp} {o : Option V} {v : V} (h : DueV H o v) (x : ExtN H H') : DueV H' o v := by
  cases o with
  | none => exact h
  | some iv => exact (let ⟨D, a, b⟩ := h; ⟨D, a, x _ _ b (fun _ z => nomatch z)⟩)
theorem DueV.dp {H : Hp} {o : Option V} {v : V} (h : DueV H o v) (f : flatI o) : Dp K H v (DueD o) := by
  cases o with
  | none => rw [show v = .str "nothing" from h]; exact .str _
  | some iv =>
    obtain ⟨D, rfl, e⟩ := h
    refine dp_lst (SqL.of e) ?_
    rcases f with rfl | ⟨i, rfl, _⟩ <;> rfl
theorem dueD_sm {o : Option V} (f : flatI o) : Sm 1 100 (DueD o) := by
  cases o with
  | none => exact (smV_sm (v := .str "nothing") (by decide +kernel)).mono (by decide) (by decide)
  | some iv =>
    refine (sm_lst (xs := [iv]) ?_).mono (Nat.le_refl _) (by simp)
    rcases f with rfl | ⟨i, rfl, hi⟩
    · rfl
    · rw [List.all_cons, sm_int (by omega)]; rfl
theorem dueD_eqv {o : Option V} : PyData.eqv (DueD o) (DueD o) = true := by
  cases o with
  | none => simp [DueD, PyData.eqv]
  | some iv => cases iv <;> simp [DueD, PyData.eqv, PyData.eqvAll, vD]
/-- a log that is good, or refused -/
def LinesR (K : PySem.W.Frag) (H : Hp) (x : V) : Option V → Prop
  | none => ∃ b p es, x = .ref p ∧ LogAt K b H p es
  | some iv => BadL K H x iv
theorem BadL.ext {H H' : Hp} {x iv : V} (h : BadL K H x iv) (k : ExtN H H') : BadL K H' x iv := by
  have it_ext : ∀ {v : V} {it : Itm}, it.At H v → it.At H' v := fun {v it} h => by
    cases it with
    | tu xs => exact (let ⟨a, e, q⟩ := h; ⟨a, e, k _ _ q (fun _ z => nomatch z)⟩)
    | ls xs => exact (let ⟨a, e, q⟩ := h; ⟨a, e, k _ _ q (fun _ z => nomatch z)⟩)
    | dc => exact (let ⟨a, e, q⟩ := h; ⟨a, e, k _ _ q (fun _ z => nomatch z)⟩)
    | _ => exact h
  rcases h with ⟨b, p, vs, os, i, h1, h2, h3, h4⟩ | ⟨it, h1, h2⟩
  · refine .inl ⟨b, p, vs, os, i, h1, k _ _ h2 (fun _ z => by cases b <;> cases z), h3.mono fun v o h => ?_, h4⟩
    cases o with
    | some its => exact (let ⟨p, vs, a, b, c, d⟩ := h; ⟨p, vs, a, k _ _ b (fun _ z => nomatch z), c.mono fun v it h => it_ext h, d⟩)
    | none => exact (let ⟨it, a, b⟩ := h; ⟨it, it_ext a, b⟩)
  · exact .inr ⟨it, it_ext h1, h2⟩
theorem EvR.ext {H H' : Hp} {v : V} {e : Ev} (h : EvR K H v e) (k : ExtN H H') : EvR K H' v e := by
  have sub_ext : ∀ {v : V} {d : PyData}, SubR H v d → SubR H' v d := fun {v d} h => by
    rcases h with h | ⟨a, ys, h1, h2, h3⟩
    · exact .inl h
    · exact .inr ⟨a, ys, h1, k _ _ h2 (fun _ z => nomatch z), h3⟩
  have it_ext : ∀ {v : V} {it : Itm}, it.At H v → it.At H' v := fun {v it} h => by
    cases it with
    | tu xs => exact (let ⟨a, e, q⟩ := h; ⟨a, e, k _ _ q (fun _ z => nomatch z)⟩)
    | ls xs => exact (let ⟨a, e, q⟩ := h; ⟨a, e, k _ _ q (fun _ z => nomatch z)⟩)
    | dc => exact (let ⟨a, e, q⟩ := h; ⟨a, e, k _ _ q (fun _ z => nomatch z)⟩)
    | _ => exact h
  obtain ⟨p, h1, h2, h3, its, ⟨p2, vs, a, b, c, d⟩, g⟩ := h
  refine ⟨p, h1, k _ _ h2 (fun _ z => nomatch z), ?_, its, ⟨p2, vs, a, k _ _ b (fun _ z => nomatch z), c.mono fun v it h => it_ext h, d⟩, g⟩
  cases e with
  | no v d => exact sub_ext h3
  | sw z v d => exact sub_ext h3
  | _ => trivial
theorem LinesR.ext {H H' : Hp} {x : V} {o : Option V} (h : LinesR K H x o) (k : ExtN H H') : LinesR K H' x o := by
  cases o with
  | none => exact (let ⟨b, p, es, e, vs, h1, h2, h3⟩ := h; ⟨b, p, es, e, vs, k _ _ h1 (fun _ z => by cases b <;> cases z), h2.mono fun _ _ h => h.ext k, h3⟩)
  | some iv => exact BadL.ext h k
theorem badc_i {H : Hp} {x iv : V} {E1 : XK} {Q : VK} (b : BadL K H x iv) (hE : ∀ cls d H', wordE K Q cls d H' → E1 cls d H') (q : ∀ v H', Same H H' → DueV H' (some iv) v → Q v H') : BadC K H x E1 :=
  ⟨iv, b, fun d H' hd s e => hE _ _ _ ⟨rfl, d, iv, rfl, e, fun D H3 nD s3 h3 => q _ H3 (s.trans s3) ⟨D, rfl, h3⟩⟩⟩
section
variable {H : Hp} {x : V} {o : Option V} {Q Q1 : VK} {E1 : XK}
theorem st_check (l : LinesR K H x o) (hE : ∀ cls d H', wordE K Q cls d H' → E1 cls d H') (hN : ∀ v H', Q (.str "nothing") H' → Q1 v H') (q : ∀ v H', Same H H' → DueV H' o v → Q v H') : spCheck K ([x] ++ []) H Q1 E1 := by
  cases o with
  | none => exact (let ⟨b, p, es, e, lg⟩ := l; by subst e; exact lg.check fun H' s => hN _ _ (q _ H' s rfl))
  | some iv => exact (badc_i l hE q).check
theorem st_spans (l : LinesR K H x o) (hE : ∀ cls d H', wordE K Q cls d H' → E1 cls d H') (hN : ∀ v H', Q (.str "nothing") H' → Q1 v H') (q : ∀ v H', Same H H' → DueV H' o v → Q v H') : spSpans K ([x] ++ []) H Q1 E1 := by
  cases o with
  | none => exact (let ⟨b, p, es, e, lg⟩ := l; ⟨_, rfl, .inl ⟨b, p, es, e, lg, fun D H' vs _ s _ _ => hN _ _ (q _ H' s rfl)⟩⟩)
  | some iv => exact ⟨_, rfl, .inr (badc_i l hE q)⟩
theorem st_never (l : LinesR K H x o) (hE : ∀ cls d H', wordE K Q cls d H' → E1 cls d H') (hN : ∀ v H', Q (.str "nothing") H' → Q1 v H') (q : ∀ v H', Same H H' → DueV H' o v → Q v H') : spNever K ([x] ++ []) H Q1 E1 := by
  cases o with
  | none => exact (let ⟨b, p, es, e, lg⟩ := l; ⟨_, rfl, .inl ⟨b, p, es, e, lg, fun D H' _ s _ => hN _ _ (q _ H' s rfl)⟩⟩)
  | some iv => exact ⟨_, rfl, .inr (badc_i l hE q)⟩
theorem st_most (l : LinesR K H x o) (hE : ∀ cls d H', wordE K Q cls d H' → E1 cls d H') (hN : ∀ v H', Q (.str "nothing") H' → Q1 v H') (q : ∀ v H', Same H H' → DueV H' o v → Q v H') : spMostO K ([x] ++ []) H Q1 E1 := by
  cases o with
  | none => exact (let ⟨b, p, es, e, lg⟩ := l; ⟨_, rfl, .inl ⟨b, p, es, e, lg, fun H' s => hN _ _ (q _ H' s rfl)⟩⟩)
  | some iv => exact ⟨_, rfl, .inr (badc_i l hE q)⟩
theorem st_flaws (l : LinesR K H x o) (hE : ∀ cls d H', wordE K Q cls d H' → E1 cls d H') (hN : ∀ v H', Q (.str "nothing") H' → Q1 v H') (q : ∀ v H', Same H H' → DueV H' o v → Q v H') : spFlaws K ([x] ++ []) H Q1 E1 := by
  cases o with
  | none => exact (let ⟨b, p, es, e, lg⟩ := l; ⟨_, rfl, .inl ⟨b, p, es, e, lg, fun D H' _ s _ => hN _ _ (q _ H' s rfl)⟩⟩)
  | some iv => exact ⟨_, rfl, .inr (badc_i l hE q)⟩
theorem st_cross (l : LinesR K H x o) (hE : ∀ cls d H', wordE K Q cls d H' → E1 cls d H') (hN : ∀ v H', Q (.str "nothing") H' → Q1 v H') (q : ∀ v H', Same H H' → DueV H' o v → Q v H') : spCross K ([x] ++ []) H Q1 E1 := by
  cases o with
  | none => exact (let ⟨b, p, es, e, lg⟩ := l; ⟨_, rfl, .inl ⟨b, p, es, e, lg, fun D H' vs _ s _ _ => hN _ _ (q _ H' s rfl)⟩⟩)
  | some iv => exact ⟨_, rfl, .inr (badc_i l hE q)⟩
theorem st_audit {a : Addr} (ha : H a = some (.tup [])) (l : LinesR K H x o) (hE : ∀ cls d H', wordE K Q cls d H' → E1 cls d H') (hN : ∀ v H', Q (.str "nothing") H' → Q1 v H') (q : ∀ v H', Same H H' → DueV H' o v → Q v H') : spAudit K ([x, V.ref a] ++ []) H Q1 E1 := by
  cases o with
  | none => exact (let ⟨b, p, es, e, lg⟩ := l; ⟨_, _, rfl, a, rfl, ha, .inl ⟨b, p, es, e, lg, fun D H' vs _ s _ _ => hN _ _ (q _ H' s rfl)⟩⟩)
  | some iv => exact ⟨_, _, rfl, a, rfl, ha, .inr (badc_i l hE q)⟩
theorem st_gen (l : LinesR K H x o) : spNotes K ([x, V.non] ++ []) H (fun _ _ => True) (fun _ _ _ => True) := by
  cases o with
  | none => exact (let ⟨b, p, es, e, lg⟩ := l; ⟨_, _, rfl, .inr (.inl ⟨b, p, es, e, lg, rfl, fun _ _ _ _ _ => trivial⟩)⟩)
  | some iv => exact ⟨_, _, rfl, .inr (.inr ⟨iv, l, fun _ _ _ _ _ => trivial⟩)⟩
end
/-! what the law finds due -/
theorem fb_head : ∀ (os : List (Option (List Itm))) (n : Nat), firstBad os n = ((List.range os.length).filterMap fun i => (os[i]?).bind fun o => if evGood o = true then none else some (n + i)).head?
  | [], n => rfl
  | o :: os, n => by
    show (if evGood o = true then firstBad os (n + 1) else some n) = _
    rw [List.length_cons, List.range_succ_eq_map, List.filterMap_cons]
    by_cases g : evGood o = true
    · rw [if_pos g, fb_head os (n + 1)]
      simp only [List.getElem?_cons_zero, Option.bind_some, g, if_true, List.filterMap_map]
      congr 1
      refine congrArg (fun f => List.filterMap f (List.range os.length)) (funext fun i => ?_)
      simp only [Function.comp_def, List.getElem?_cons_succ]
      rw [show n + 1 + i = n + i.succ by omega]
    · rw [if_neg g]
      simp [g]
theorem due_i {H : Hp} {v : V} {o : Option (List Itm)} {C : VK} {E : XK} (h : DrA H v o) (q : ∀ H', Same H H' → C (.bl (evGood o)) H') : spDue K ([v] ++ []) H C E := by
  cases o with
  | some its =>
    obtain ⟨p, vs, rfl, hp, pr, dr, hl⟩ := h
    refine ⟨_, rfl, .inl ⟨p, vs, its, rfl, hp, pr, fun it hi => Itm.dr_ok (dr it hi), hl, fun H' s => ?_⟩⟩
    rw [← due_eq dr]
    exact q H' s
  | none =>
    obtain ⟨it, a, b, _⟩ := h
    exact ⟨_, rfl, .inr ⟨fun H' s => (a.same s).notT b, q⟩⟩
/-- what is drawn for a log -/
def LinesD (H : Hp) (x : V) : Prop := (∃ b p vs os, x = .ref p ∧ H p = some (sq b vs) ∧ Paired (DrA H) vs os ∧ vs.length ≤ 40) ∨ (∃ it : Itm, it.At H x ∧ (∀ xs, it ≠ .tu xs) ∧ ∀ xs, it ≠ .ls xs)
theorem paired_ev {H : Hp} {vs : List V} {os : List (Option (List Itm))} (h : Paired (DrA H) vs os) : Paired (EvAt K H) vs os := h.mono fun _ _ h => h.ev
theorem paired_int {H : Hp} : ∀ {vs : List V} {os : List (Option (List Itm))}, Paired (DrA H) vs os → ∀ its, some its ∈ os → ∀ it ∈ its, IntIn it
  | _, _, .nil, _, h => nomatch h
  | _, _, .cons h t, its, hi => by
    rcases List.mem_cons.mp hi with e | hi
    · subst e
      obtain ⟨p, vs, _, _, _, dr, _⟩ := h
      exact fun it hi => Itm.dr_int (dr it hi)
    · exact paired_int t its hi
end

end L75
namespace L75
open PySem PySem.Spec PyProof.Rows L2
variable {gd : Bool}
local macro_rules | `(tactic| walk_at "y1") => `(tactic| with_reducible first
  | refine tSeq_i ?_ | refine tAsg_i ?_ | refine tCons_i ?_ | refine tNil_i ?_ | refine tC_i ?_ | refine tOp_i ?_ | refine tIfS_i ?_ | refine tTest_i ?_ | refine exBl_i ?_ | refine tRet_i ?_ | refine tCall_i ?_
  | refine tCB_i ?_ | refine tLst_i ?_ | refine tTup_i ?_ | refine rI0_i ?_ | refine tDrop_i ?_ | refine tNext_i ?_ | refine tB_i ?_ | refine tAnd_i ?_ | refine tOr_i ?_ | refine tNot_i ?_ | refine tAndV_i ?_ | refine tOrV_i ?_ | refine tNotV_i ?_
  | refine tYes_i ?_ | refine tTM_i ?_ | refine tPar_i ?_ | refine tSl_i ?_ | refine tNoPart_i ?_ | refine tPart_i ?_ | refine part_i ?_ | refine tMake_i ?_ | refine tProp_i ?_ | refine tCallOG_i ?_ | refine tVeI_i ?_ | refine tOst_i ?_ | refine tMkO_i ?_ | refine sFld_i ?_ | refine fldaug_i ?_ | refine gCons_i ?_ | refine gNil_i ?_ | refine tChain_i ?_ | refine tBM_i ?_ | refine rAdd2_i ?_ | refine rLe2_i ?_ | refine rEq2_i ?_ | refine rEq2_ss ?_ | refine rNe2_i ?_ | refine rNe2_ss ?_ | refine rIsN_i ?_ | refine rNotN_i ?_ | refine tTup_i2 ?_ | refine tIf_i ?_ | refine tUn_i ?_ | refine tDGet_i ?_ | refine sDPut_i ?_ | refine tFld_i ?_ | refine tRetN_i ?_ | refine tBreak_i ?_ | refine tCont_i ?_ | refine rU_i ?_)
local macro_rules | `(tactic| walk_at "yhead") => `(tactic| dsimp only [L2.start, List.map, List.length_cons, List.length_nil, Nat.reduceAdd, Nat.reduceSub, List.replicate, List.cons_append, List.nil_append])
local macro_rules | `(tactic| walk_at "y2") => `(tactic| first
  | walk_at "y1"
  | ((with_reducible refine tVar_i (v := ?v) ?h ?q); (case h => rfl))
  | ((with_reducible refine gName_i ?_); (dsimp only [L2.wipe, List.set]))
  | with_reducible refine iteT ?_ | with_reducible refine iteF ?_ | with_reducible refine iteNT ?_ | with_reducible refine iteNF ?_
  | ((with_reducible refine iteDT ?h ?q); (case h => first | decide +kernel | omega | assumption | exact nv1 | exact nv2 | exact nv3 | exact nv4)) | ((with_reducible refine iteDF ?h ?q); (case h => first | decide +kernel | omega | assumption | exact nv1 | exact nv2 | exact nv3 | exact nv4))
  | ((with_reducible refine iteNDT ?h ?q); (case h => first | decide +kernel | omega | assumption | exact nv1 | exact nv2 | exact nv3 | exact nv4)) | ((with_reducible refine iteNDF ?h ?q); (case h => first | decide +kernel | omega | assumption | exact nv1 | exact nv2 | exact nv3 | exact nv4))
  | ((with_reducible refine rIsi2_1 (T := ?T) (b := true) ?ty ?h ?q); (case ty => first | exact ty_str | exact ty_int | exact ty_bl | exact ty_non); (case h => decide +kernel))
  | ((with_reducible refine rIsi2_1 (T := ?T) (b := false) ?ty ?h ?q); (case ty => first | exact ty_str | exact ty_int | exact ty_bl | exact ty_non); (case h => decide +kernel))
  | ((with_reducible refine rEq2_s ?h ?q); (case h => rfl)) | ((with_reducible refine rNe2_s ?h ?q); (case h => rfl))
  | ((with_reducible refine rEq_i ?h ?q); (case h => rfl)) | ((with_reducible refine rNe_i ?h ?q); (case h => rfl)))
local macro_rules | `(tactic| walk_at "y") => `(tactic| repeat walk_at "y2")

open LamX
section
variable {P : Program} {w : World} {K : PySem.W.Frag} {mg : Str → Option Value} {base : Heap}
theorem extN_of {H H' : Hp} (s : Same H H') : ExtN H H' := fun b o e _ => s b o e
theorem rAdd2_g {H : Hp} {a b : Addr} {xs zs : List V} {Q : VK} (h1 : H a = some (.lst xs)) (h2 : H b = some (.lst zs)) (hz : xs.length + zs.length ≤ 100) (q : ∀ p H', H p = none → Same H H' → H' p = some (.lst (xs ++ zs)) → Q (.ref p) H') : rAdd2 K (.ref a) (.ref b) H Q :=
  rAdd2_l h1 h2 (Nat.le_trans hz (sz4 (n := 100))) fun p hp => q p _ hp (same_upd hp) upd_same
theorem tabs_l {T : List (Addr × Str)} {H H' : Hp} {p : Addr} {xs : List V} (s : ∀ b, b ≠ p → H' b = H b) (hp : H p = some (.lst xs)) (t : Tabs T H) : Tabs T H' := fun q hq => by
  obtain ⟨ps, h1, h2, h3⟩ := t q hq
  refine ⟨ps, (s _ (fun z => by rw [z, hp] at h1; cases h1)).trans h1, h2, fun pos cv hc => ?_⟩
  obtain ⟨c, e1, e2⟩ := h3 pos cv hc
  exact ⟨c, e1, (s _ (fun z => by rw [z, hp] at e2; unfold CodeO at e2; cases e2)).trans e2⟩
theorem DueV.app {H H' : Hp} {o : Option V} {v : V} {p : Addr} {xs : List V} (h : DueV H o v) (hp : H p = some (.lst xs)) (n : xs.length ≠ 1) (s : ∀ b, b ≠ p → H' b = H b) : DueV H' o v := by
  cases o with
  | none => exact h
  | some iv =>
    obtain ⟨D, rfl, e⟩ := h
    exact ⟨D, rfl, (s D (fun z => by rw [z, hp] at e; cases e; exact n rfl)).trans e⟩
theorem ext_app {H H' H2 : Hp} {p : Addr} (x : ExtN H H') (hp : ∀ o, H p = some o → (∀ ps, o ≠ .tbl ps) → False) (s : ∀ b, b ≠ p → H2 b = H' b) : ExtN H H2 := fun b o e n => by
  by_cases h : b = p
  · subst h; exact (hp o e n).elim
  · exact (s b h).trans (x b o e n)
theorem rMul2_l {H : Hp} {a : Addr} {xs : List V} {k : Int} {Q : VK} (h : H a = some (.lst xs)) (k0 : 0 ≤ k) (k1 : k ≤ 100) (hl : xs.length ≤ 100) (q : ∀ p H', H p = none → Same H H' → H' p = some (.lst (List.replicate k.toNat xs).flatten) → Q (.ref p) H') : rMul2 K (.ref a) (.int k) H Q :=
  .inr ⟨a, k, xs, rfl, rfl, h, by omega, by omega, by rw [sizeLine_eq]; exact Nat.le_trans (Nat.mul_le_mul hl (show k.toNat ≤ 100 by omega)) (by decide), fun p hp => q p _ hp (same_upd hp) upd_same⟩
theorem noStopVE {C : Addr} (h : OexC K C) : PySem.W.subIn K (.ref C) (.type "StopIteration") = some false := by
  obtain ⟨nm, q, N, bs, bm, sn, sub, ab, col, dd, k0, k1, k2, k3, k5, e, r⟩ := h.cls
  show PySem.W.mroIn K C _ = _
  unfold PySem.W.mroIn PySem.W.clsIn
  rw [e]
  simp only [excClassObj, Option.bind_some, List.isEmpty_cons, Bool.false_eq_true, if_false]
  rw [List.contains_cons, PySem.HandSPX.refsVE_contains _ _ r]
  rfl
def spLogR (K : PySem.W.Frag) : Sp := sp1 fun x H Q _ => LinesD H x ∧ Tabs (TL K) H ∧ ∀ H', ExtN H H' → Tabs (TL K) H' → Q (.bl true) H'
theorem sc__law_log_right : FnScope ["_law_lines", "_law_due", "_law_at", "_law_item", "_law_wrong", "_law_told"] ["_law_lines"] (defScope (top 51)) := ⟨rfl, rfl, rfl, by decide +kernel, rfl, by decide +kernel, by decide +kernel⟩
theorem c__law_log_right (T : Sy K mg) (TB : TabB base mg (He.cT K refAt).1 (He.cT K refAt).2) : Cal true P w K mg base CX0 14 "_law_log_right" (spLogR K) := by
  obtain ⟨fd, F⟩ := F_law_log_right T
  obtain ⟨fN, fdN, FN, mN, kN, bN, _⟩ := g_notes (P := P) (w := w) (base := base) T
  have hPb : ∀ c, c = Value.ref (He.ga K "BadLog") → PySem.W.subIn K c (.type "StopIteration") = some false := fun c e => by
    subst e
    exact noStopVE T.xF.bl.o
  refine ⟨_, fd, ["_law_lines"], FnG.bodyC (at_ := refAt) F sc__law_log_right sp1_len (fun cdv A outer s H vs Q E hcd z h => ?_), T.glo "_law_log_right", F.kp, F.bindsN (fun _ _ _ _ _ _ us hl => match us, hl with | [_], _ => rfl)⟩
  refine qt ?_
  have hu1 := hu_1 z; have hu2 := hu_2 z; have hu3 := hu_3 z
  obtain ⟨x, rfl, ld, tb, q⟩ := h
  refine ⟨_, (pss_cons (ps_set (i := 1) sc__law_log_right.nd rfl (by first | exact Or.inl rfl | exact Or.inr rfl) pe_str) (pss_cons (ps_if (pt_not (pt_val (pe_callB (r := rIsi2 K) call_isi2 (by rfl) (T.free "isinstance") (by decide +kernel) (pa_cons (pv 0) (pa_cons (pe_tup (pa_cons (pe_bltn (v := .ty "list") (u := .type "list") (by rfl) (T.free "list") (by decide +kernel) rfl) (pa_cons (pe_bltn (v := .ty "tuple") (u := .type "tuple") (by rfl) (T.free "tuple") (by decide +kernel) rfl) pa_nil))) pa_nil))))) (pss_one (ps_set (i := 1) sc__law_log_right.nd rfl (by first | exact Or.inl rfl | exact Or.inr rfl) (pe_lst (pa_cons pe_non pa_nil)))) (pss_cons (ps_setLc (i := 4) (own := [("_law_at", 2), ("_law_item", 3)]) (g := gTup K 2 (gCons (gName 2) (gCons (gName 3) gNil))) (by rfl) sc__law_log_right.nd rfl rfl (sw_true rfl rfl rfl (by decide +kernel)) (pi_enum2K (K := K) rfl (by rfl) (T.free "enumerate") (pv 0)) (blkOk_by (own := [("_law_at", 2), ("_law_item", 3)]) (N := ["_law_lines", "_law_due", "_law_at", "_law_item", "_law_wrong", "_law_told"]) (sc := (defScope (top 51))) (by decide +kernel)) (fun _ _ _ _ _ => (pg_tupK (K := K) rfl (by rfl) (pgs_cons (pg_name (i := 2) sc__law_log_right.nd rfl (by first | exact Or.inl rfl | exact Or.inr rfl)) (pgs_cons (pg_name (i := 3) sc__law_log_right.nd rfl (by first | exact Or.inl rfl | exact Or.inr rfl)) pgs_nil)))) (fun _ _ _ _ _ => pts_one (pt_not (pt_val (pe_c (c__law_is_due T) z (pa_cons (pv 3) pa_nil))))) (fun _ _ _ _ _ => (pv 2))) (pss_one (ps_set (i := 1) sc__law_log_right.nd rfl (by first | exact Or.inl rfl | exact Or.inr rfl) (pe_ifExp (pt_cmpR (r := rNe2 K) (op_ne2 hu1) (pv 4) (pe_lst pa_nil) (nomark _)) (pe_lst (pa_cons (pe_ix (r := rGet K) (ix_get hu3) (pv 4) pe_int (fun _ _ => rfl)) pa_nil)) pe_str))))) (pss_cons (ps_set (i := 5) sc__law_log_right.nd rfl (by first | exact Or.inl rfl | exact Or.inr rfl) (pe_lst (pa_cons (pe_lam0 (T := TL K) (giver_word T z _) TB hcd TL_mem TL_u z.r (lamD_by (by kernel_rfl)) (fun A outer s H E f c' hr => pe_cX (c_check_log (gd := false) T) ⟨hr, fun e => nomatch e⟩ (passes_call (takes_of rfl rfl rfl rfl) (fun _ _ _ _ h => h)) (pa_cons (pv 0) pa_nil))) (pa_cons (pe_lamD (T := TL K) (a0 := "_law_x") (giver_word T z _) TB hcd TL_mem TL_u z.r (lamD_by (by kernel_rfl)) (fun A outer s H E f c' hr => pe_cX (c_spans (gd := false) T) ⟨hr, fun e => nomatch e⟩ (passes_call (takes_of rfl rfl rfl rfl) (fun _ _ _ _ h => h)) (pa_cons (pv 0) pa_nil)) (by kernel_rfl) (fun _ _ _ _ _ _ _ => ⟨_, rfl, fun _ => rfl⟩)) pa_nil)))) (pss_cons (ps_set (i := 5) sc__law_log_right.nd rfl (by first | exact Or.inl rfl | exact Or.inr rfl) (pe_op (r := rAdd2 K) op_add2 (pv 5) (pe_lst (pa_cons (pe_lam0 (T := TL K) (giver_word T z _) TB hcd TL_mem TL_u z.r (lamD_by (by kernel_rfl)) (fun A outer s H E f c' hr => pe_cX (c_flaws (gd := false) T) ⟨hr, fun e => nomatch e⟩ (passes_call (takes_of rfl rfl rfl rfl) (fun _ _ _ _ h => h)) (pa_cons (pv 0) pa_nil))) (pa_cons (pe_lamD (T := TL K) (a0 := "_law_x") (giver_word T z _) TB hcd TL_mem TL_u z.r (lamD_by (by kernel_rfl)) (fun A outer s H E f c' hr => pe_cX (c_never_shut (gd := false) T) ⟨hr, fun e => nomatch e⟩ (passes_call (takes_of rfl rfl rfl rfl) (fun _ _ _ _ h => h)) (pa_cons (pv 0) pa_nil)) (by kernel_rfl) (fun _ _ _ _ _ _ _ => ⟨_, rfl, fun _ => rfl⟩)) pa_nil))))) (pss_cons (ps_expr (pe_bmK (K := K) rfl PySem.F.plainAttrs_list PySem.F.slot_list_append PySem.F.type_list_append mt_append2 (pv 5) (pa_cons (pe_lam0 (T := TL K) (giver_word T z _) TB hcd TL_mem TL_u z.r (lamD_by (by kernel_rfl)) (fun A outer s H E f c' hr => pe_cX (c_most_open (gd := false) T) ⟨hr, fun e => nomatch e⟩ (passes_call (takes_of rfl rfl rfl rfl) (fun _ _ _ _ h => h)) (pa_cons (pv 0) pa_nil))) pa_nil))) (pss_cons (ps_set (i := 5) sc__law_log_right.nd rfl (by first | exact Or.inl rfl | exact Or.inr rfl) (pe_op (r := rAdd2 K) op_add2 (pv 5) (pe_lst (pa_cons (pe_lam0 (T := TL K) (giver_word T z _) TB hcd TL_mem TL_u z.r (lamD_by (by kernel_rfl)) (fun A outer s H E f c' hr => pe_cX (c_crossings (gd := false) T) ⟨hr, fun e => nomatch e⟩ (passes_call (takes_of rfl rfl rfl rfl) (fun _ _ _ _ h => h)) (pa_cons (pv 0) pa_nil))) (pa_cons (pe_lamD (T := TL K) (a0 := "_law_x") (giver_word T z _) TB hcd TL_mem TL_u z.r (lamD_by (by kernel_rfl)) (fun A outer s H E f c' hr => pe_cX (c_audit (gd := false) T) ⟨hr, fun e => nomatch e⟩ (passes_call (takes_of rfl rfl rfl rfl) (fun _ _ _ _ h => h)) (pa_cons (pv 0) (pa_cons (pe_tup pa_nil) pa_nil))) (by kernel_rfl) (fun _ _ _ _ _ _ _ => ⟨_, rfl, fun _ => rfl⟩)) pa_nil))))) (pss_cons (ps_if (PW.pt (pw_or (pt_cmpR (r := rNe2 K) (op_ne2 hu1) (pv 5) (pe_op (r := rMul2 K) op_mul2 (pe_lst (pa_cons (pv 1) pa_nil)) pe_int) (nomark _)) (pw_or1 (pt_cmpR (r := rNe2 K) (op_ne2 hu1) (pe_lam0 (T := TL K) (giver_word T z _) TB hcd TL_mem TL_u z.r (lamD_by (by kernel_rfl)) (fun A outer s H E f c' hr => pe_lz (by rfl) (T.free "list") (by rfl) (T.free "zip") (pa_cons (pe_callTy cr_range1 (by rfl) (T.free "range") (by decide +kernel) (pa_cons pe_int pa_nil)) (pa_cons (pe_genE FN (hr.mono (by decide)) (by rfl) mN kN bN .nil (pa_cons (pv 0) (pa_cons pe_non pa_nil))) pa_nil)))) pe_str (nomark _))))) (pss_one (ps_ret pe_bl)) pss_nil) (pss_one (ps_ret (pe_or (pe_cmpR (r := rEq2 K) (op_eq2 hu1) (pv 1) pe_str (nomark _)) (pe_one (pe_cmpR (r := rEq2 K) (op_eq2 hu1) (pe_lam0 (T := TL K) (giver_word T z _) TB hcd TL_mem TL_u z.r (lamD_by (by kernel_rfl)) (fun A outer s H E f c' hr => pe_listGS FN (takes_of rfl rfl rfl rfl) (P := fun c => c = .ref (He.ga K "BadLog")) hPb hr (by rfl) (T.free "list") (by rfl) (by rfl) mN kN bN .nil (pa_cons (pv 0) (pa_cons pe_non pa_nil)))) (pv 1) (nomark _))))))))))))), ?_⟩
  walk_at "yhead"; walk_at "y"
  -- what is due
  have due : ∀ (D : Ends) (H1 : Hp) (T1 : Addr), Same H H1 → H1 T1 = some (.tup [.ty "list", .ty "tuple"]) →
      (∀ o v H2 a b c, LinesR K H2 x o → flatI o → DueV H2 o v → Same H H2 → D.nx [some x, some v, a, b, c, none] H2) →
      rIsi2 K [x, .ref T1] H1 fun y H' => ∃ k, y = .bl k ∧ if (!k) = true then (tAsg (tLst (tCons (tC .non) tNil)) (gName 1)) D [some x, some (.str "nothing"), none, none, none, none] H' else
        tSeq (tAsg (tLc (iEnum2 K (tVar 0)) (gTup K 2 (gCons (gName 2) (gCons (gName 3) gNil))) (tNot (tB (tCall (spDue K) [] E0 (tCons (tVar 3) tNil)))) (tVar 2) [2, 3]) (gName 4))
          (tAsg (tIf (tTest (tOp (rNe2 K) (tVar 4) (tLst tNil))) (tLst (tCons (tOp (rGet K) (tVar 4) (tC (.int 0))) tNil)) (tC (.str "nothing"))) (gName 1)) D [some x, some (.str "nothing"), none, none, none, none] H' := fun D H1 T1 s1 e1 hN => by
    rcases ld with ⟨b, p, vs, os, rfl, hp, pr, hl⟩ | ⟨it, ia, i1, i2⟩
    rotate_left
    · obtain ⟨U, ty, e3, e4⟩ := (ia.same s1).notLT (K := K) i1 i2
      refine rIsi2_2 (b := false) (b2 := false) ty e1 e3 e4 ?_
      refine ⟨_, rfl, ?_⟩
      walk_at "y"
      refine ⟨sz4 (by simp), fun L1 nL1 => ?_⟩
      have sH2 := same_upd (H := H1) (o := .lst [.non]) nL1
      have eL1 := upd_same (H := H1) (a := L1) (o := .lst [.non])
      generalize upd H1 L1 (.lst [.non]) = H2 at sH2 eL1 ⊢
      walk_at "y"
      exact hN (some .non) _ H2 _ _ _ (.inr ⟨it, (ia.same s1).same sH2, i1, i2, rfl⟩) (.inl rfl) ⟨L1, rfl, eL1⟩ (s1.trans sH2)
    have hp1 := s1 _ _ hp
    have i2 : ∀ {Q' : VK}, Q' (.bl true) H1 → rIsi2 K [.ref p, .ref T1] H1 Q' := fun q => by
      cases b
      · exact rIsi2_2 (b := false) (b2 := true) (ty_tup hp1) e1 (by decide +kernel) (by decide +kernel) q
      · exact rIsi2_2 (b := true) (b2 := false) (ty_lst hp1) e1 (by decide +kernel) (by decide +kernel) q
    refine i2 ?_
    refine ⟨_, rfl, ?_⟩
    walk_at "y"
    refine lc_eb b ?_
    walk_at "y"
    have lvo : vs.length = os.length := pr.length
    refine ⟨p, vs, rfl, SqB.of hp1, lc_pure (walk_eb (b := b)) (Nat.le_trans hl sz4) (fun i => (os[i]?).bind fun o => if evGood o = true then none else some i) (firm_FR fun i : Nat => V.int i) (fun H' s => s _ _ hp1) (fun i H0 y H2 yy => by obtain ⟨tt, v1, v2, rfl, ht, rfl, _⟩ := yy; exact same_upd ht) (fun i y H0 H2 hi s0 s2 yy N C hC hN => ?_) fun D1 H2 ws hD s2 h2 pr2 => ?_⟩
    · obtain ⟨tt, v1, v2, rfl, ht, rfl, e3, e4⟩ := yy
      cases e3
      refine gTup_i (SqT.of upd_same) ?_
      obtain ⟨o, e5, da⟩ := paired_of pr e4
      have da2 := da.same (s1.trans s2)
      walk_at "y"
      refine ⟨rfl, ?_⟩
      walk_at "y"
      refine due_i da2 fun H4 s4 => ⟨_, rfl, ?_⟩
      cases g : evGood o with
      | true =>
        walk_at "y"
        exact hN (by rw [e5]; simp [g]) _ s4
      | false =>
        walk_at "y"
        exact hC _ _ i s4 (by rw [e5]; simp [g]) rfl
    · rw [paired_FR pr2, lvo] at h2
      have fb := fb_head os 0
      simp only [Nat.zero_add] at fb
      have hb : ∀ j ∈ ((List.range os.length).filterMap fun i => (os[i]?).bind fun o => if evGood o = true then none else some i), j ≤ 1000 := fun j hm => by
        obtain ⟨k, hk, ek⟩ := List.mem_filterMap.mp hm
        have hk2 := List.mem_range.mp hk
        cases eo : os[k]? with
        | none => rw [eo] at ek; cases ek
        | some oo =>
          rw [eo, Option.bind_some] at ek
          split at ek
          · cases ek
          · cases ek; omega
      have hs12 := s1.trans s2
      have lnw : ((List.range os.length).filterMap fun i => (os[i]?).bind fun o => if evGood o = true then none else some i).length ≤ 40 := Nat.le_trans (List.length_filterMap_le ..) (by simp; omega)
      generalize ((List.range os.length).filterMap fun i => (os[i]?).bind fun o => if evGood o = true then none else some i) = wr at fb hb h2 lnw
      walk_at "y"
      refine ⟨sz4 (by simp), fun L0 nL0 => ?_⟩
      have sH3 := same_upd (H := H2) (o := .lst []) nL0
      have eL0 := upd_same (H := H2) (a := L0) (o := .lst [])
      generalize upd H2 L0 (.lst []) = H3 at sH3 eL0 ⊢
      have smw : (wr.map fun i : Nat => V.int i).all smV = true := List.all_eq_true.mpr fun v hv => by
        obtain ⟨j, hj, rfl⟩ := List.mem_map.mp hv
        have := hb j hj
        exact sm_int (by omega)
      refine rNe2_d (dp_lst (SqL.of (sH3 _ _ h2)) (all_pl smw)) (dp_lst (SqL.of eL0) rfl) (sm_lst smw).shaped (by decide +kernel) ?_
      rw [show PyData.eqv (.list ((wr.map fun i : Nat => V.int i).map vD)) (.list (([] : List V).map vD)) = wr.isEmpty by rw [List.map_nil, eqv_nil]; cases wr <;> rfl]
      cases wr with
      | nil =>
        dsimp only [List.isEmpty_nil]
        walk_at "y"
        obtain ⟨es, lg⟩ := log_of (K := K) (hs12.trans sH3 _ _ hp) (paired_ev (pr.mono fun v o h => h.same (hs12.trans sH3))) fb (paired_int pr) (by omega)
        exact hN none _ H3 _ _ _ ⟨b, p, es, rfl, lg⟩ trivial rfl (hs12.trans sH3)
      | cons j js =>
        dsimp only [List.isEmpty_cons]
        walk_at "y"
        refine rGet_l (n := 0) (SqL.of (sH3 _ _ h2)) rfl ?_
        walk_at "y"
        refine ⟨sz4 (by simp), fun L1 nL1 => ?_⟩
        have sH4 := same_upd (H := H3) (o := .lst [.int j]) nL1
        have eL1 := upd_same (H := H3) (a := L1) (o := .lst [.int j])
        generalize upd H3 L1 (.lst [.int j]) = H4 at sH4 eL1 ⊢
        walk_at "y"
        have s14 := hs12.trans (sH3.trans sH4)
        exact hN (some (.int j)) _ H4 _ _ _ (.inl ⟨b, p, vs, os, j, rfl, s14 _ _ hp, paired_ev (pr.mono fun v o h => h.same s14), fb, rfl⟩) (.inr ⟨j, rfl, hb j (List.mem_cons_self ..)⟩) ⟨L1, rfl, eL1⟩ s14
  refine ⟨sz4 (by simp), fun T1 nT1 => ?_⟩
  have sH1 := same_upd (H := H) (o := .tup [.ty "list", .ty "tuple"]) nT1
  have eT1 := upd_same (H := H) (a := T1) (o := .tup [.ty "list", .ty "tuple"])
  generalize upd H T1 (.tup [.ty "list", .ty "tuple"]) = H1 at sH1 eT1 ⊢
  walk_at "y"
  refine due _ H1 T1 sH1 eT1 fun o vd H2 a b c lr fo dv s2 => ?_
  clear due
  have tb2 := tabs_same s2 tb
  have xq : ∀ {H' : Hp}, ExtN H2 H' → Tabs (TL K) H' → Q (.bl true) H' := fun x t => q _ ((extN_of s2).trans x) t
  clear tb s2 ld sH1 eT1
  walk_at "y"
  refine ⟨tb2, fun H3 x3 tb3 E1 Q1 hE hN => ?_⟩
  walk_at "y"
  refine st_check (lr.ext x3) hE hN fun w1 H4 s4 d1 => ?_
  clear hE hN
  replace x3 := x3.trans (extN_of s4)
  replace tb3 := tabs_same s4 tb3
  walk_at "y"
  refine ⟨tb3, fun H5 x5 tb5 E1 Q1 hE hN => ?_⟩
  walk_at "y"
  refine st_spans (lr.ext (x3.trans x5)) hE hN fun w2 H6 s6 d2 => ?_
  clear hE hN
  replace x5 := x5.trans (extN_of s6)
  replace tb5 := tabs_same s6 tb5
  replace d1 := d1.ext x5
  replace x3 := x3.trans x5
  walk_at "y"
  refine ⟨sz4 (by simp), fun A1 nA1 => ?_⟩
  have sH7 := same_upd (H := H6) (o := .lst [w1, w2]) nA1
  have eA1 := upd_same (H := H6) (a := A1) (o := .lst [w1, w2])
  generalize upd H6 A1 (.lst [w1, w2]) = H7 at sH7 eA1 ⊢
  replace tb5 := tabs_same sH7 tb5
  replace d1 := d1.ext (extN_of sH7)
  replace d2 := d2.ext (extN_of sH7)
  replace x3 := x3.trans (extN_of sH7)
  walk_at "y"
  refine ⟨tb5, fun H8 x8 tb8 E1 Q1 hE hN => ?_⟩
  walk_at "y"
  refine st_flaws (lr.ext (x3.trans x8)) hE hN fun w3 H9 s9 d3 => ?_
  clear hE hN
  replace x8 := x8.trans (extN_of s9)
  replace tb8 := tabs_same s9 tb8
  walk_at "y"
  refine ⟨tb8, fun HA xA tbA E1 Q1 hE hN => ?_⟩
  walk_at "y"
  refine st_never (lr.ext ((x3.trans x8).trans xA)) hE hN fun w4 HB sB d4 => ?_
  clear hE hN
  replace xA := xA.trans (extN_of sB)
  replace tbA := tabs_same sB tbA
  replace d3 := d3.ext xA
  walk_at "y"
  refine ⟨sz4 (by simp), fun A2 nA2 => ?_⟩
  have sHC := same_upd (H := HB) (o := .lst [w3, w4]) nA2
  have eA2 := upd_same (H := HB) (a := A2) (o := .lst [w3, w4])
  generalize upd HB A2 (.lst [w3, w4]) = HC at sHC eA2 ⊢
  have x7C := (x8.trans xA).trans (extN_of sHC)
  refine rAdd2_g (x7C _ _ eA1 (fun _ z => nomatch z)) eA2 (by simp) fun A3 HD nA3 sD eA3 => ?_
  have f3 : ∀ o, H2 A3 = some o → (∀ ps, o ≠ .tbl ps) → False := fun o e n => by rw [(x3.trans x7C) _ _ e n] at nA3; cases nA3
  replace tbA := tabs_same (sHC.trans sD) tbA
  replace x7C := x7C.trans (extN_of sD)
  replace d1 := d1.ext x7C
  replace d2 := d2.ext x7C
  replace d3 := d3.ext (extN_of (sHC.trans sD))
  replace d4 := d4.ext (extN_of (sHC.trans sD))
  replace x3 := x3.trans x7C
  walk_at "y"
  refine ⟨tyL eA3, ?_⟩
  walk_at "y"
  refine ⟨tbA, fun HE xE tbE E1 Q1 hE hN => ?_⟩
  walk_at "y"
  refine st_most (lr.ext (x3.trans xE)) hE hN fun w5 HF sF d5 => ?_
  clear hE hN
  replace xE := xE.trans (extN_of sF)
  replace tbE := tabs_same sF tbE
  walk_at "y"
  refine appU_i (xE _ _ eA3 (fun _ z => nomatch z)) (Nat.lt_of_lt_of_le (show 4 < 5 by decide) (sz4 (n := 5))) fun HG eA4 uG => ?_
  have eAF := xE _ _ eA3 (fun _ z => nomatch z)
  have xG : ExtN H2 HG := ext_app (x3.trans xE) f3 uG
  have tbG : Tabs (TL K) HG := tabs_l uG eAF tbE
  replace d1 := (d1.ext xE).app eAF (by simp) uG
  replace d2 := (d2.ext xE).app eAF (by simp) uG
  replace d3 := (d3.ext xE).app eAF (by simp) uG
  replace d4 := (d4.ext xE).app eAF (by simp) uG
  replace d5 := d5.app eAF (by simp) uG
  walk_at "y"
  refine ⟨tbG, fun HI xI tbI E1 Q1 hE hN => ?_⟩
  walk_at "y"
  refine st_cross (lr.ext (xG.trans xI)) hE hN fun w6 HJ sJ d6 => ?_
  clear hE hN
  replace xI := xI.trans (extN_of sJ)
  replace tbI := tabs_same sJ tbI
  walk_at "y"
  refine ⟨tbI, fun HK xK tbK E1 Q1 hE hN => ?_⟩
  walk_at "y"
  refine ⟨sz4 (by simp), fun U1 nU1 => ?_⟩
  have sHL := same_upd (H := HK) (o := .tup []) nU1
  have eU1 := upd_same (H := HK) (a := U1) (o := .tup [])
  generalize upd HK U1 (.tup []) = HL at sHL eU1 ⊢
  walk_at "y"
  refine st_audit eU1 (lr.ext ((xG.trans xI).trans (xK.trans (extN_of sHL)))) hE hN fun w7 HM sM d7 => ?_
  clear hE hN
  replace xK := xK.trans (extN_of (sHL.trans sM))
  replace tbK := tabs_same (sHL.trans sM) tbK
  replace d6 := d6.ext xK
  walk_at "y"
  refine ⟨sz4 (by simp), fun A5 nA5 => ?_⟩
  have sHN := same_upd (H := HM) (o := .lst [w6, w7]) nA5
  have eA5 := upd_same (H := HM) (a := A5) (o := .lst [w6, w7])
  generalize upd HM A5 (.lst [w6, w7]) = HN at sHN eA5 ⊢
  replace xK := (xI.trans xK).trans (extN_of sHN)
  refine rAdd2_g (xK _ _ eA4 (fun _ z => nomatch z)) eA5 (by simp) fun A6 HO _ sO eA6 => ?_
  replace tbK := tabs_same (sHN.trans sO) tbK
  replace xK := xK.trans (extN_of sO)
  replace d1 := d1.ext xK
  replace d2 := d2.ext xK
  replace d3 := d3.ext xK
  replace d4 := d4.ext xK
  replace d5 := d5.ext xK
  replace d6 := d6.ext (extN_of (sHN.trans sO))
  replace d7 := d7.ext (extN_of (sHN.trans sO))
  replace dv := dv.ext (xG.trans xK)
  replace xG := xG.trans xK

  walk_at "y"
  refine ⟨sz4 (by simp), fun A7 nA7 => ?_⟩
  have sHP := same_upd (H := HO) (o := .lst [vd]) nA7
  have eA7 := upd_same (H := HO) (a := A7) (o := .lst [vd])
  generalize upd HO A7 (.lst [vd]) = HP at sHP eA7 ⊢
  walk_at "y"
  refine rMul2_l eA7 (by decide) (by decide) (by simp) fun A8 HQ _ sQ eA8 => ?_
  have sPQ := sHP.trans sQ
  replace xG := xG.trans (extN_of sPQ)
  replace tbK := tabs_same sPQ tbK
  have k6 := sPQ _ _ eA6
  have ee : ∀ {w : V}, DueV HO o w → Dp K HQ w (DueD o) := fun d => (d.ext (extN_of sPQ)).dp fo
  have D1 : Dp K HQ (.ref A6) (.list (List.replicate 7 (DueD o))) := .lst (SqL.of k6) (.cons (ee d1) (.cons (ee d2) (.cons (ee d3) (.cons (ee d4) (.cons (ee d5) (.cons (ee d6) (.cons (ee d7) .nil)))))))
  have D2 : Dp K HQ (.ref A8) (.list (List.replicate 7 (DueD o))) := .lst (SqL.of eA8) (.cons (ee dv) (.cons (ee dv) (.cons (ee dv) (.cons (ee dv) (.cons (ee dv) (.cons (ee dv) (.cons (ee dv) .nil)))))))
  have sh : SeqAt.shaped (.list (List.replicate 7 (DueD o))) = true := (Sm.list (n := 1) (b := 100) fun d hd => by rw [List.eq_of_mem_replicate hd]; exact dueD_sm fo).shaped
  refine rNe2_d D1 D2 sh sh ?_
  rw [show PyData.eqv (.list (List.replicate 7 (DueD o))) (.list (List.replicate 7 (DueD o))) = true by
    have e := dueD_eqv (o := o)
    simp only [List.replicate, PyData.eqv, PyData.eqvAll, e, Bool.and_true, Bool.and_self]]
  replace dv := dv.ext (extN_of sPQ)
  clear D1 D2 sh ee d1 d2 d3 d4 d5 d6 d7
  walk_at "y"
  refine ⟨tbK, fun HR xR tbR E1 Q1 hE hN => ?_⟩
  show tLZ _ _ _ _
  dsimp only [tLZ]
  walk_at "y"
  refine ⟨0, rfl, fun r0 nr0 => ?_⟩
  have sS := same_upd (o := L2.HO.rng 0 0) nr0
  have er := upd_same (H := HR) (a := r0) (o := L2.HO.rng 0 0)
  generalize upd HR r0 (L2.HO.rng 0 0) = HS at sS er ⊢
  have lrS := lr.ext (xG.trans (xR.trans (extN_of sS)))
  walk_at "y"
  dsimp only [tGenE]
  walk_at "y"
  refine ⟨st_gen lrS, fun g0 ng0 => ?_⟩
  have sT := same_upd (o := genO g0) ng0
  have eg := upd_same (H := HS) (a := g0) (o := genO g0)
  generalize upd HS g0 (genO g0) = HT at sT eg ⊢
  walk_at "y"
  refine ⟨r0, g0, rfl, sT _ _ er, eg, fun l0 nl0 => ?_⟩
  have sU := same_upd (o := L2.HO.lst []) nl0
  generalize upd HT l0 (L2.HO.lst []) = HU at sU ⊢
  have sSU := sS.trans (sT.trans sU)
  refine hN _ _ ?_
  clear hE hN
  replace xG := xG.trans (xR.trans (extN_of sSU))
  replace tbR := tabs_same sSU tbR
  replace dv := dv.ext (xR.trans (extN_of sSU))
  walk_at "y"
  cases o with
  | none =>
    cases (show vd = .str "nothing" from dv)
    walk_at "y"
    exact xq xG tbR
  | some iv =>
    have dp := dv.dp (K := K) fo
    refine rEq2_d dp (.str _) (dueD_sm fo).shaped (by decide +kernel) ?_
    rw [show PyData.eqv (DueD (some iv)) (.str "nothing") = false by simp [DueD, PyData.eqv]]
    walk_at "y"
    refine ⟨tbR, fun HV xV tbV E1 Q1 hE hN => ?_⟩
    show tListGS _ _ _ _ _ _ _ _
    dsimp only [tListGS]
    walk_at "y"
    have lrV := (lr : LinesR K H2 x (some iv)).ext (xG.trans xV)
    refine ⟨x, .non, rfl, .inr (.inr ⟨iv, lrV, fun d H' hd s e => ⟨rfl, hE _ _ _ ⟨rfl, d, iv, rfl, e, fun D H3 nD s3 h3 => ?_⟩⟩⟩)⟩
    clear hE hN
    have xZ := xV.trans (extN_of (s.trans s3))
    have dv3 := dv.ext xZ
    have dw : DueV H3 (some iv) (.ref D) := ⟨D, rfl, h3⟩
    walk_at "y"
    refine rEq2_d (dw.dp fo) (dv3.dp fo) (dueD_sm fo).shaped (dueD_sm fo).shaped ?_
    rw [dueD_eqv]
    exact xq (xG.trans xZ) (tabs_same (s.trans s3) tbV)
end

end L75
namespace L75
open PySem PySem.Spec PyProof.Rows L2
variable {gd : Bool}
local macro_rules | `(tactic| walk_at "y1") => `(tactic| with_reducible first
  | refine tSeq_i ?_ | refine tAsg_i ?_ | refine tCons_i ?_ | refine tNil_i ?_ | refine tC_i ?_ | refine tOp_i ?_ | refine tIfS_i ?_ | refine tTest_i ?_ | refine exBl_i ?_ | refine tRet_i ?_ | refine tCall_i ?_
  | refine tCB_i ?_ | refine tLst_i ?_ | refine tTup_i ?_ | refine rI0_i ?_ | refine tDrop_i ?_ | refine tNext_i ?_ | refine tB_i ?_ | refine tAnd_i ?_ | refine tOr_i ?_ | refine tNot_i ?_ | refine tAndV_i ?_ | refine tOrV_i ?_ | refine tNotV_i ?_
  | refine tIf_i ?_ | refine tUn_i ?_ | refine tDGet_i ?_ | refine sDPut_i ?_ | refine tFld_i ?_ | refine tRetN_i ?_ | refine tBreak_i ?_ | refine tCont_i ?_ | refine rU_i ?_)
local macro_rules | `(tactic| walk_at "yhead") => `(tactic| dsimp only [L2.start, List.map, List.length_cons, List.length_nil, Nat.reduceAdd, Nat.reduceSub, List.replicate, List.cons_append, List.nil_append])
local macro_rules | `(tactic| walk_at "y2") => `(tactic| first
  | walk_at "y1"
  | ((with_reducible refine tVar_i (v := ?v) ?h ?q); (case h => rfl))
  | ((with_reducible refine gName_i ?_); (dsimp only [List.set]))
  | ((with_reducible refine rEq_i ?h ?q); (case h => rfl)) | ((with_reducible refine rNe_i ?h ?q); (case h => rfl)))
local macro_rules | `(tactic| walk_at "y") => `(tactic| repeat walk_at "y2")

/-! calls by keywords: of defs, of an instance, of a generator def handed to list -/
def kw1 {α : Type} (_ : List α) (ws : List α) : List α := ws
theorem kw1_rel {vs zs : List V} {us ws : List Value} (_ : Vals vs us) (h : Vals zs ws) : Vals (kw1 vs zs) (kw1 us ws) := h
theorem CalF.quiet {P : Program} {w : World} {K : PySem.W.Frag} {mg : Str → Option Value} {base : Heap} {k j : Nat} {x : Str} {sp : Sp} {ps : List Str} (c : CalF gd P w K mg base (CX P w) k x sp j ps) : CalF gd P w K mg base CX0 k x (fun vs H Q _ => sp vs H Q fun _ _ _ => False) j ps := let ⟨f, fd, F, a, b, c, d⟩ := c.ex; ⟨f, fd, F.quiet, a, b, c, d⟩
section
variable {X : Cx} {CX : CXT} {k jn j : Nat} {x : Str} {sp : Sp} {ps ks : List Str} {kws : List Keyword} {tk : TA} {p pos : Pos} {E : XK}
theorem pe_kwF (c : CalF gd X.prog X.w X.K X.mg X.base CX k x sp j ps) (z : RG gd jn X.A) (hx : Passes CX X E) (g : {α : Type} → List α → List α → List α) (hrel : ∀ {vs zs : List V} {us ws : List Value}, Vals vs us → Vals zs ws → Vals (g vs zs) (g us ws))
    (hbind : ∀ (kV doc pm : Value) (an : Option Addr) (cdv ct : Value) (us ws : List Value), us.length = 0 → ws.length = ks.length → bindArgs (PySem.W.fnOf x x (defArgs (top j)) (defBody (top j)) (defScope (top j)) .none kV doc pm an cdv ct) ⟨us, ks.zip ws⟩ = pure (ps.zip (g us ws)))
    (hkw : PK X kws tk) (hk : k ≤ jn := by decide) (hg : Gl X x := by rfl) (hall : (backToKw pos (keywordEach kws X.env)).all (·.1.isSome) = true := by rfl) (hks : (backToKw pos (keywordEach kws X.env)).filterMap (·.1) = ks := by rfl)
    (hdb : (x == ("__debug__" : Str)) = false := by decide) (hpl : ((backTo pos (starEach [] X.env)).any (·.1) || (backToKw pos (keywordEach kws X.env)).any (·.1.isNone)) = false := by rfl) :
    PE X (.Call (.Name x p) [] kws pos) (tCallK0 ks.length sp (fun vs zs => g vs zs) E tk) := by
  obtain ⟨f, fd, F, hm, kp, b, Fd⟩ := c.ex
  exact pe_callK0 F (z.mono hk) hg hm kp (FunD.kbN Fd 0 ks g hrel hbind) hx hkw hall hks hdb hpl
end
theorem callO_ofK {M : Model} {A : Around} {E : Value → Shared → Prop} {s : Shared} {a : Addr} {pos : Pos} {Q : Value → Shared → Prop} {args : List (Bool × Sem Value)} {kws : List (Option Str × Sem Value)} (hplain : (args.any (·.1) || kws.any (·.1.isNone)) = false)
    (h : wpAny M A (evalArgs (.ref a) true args kws) (fun z s₁ => (∃ C ox od, PySem.W.InstAt s₁.heap a ox C od ∧ ox.data = .plain) ∧ wpAny M A (call (.ref a) ([] ++ z.pos) z.kw) Q E s₁) E s) : wpAny M A (callWith pos (.ref a) [] args kws) Q E s := by
  unfold callWith
  refine wpAny_bind (wpAny_holding (wpAny_mono h (fun z s₁ h₁ => wpAny_bind (wpAny_standAt ?_)) fun _ _ y => y))
  obtain ⟨⟨C, ox, od, J, hd⟩, h₁⟩ := h₁
  have L := PySem.W.kco_keeper (M := M) J hd
  simp only [hplain]
  refine wpAny_bind (L.here ?_)
  have tail : ∀ {t : Sem Value}, wpAny M A t Q E s₁ → wpAny M A (t >>= fun r => holding [r] point >>= fun _ => pure r) Q E s₁ :=
    fun ht => wpAny_bind (wpAny_mono ht (fun r s₂ hr => wpAny_bind (wpAny_holding (wpAny_point (wpAny_pure hr)))) fun _ _ y => y)
  exact tail (wpAny_operateT h₁)
section
variable {X : Cx} {CX : CXT} {n : Nat} {C g : Addr} {fd : FuncData} {ps ks : List Str} {sp : Sp} {E : XK} {fe : Expr} {tf : TE} {tk : TA} {kws : List Keyword} {pos : Pos} {gl : List Value → List Value → List Value} {gV : List V → List V → List V}
def tCallOK (C : Addr) (m : Nat) (sp : Sp) (gV : List V → List V → List V) (E : XK) (tf : TE) (tk : TA) : TE := fun σ H Q => tf σ H fun y H1 => ∃ a, y = V.ref a ∧ tk σ H1 fun zs H2 => (∃ dx fs, H2 a = some (.ins C dx fs)) ∧ zs.length = m ∧ sp (gV [V.ref a] zs) H2 Q E
theorem tCallOK_i {m : Nat} {σ : L2.St} {H : Hp} {Q : VK} (q : tf σ H fun y H1 => ∃ a, y = V.ref a ∧ tk σ H1 fun zs H2 => (∃ dx fs, H2 a = some (.ins C dx fs)) ∧ zs.length = m ∧ sp (gV [V.ref a] zs) H2 Q E) : tCallOK C m sp gV E tf tk σ H Q := q
/-- f(a = e, ..), f an expression that gives an instance of C -/
theorem pe_callOK0 (hf : PE X fe tf) (c : StX.CallO X.K C g) (F : FnG gd X.prog X.w X.K X.mg X.base CX n g fd ps sp) (z : RG gd n X.A) (hb : KBn X.K fd ps 1 ks gl gV) (hx : Passes CX X E) (hkw : PK X kws tk)
    (ht : eval (.Call fe [] kws pos) X.env = (do callWith pos (← eval fe X.env) [] (backTo pos (starEach [] X.env)) (backToKw pos (keywordEach kws X.env))) := by rfl)
    (hall : (backToKw pos (keywordEach kws X.env)).all (·.1.isSome) = true := by rfl) (hks : (backToKw pos (keywordEach kws X.env)).filterMap (·.1) = ks := by rfl)
    (hpl : ((backTo pos (starEach [] X.env)).any (·.1) || (backToKw pos (keywordEach kws X.env)).any (·.1.isNone)) = false := by rfl) :
    PE X (.Call fe [] kws pos) (tCallOK C ks.length sp gV E tf tk) := by
  refine ⟨fun pins s σ H Q I h => ?_⟩
  rw [ht]
  refine wpAny_bind (thn (hf.run pins s σ H _ I h) fun u s1 ⟨y, H1, I1, ry, a, ey, q⟩ => ?_)
  subst ey
  obtain rfl : u = Value.ref a := ry
  refine callO_ofK hpl (evalArgs_kw2_nil hall (thn (hkw.run pos pins s1 σ H1 _ I1 q) fun ws s2 ⟨zs, H2, I2, rz, hi, l2, q2⟩ => ?_))
  obtain ⟨ox, od, J, hd⟩ := StX.insC_at I2 (.inr hi)
  refine ⟨⟨C, ox, od, J, hd⟩, ?_⟩
  rw [hks]
  have r1 : Vals [V.ref a] [Value.ref a] := .cons rfl .nil
  refine wpAny_call (PySem.W.kco_code I2.kIn J hd c.at_ c.fn c.fi (codeAny_mono (F.run X.A X.stack s2 H2 ⟨[.ref a], ks.zip ws⟩ (gl [.ref a] ws) (gV [.ref a] zs) Q E z I2.env0 (hb.to s2 [.ref a] ws I2.kIn rfl (rz.length.symm.trans l2)) (hb.rel r1 rz) q2) fun r s' hq => ?_))
  cases r with
  | error e => exact hx pins σ H2 s2 e s' I2 hq
  | ok fl => cases fl <;> first | exact I2.after hq | exact False.elim hq
end
section
variable {X : Cx} {k : Nat} {f : Addr} {fd : FuncData} {ps ks : List Str} {sp : SpG} {x nm : Str} {kws : List Keyword} {tk : TA} {p p2 pos pos' : Pos} {W : WX} {gl : List Value → List Value → List Value} {gV : List V → List V → List V}
theorem run_gfnK {pins : List (Addr × Obj)} {σ : L2.St} {H : Hp} {s : Shared} {ws : List Value} {zs : List V} {cont : List V → Hp → Prop} {E : XK} {E1 : Value → Shared → Prop} (F : GFn X.prog X.w X.K X.mg X.base k f fd ps sp) (hr : Room k X.A) (hb : KBn X.K fd ps 0 ks gl gV)
    (I : Inv X pins σ H s) (r : Vals zs ws) (hl : zs.length = ks.length) (h : sp (gV [] zs) H cont E) :
    wpAny (model X.prog X.w) X.A (call (.ref f) [] (ks.zip ws)) (fun u s' => ∃ H1 sc ex, Inv X pins σ H1 sc ∧ ExOk X pins ex ∧ GMade X.prog X.w k X.stack H1 sc ex cont E u s') E1 s := by
  refine wpAny_call (codeAny_mono (F.run X.A X.stack s H ⟨[], ks.zip ws⟩ (gl [] ws) (gV [] zs) cont E hr I.env0 (hb.to s [] ws I.kIn rfl (r.length.symm.trans hl)) (hb.rel .nil r) h) fun r s' hq => ?_)
  cases r with
  | error e => exact False.elim hq
  | ok fl =>
    cases fl with
    | ret u => exact ⟨H, s, [], I, .nil, hq⟩
    | next => exact False.elim hq
    | brk => exact False.elim hq
    | cont => exact False.elim hq
def tListGK (m : Nat) (sp : SpG) (gV : List V → List V → List V) (P : Value → Prop) (W : WX) (tk : TA) : TE := fun σ H Q => tk σ H fun zs H1 => zs.length = m ∧ sp (gV [] zs) H1 (fun out H2 => ∀ p, H2 p = none → Q (.ref p) (upd H2 p (.lst out))) (fun cls d H' => P cls ∧ W cls d σ H')
theorem tListGK_i {m : Nat} {P : Value → Prop} {σ : L2.St} {H : Hp} {Q : VK} (q : tk σ H fun zs H1 => zs.length = m ∧ sp (gV [] zs) H1 (fun out H2 => ∀ p, H2 p = none → Q (.ref p) (upd H2 p (.lst out))) (fun cls d H' => P cls ∧ W cls d σ H')) : tListGK m sp gV P W tk σ H Q := q
/-- list(f(a = e, ..)) -/
theorem pe_listGK (F : GFn X.prog X.w X.K X.mg X.base k f fd ps sp) (tk0 : Takes X W) {P : Value → Prop} (hP : ∀ c, P c → PySem.W.subIn X.K c (.type "StopIteration") = some false) (hr : Room (k + 3) X.A) (hgl : Gl X nm) (hml : X.mg nm = none) (hv : bootBuiltins nm = some (.type "list"))
    (hg : Gl X x) (hm : X.mg x = some (.ref f)) (hk : PySem.W.keepIn X.K (.ref f) = true) (hb : KBn X.K fd ps 0 ks gl gV) (hkw : PK X kws tk)
    (hnm : nm ≠ "__name__" := by decide) (hdbl : (nm == ("__debug__" : Str)) = false := by decide)
    (hall : (backToKw pos' (keywordEach kws X.env)).all (·.1.isSome) = true := by rfl) (hks : (backToKw pos' (keywordEach kws X.env)).filterMap (·.1) = ks := by rfl)
    (hpl : ((backTo pos' (starEach [] X.env)).any (·.1) || (backToKw pos' (keywordEach kws X.env)).any (·.1.isNone)) = false := by rfl)
    (hdb : (x == ("__debug__" : Str)) = false := by decide)
    (hel : starEach [.Call (.Name x p) [] kws pos'] X.env = (false, eval (.Call (.Name x p) [] kws pos') X.env) :: starEach [] X.env := by rfl) :
    PE X (.Call (.Name nm p2) [.Call (.Name x p) [] kws pos'] [] pos) (tListGK ks.length sp gV P W tk) := by
  refine ⟨fun pins s σ H Q I hq => ?_⟩
  refine wpAny_Call_Name_kw (ld_blt I hgl hml hv ?_ hnm hdbl)
  refine PyProof.Rows.callWith_type1 ?_ hel rfl
  rw [hel]
  show wpAny _ _ (spliced ((false, eval (.Call (.Name x p) [] kws pos') X.env) :: backTo pos (starEach [] X.env))) _ _ s
  refine Calls.spliced_cons ?_
  refine wpAny_Call_Name_kw (ld_glob I hg hm ?_ hdb)
  refine PySem.W.callWith_KW0 (h₀ := X.base) I.ok.mod.kin hk hall (thn (hkw.run pos' pins s σ H _ I hq) fun ws s0 ⟨zs, H1, I0, r, l2, q⟩ => ⟨I0.kIn, ?_⟩) hpl
  rw [hks]
  refine wpAny_mono (run_gfnK F (hr.mono (Nat.le_add_right _ _)) hb I0 r l2 q) (fun u s1 ⟨H2, sc, ex, I1, hex, hG⟩ => ?_) fun _ _ hx => hx
  refine Calls.spliced_nil ?_
  have hsz : sc.heap.objs.size ≤ s1.heap.objs.size := by
    obtain ⟨a, g, c, _, h1, h2, _⟩ := hG
    exact Nat.le_trans h1 (Nat.le_of_lt h2)
  refine call_list_new hr I1.ok.frames hG (fun S s' acc c H' ys q0 q1 q2 hl q3 q4 q5 q6 q7 q8 => ?_) fun e s' g hc => ?_
  · exact ⟨.ref S, upd H' S (.lst ys), I1.drained (Nat.le_trans hsz q0) hl q1 q2 hex q3 q4 q5 q6 q7, rfl, q8 S q7⟩
  · have kin : X.K.In s'.heap := by
      obtain ⟨a, B, H', cls, d, _, fl, _, ub, _⟩ := id hc
      refine I1.ok.mod.kin.keeps fun b o eb => fl.1 b o (ub.keep b o (I1.bs b o eb).1 (I1.bs b o eb).2 fun hm => ?_)
      rcases List.mem_cons.mp (I1.stkSub b hm) with z | z
      · have h1 := Heap.lt_size eb
        have h2 := Nat.le_trans I1.ok.bsz I1.ok.above
        rw [z] at h1
        exact absurd (Nat.lt_of_lt_of_le h1 h2) (Nat.lt_irrefl _)
      · exact I1.ok.nofr eb z
    refine ⟨notStop_of (fun cls d H hW => hP cls hW.1) kin hc, passAt tk0 σ pins H2 sc e _ I1 ?_⟩
    · obtain ⟨a, B, H', cls, d, z1, fl, z2, ub, z3, z4, z5, z6⟩ := hc
      exact ⟨a, B, H', cls, d, z1, fl, z2, ub, z3, z4, allBare_setGen z5 rfl, z6.2⟩
end
section
variable {X : Cx}
/-- x is not y, of bools -/
def rNotBl : R2 := fun x y H Q => ∃ a b, x = .bl a ∧ y = .bl b ∧ Q (.bl (!decide (a = b))) H
theorem op_notBl : OpR X (compareOp .IsNot) rNotBl := by
  intro pins s σ H x y v u Q I rx ry h
  obtain ⟨a, b, rfl, rfl, q⟩ := h
  cases (show v = Value.bool a from rx)
  cases (show u = Value.bool b from ry)
  refine isnot_bool (fin_bl I q ?_)
  cases a <;> cases b <;> rfl
end
theorem tCallK0_i' {m : Nat} {sp : Sp} {gV : List V → List V → List V} {E : XK} {tk : TA} {σ : L2.St} {H : Hp} {Q : VK} (q : tk σ H fun zs H2 => zs.length = m ∧ sp (gV [] zs) H2 Q E) : tCallK0 m sp gV E tk σ H Q := q

end L75
namespace L75
open PySem PySem.Spec PyProof.Rows L2
variable {gd : Bool}
local macro_rules | `(tactic| walk_at "y1") => `(tactic| with_reducible first
  | refine tSeq_i ?_ | refine tAsg_i ?_ | refine tCons_i ?_ | refine tNil_i ?_ | refine tC_i ?_ | refine tOp_i ?_ | refine tIfS_i ?_ | refine tTest_i ?_ | refine exBl_i ?_ | refine tRet_i ?_ | refine tCall_i ?_
  | refine tCB_i ?_ | refine tLst_i ?_ | refine tTup_i ?_ | refine rI0_i ?_ | refine tDrop_i ?_ | refine tNext_i ?_ | refine tB_i ?_ | refine tAnd_i ?_ | refine tOr_i ?_ | refine tNot_i ?_ | refine tAndV_i ?_ | refine tOrV_i ?_ | refine tNotV_i ?_
  | refine tIf_i ?_ | refine tUn_i ?_ | refine tDGet_i ?_ | refine sDPut_i ?_ | refine tFld_i ?_ | refine tRetN_i ?_ | refine tBreak_i ?_ | refine tCont_i ?_ | refine rU_i ?_)
local macro_rules | `(tactic| walk_at "yhead") => `(tactic| dsimp only [L2.start, List.map, List.length_cons, List.length_nil, Nat.reduceAdd, Nat.reduceSub, List.replicate, List.cons_append, List.nil_append])
local macro_rules | `(tactic| walk_at "y2") => `(tactic| first
  | walk_at "y1"
  | ((with_reducible refine tVar_i (v := ?v) ?h ?q); (case h => rfl))
  | ((with_reducible refine gName_i ?_); (dsimp only [List.set]))
  | ((with_reducible refine rEq_i ?h ?q); (case h => rfl)) | ((with_reducible refine rNe_i ?h ?q); (case h => rfl)))
local macro_rules | `(tactic| walk_at "y") => `(tactic| repeat walk_at "y2")

/-! o.f as a target within a tuple of targets -/
section
variable {X : Cx} {K : PySem.W.Frag} {o : Expr} {ta : TE} {f : Str} {pos : Pos}
def gFld (K : PySem.W.Frag) (ta : TE) (f : Str) : TG := fun y σ H Q => ta σ H fun x H2 => ∃ a C dx fs, x = .ref a ∧ H2 a = some (.ins C dx fs) ∧ Cls K C ∧ NoAttr K C f ∧ fs.length < 1000 ∧ Q σ (upd H2 a (.ins C dx (putF f y fs)))
theorem pg_fldK (hK : X.K = K) (ha : PE X o ta) : PG X (.Attribute o f pos) (gFld K ta f) := by
  subst hK
  refine ⟨fun pins s σ H v u Q I r h => ?_⟩
  show wpAny _ _ (do let ov ← holding [u] (eval o X.env); standAt pos.atName; holding [u, ov] (setAttr ov f u); release [u, ov] []) _ _ _
  refine wpAny_bind (wpAny_holding (thn (ha.run pins s σ H _ I h) fun ov s1 ⟨x, H1, I1, rx, a, C, dx, fs, ex, ea, c, n, l, q⟩ => ?_))
  subst ex
  obtain rfl : ov = Value.ref a := rx
  refine wpAny_bind (wpAny_standAt (wpAny_bind (wpAny_holding (setattr_ok I1 ea c n l r fun s3 I3 => ?_))))
  exact wpAny_release ⟨σ, _, I3, q⟩
/-- the store, the heap behind it told by what stands there -/
theorem gfst_i {y : V} {i : Nat} {σ : L2.St} {Q : L2.St → Hp → Prop} {a C dx : Addr} {fs fs' : List (Str × V)} {H : Hp} (h0 : σ[i]? = some (some (.ref a))) (h : H a = some (.ins C dx fs)) (c : Cls K C) (n : NoAttr K C f) (hl : fs.length < 1000) (e : putF f y fs = fs') (q : ∀ H2, H2 a = some (.ins C dx fs') → (∀ b, b ≠ a → H2 b = H b) → Q σ H2) :
    gFld K (tVar i) f y σ H Q := ⟨.ref a, h0, a, C, dx, fs, rfl, h, c, n, hl, q _ (by rw [upd_same, e]) fun b nb => upd_ne nb⟩
end

end L75
namespace L75
open PySem PySem.Spec PyProof.Rows L2
variable {gd : Bool}
local macro_rules | `(tactic| walk_at "y1") => `(tactic| with_reducible first
  | refine tSeq_i ?_ | refine tAsg_i ?_ | refine tCons_i ?_ | refine tNil_i ?_ | refine tC_i ?_ | refine tOp_i ?_ | refine tIfS_i ?_ | refine tTest_i ?_ | refine exBl_i ?_ | refine tRet_i ?_ | refine tCall_i ?_
  | refine tCB_i ?_ | refine tLst_i ?_ | refine tTup_i ?_ | refine rI0_i ?_ | refine tDrop_i ?_ | refine tNext_i ?_ | refine tB_i ?_ | refine tAnd_i ?_ | refine tOr_i ?_ | refine tNot_i ?_ | refine tAndV_i ?_ | refine tOrV_i ?_ | refine tNotV_i ?_
  | refine tYes_i ?_ | refine tTM_i ?_ | refine tPar_i ?_ | refine tSl_i ?_ | refine tNoPart_i ?_ | refine tPart_i ?_ | refine part_i ?_ | refine tMake_i ?_ | refine tProp_i ?_ | refine tCallOG_i ?_ | refine tVeI_i ?_ | refine tOst_i ?_ | refine tMkO_i ?_ | refine sFld_i ?_ | refine fldaug_i ?_ | refine gCons_i ?_ | refine gNil_i ?_ | refine tChain_i ?_ | refine tBM_i ?_ | refine rAdd2_i ?_ | refine rLe2_i ?_ | refine rEq2_i ?_ | refine rEq2_ss ?_ | refine rNe2_i ?_ | refine rNe2_ss ?_ | refine rIsN_i ?_ | refine rNotN_i ?_ | refine tTup_i2 ?_ | refine tIf_i ?_ | refine tUn_i ?_ | refine tDGet_i ?_ | refine sDPut_i ?_ | refine tFld_i ?_ | refine tRetN_i ?_ | refine tBreak_i ?_ | refine tCont_i ?_ | refine rU_i ?_)
local macro_rules | `(tactic| walk_at "yhead") => `(tactic| dsimp only [L2.start, List.map, List.length_cons, List.length_nil, Nat.reduceAdd, Nat.reduceSub, List.replicate, List.cons_append, List.nil_append])
local macro_rules | `(tactic| walk_at "y2") => `(tactic| first
  | walk_at "y1"
  | ((with_reducible refine tVar_i (v := ?v) ?h ?q); (case h => rfl))
  | ((with_reducible refine gName_i ?_); (dsimp only [L2.wipe, List.set]))
  | with_reducible refine iteT ?_ | with_reducible refine iteF ?_ | with_reducible refine iteNT ?_ | with_reducible refine iteNF ?_
  | ((with_reducible refine iteDT ?h ?q); (case h => first | decide +kernel | omega | assumption | exact nv1 | exact nv2 | exact nv3 | exact nv4)) | ((with_reducible refine iteDF ?h ?q); (case h => first | decide +kernel | omega | assumption | exact nv1 | exact nv2 | exact nv3 | exact nv4))
  | ((with_reducible refine iteNDT ?h ?q); (case h => first | decide +kernel | omega | assumption | exact nv1 | exact nv2 | exact nv3 | exact nv4)) | ((with_reducible refine iteNDF ?h ?q); (case h => first | decide +kernel | omega | assumption | exact nv1 | exact nv2 | exact nv3 | exact nv4))
  | ((with_reducible refine rIsi2_1 (T := ?T) (b := true) ?ty ?h ?q); (case ty => first | exact ty_str | exact ty_int | exact ty_bl | exact ty_non); (case h => decide +kernel))
  | ((with_reducible refine rIsi2_1 (T := ?T) (b := false) ?ty ?h ?q); (case ty => first | exact ty_str | exact ty_int | exact ty_bl | exact ty_non); (case h => decide +kernel))
  | ((with_reducible refine rEq2_s ?h ?q); (case h => rfl)) | ((with_reducible refine rNe2_s ?h ?q); (case h => rfl))
  | ((with_reducible refine rEq_i ?h ?q); (case h => rfl)) | ((with_reducible refine rNe_i ?h ?q); (case h => rfl)))
local macro_rules | `(tactic| walk_at "y") => `(tactic| repeat walk_at "y2")

/-! faults -/
def frow (k l : Str) (n : Int) (c u : V) (h : Bool) : List (Str × V) := [("s1_kind", .str k), ("s1_label", .str l), ("s1_number", .int n), ("s1_context", c), ("s1_cause", u), ("s1_hides", .bl h)]
section
variable {P : Program} {w : World} {K : PySem.W.Frag} {mg : Str → Option Value} {base : Heap}
/-- a fault stands at a -/
def FaultAt (K : PySem.W.Frag) (H : Hp) (a dx : Addr) (k l : Str) (n : Int) (c u : V) (h : Bool) : Prop := H a = some (.ins (He.ga K "Fault") dx (frow k l n c u h))
def spFInit (K : PySem.W.Frag) : Sp := fun vs H Q _ => ∃ x dx k l n, vs = [.ref x, .str k, .str l, .int n] ∧ H x = some (.ins (He.ga K "Fault") dx []) ∧ k.length ≤ 1000 ∧ l.length ≤ 1000 ∧ isKindB k = true ∧ isLabelB l = true ∧ 0 ≤ n ∧
  ∀ H', (∀ b o, H b = some o → b ≠ x → H' b = some o) → FaultAt K H' x dx k l n .non .non false → Q .non H'
theorem sc_Fault___init__ : FnScope ["self", "kind", "label", "number"] ["self", "kind", "label", "number"] (defScope (inClass (top 18) 0)) := ⟨rfl, rfl, rfl, by decide +kernel, rfl, by decide +kernel, by decide +kernel⟩
theorem m_Fault (T : Sy K mg) : Mak gd P w K mg base CX0 3 "Fault" (spFInit K) := by
  refine T.mak (F_Fault___init__ T) sc_Fault___init__ (fun vs H Q E h => by obtain ⟨x, dx, k, l, n, rfl, _⟩ := h; rfl) (fun cdv f A outer s H vs Q E z h => ?_) (fun _ _ _ _ _ _ us hl => match us, hl with | [_, _, _, _], _ => rfl)
  have hu1 := hu_1 z; have hu2 := hu_2 z; have hu3 := hu_3 z
  obtain ⟨x, dx, k, l, n, rfl, hx, hk, hl, kk, ll, n0, q⟩ := h
  refine ⟨_, (pss_cons (ps_if (pt_not (pt_val (pe_c (c_is_kind T) z (pa_cons (pv 1) pa_nil)))) (pss_one ps_never) pss_nil) (pss_cons (ps_if (pt_not (pt_val (pe_c (c_is_label T) z (pa_cons (pv 2) pa_nil)))) (pss_one ps_never) pss_nil) (pss_cons (ps_if (PW.pt (pw_or (pt_not (pt_val (pe_callB (r := rIsi2 K) call_isi2 (by rfl) (T.free "isinstance") (by decide +kernel) (pa_cons (pv 3) (pa_cons (pe_bltn (v := .ty "int") (u := .type "int") (by rfl) (T.free "int") (by decide +kernel) rfl) pa_nil))))) (pw_or (pt_val (pe_callB (r := rIsi2 K) call_isi2 (by rfl) (T.free "isinstance") (by decide +kernel) (pa_cons (pv 3) (pa_cons (pe_bltn (v := .ty "bool") (u := .type "bool") (by rfl) (T.free "bool") (by decide +kernel) rfl) pa_nil)))) (pw_or1 (pt_cmpR op_lt (pv 3) pe_int (nomark _)))))) (pss_one ps_never) pss_nil) (pss_cons (ps_asg (pe_tup (pa_cons (pv 1) (pa_cons (pv 2) (pa_cons (pv 3) pa_nil)))) (pg_tupK (K := K) rfl (by rfl) (pgs_cons (pg_fldK (K := K) rfl (pv 0)) (pgs_cons (pg_fldK (K := K) rfl (pv 0)) (pgs_cons (pg_fldK (K := K) rfl (pv 0)) pgs_nil))))) (pss_cons (ps_fldK (K := K) rfl (pv 0) pe_non) (pss_cons (ps_fldK (K := K) rfl (pv 0) pe_non) (pss_one (ps_fldK (K := K) rfl (pv 0) pe_bl)))))))), ?_⟩
  walk_at "yhead"; walk_at "y"
  refine ⟨_, rfl, .inl ⟨k, rfl, hk, fun H1 s1 => ?_⟩⟩
  rw [kk]
  refine ⟨_, rfl, ?_⟩
  walk_at "y"
  refine ⟨_, rfl, .inl ⟨l, rfl, hl, fun H2 s2 => ?_⟩⟩
  rw [ll]
  refine ⟨_, rfl, ?_⟩
  walk_at "y"
  refine ⟨sz4 (by simp), fun T1 nT1 => ?_⟩
  have sH3 := same_upd (H := H2) (o := .tup [.str k, .str l, .int n]) nT1
  have eT1 := upd_same (H := H2) (a := T1) (o := .tup [.str k, .str l, .int n])
  generalize upd H2 T1 (.tup [.str k, .str l, .int n]) = H3 at sH3 eT1 ⊢
  refine gTup_i (SqT.of eT1) ?_
  have s3 := (s1.trans s2).trans sH3
  have hx3 := s3 _ _ hx
  have cl := T.cls "Fault"
  walk_at "y"
  refine gfst_i rfl hx3 cl (T.noat "Fault" "s1_kind") (by decide) (fs' := [("s1_kind", .str k)]) (by kernel_rfl) fun H4 h4 u4 => ?_
  walk_at "y"
  refine gfst_i rfl h4 cl (T.noat "Fault" "s1_label") (by show 1 < 1000; decide) (fs' := [("s1_kind", .str k), ("s1_label", .str l)]) (by kernel_rfl) fun H5 h5 u5 => ?_
  walk_at "y"
  refine gfst_i rfl h5 cl (T.noat "Fault" "s1_number") (by show 2 < 1000; decide) (fs' := [("s1_kind", .str k), ("s1_label", .str l), ("s1_number", .int n)]) (by kernel_rfl) fun H6 h6 u6 => ?_
  walk_at "y"
  refine fstU_i h6 cl (T.noat "Fault" "s1_context") (by show 3 < 1000; decide) (fs' := [("s1_kind", .str k), ("s1_label", .str l), ("s1_number", .int n), ("s1_context", .non)]) (by kernel_rfl) fun H7 h7 u7 => ?_
  walk_at "y"
  refine fstU_i h7 cl (T.noat "Fault" "s1_cause") (by show 4 < 1000; decide) (fs' := [("s1_kind", .str k), ("s1_label", .str l), ("s1_number", .int n), ("s1_context", .non), ("s1_cause", .non)]) (by kernel_rfl) fun H8 h8 u8 => ?_
  walk_at "y"
  refine fstU_i h8 cl (T.noat "Fault" "s1_hides") (by show 5 < 1000; decide) (fs' := frow k l n .non .non false) (by kernel_rfl) fun H9 h9 u9 => ?_
  exact q H9 (fun b o e nb => by rw [u9 b nb, u8 b nb, u7 b nb, u6 b nb, u5 b nb, u4 b nb]; exact s3 _ _ e) h9
end

end L75
namespace L75
open PySem PySem.Spec PyProof.Rows L2
variable {gd : Bool}
local macro_rules | `(tactic| walk_at "y1") => `(tactic| with_reducible first
  | refine tSeq_i ?_ | refine tAsg_i ?_ | refine tCons_i ?_ | refine tNil_i ?_ | refine tC_i ?_ | refine tOp_i ?_ | refine tIfS_i ?_ | refine tTest_i ?_ | refine exBl_i ?_ | refine tRet_i ?_ | refine tCall_i ?_
  | refine tCB_i ?_ | refine tLst_i ?_ | refine tTup_i ?_ | refine rI0_i ?_ | refine tDrop_i ?_ | refine tNext_i ?_ | refine tB_i ?_ | refine tAnd_i ?_ | refine tOr_i ?_ | refine tNot_i ?_ | refine tAndV_i ?_ | refine tOrV_i ?_ | refine tNotV_i ?_
  | refine tYes_i ?_ | refine tTM_i ?_ | refine tPar_i ?_ | refine tSl_i ?_ | refine tNoPart_i ?_ | refine tPart_i ?_ | refine part_i ?_ | refine tMake_i ?_ | refine tProp_i ?_ | refine tCallOG_i ?_ | refine tVeI_i ?_ | refine tOst_i ?_ | refine tMkO_i ?_ | refine sFld_i ?_ | refine fldaug_i ?_ | refine gCons_i ?_ | refine gNil_i ?_ | refine tChain_i ?_ | refine tBM_i ?_ | refine rAdd2_i ?_ | refine rLe2_i ?_ | refine rEq2_i ?_ | refine rEq2_ss ?_ | refine rNe2_i ?_ | refine rNe2_ss ?_ | refine rIsN_i ?_ | refine rNotN_i ?_ | refine tTup_i2 ?_ | refine tIf_i ?_ | refine tUn_i ?_ | refine tDGet_i ?_ | refine sDPut_i ?_ | refine tFld_i ?_ | refine tRetN_i ?_ | refine tBreak_i ?_ | refine tCont_i ?_ | refine rU_i ?_)
local macro_rules | `(tactic| walk_at "yhead") => `(tactic| dsimp only [L2.start, List.map, List.length_cons, List.length_nil, Nat.reduceAdd, Nat.reduceSub, List.replicate, List.cons_append, List.nil_append])
local macro_rules | `(tactic| walk_at "y2") => `(tactic| first
  | walk_at "y1"
  | ((with_reducible refine tVar_i (v := ?v) ?h ?q); (case h => rfl))
  | ((with_reducible refine gName_i ?_); (dsimp only [L2.wipe, List.set]))
  | with_reducible refine iteT ?_ | with_reducible refine iteF ?_ | with_reducible refine iteNT ?_ | with_reducible refine iteNF ?_
  | ((with_reducible refine iteDT ?h ?q); (case h => first | decide +kernel | omega | assumption | exact nv1 | exact nv2 | exact nv3 | exact nv4)) | ((with_reducible refine iteDF ?h ?q); (case h => first | decide +kernel | omega | assumption | exact nv1 | exact nv2 | exact nv3 | exact nv4))
  | ((with_reducible refine iteNDT ?h ?q); (case h => first | decide +kernel | omega | assumption | exact nv1 | exact nv2 | exact nv3 | exact nv4)) | ((with_reducible refine iteNDF ?h ?q); (case h => first | decide +kernel | omega | assumption | exact nv1 | exact nv2 | exact nv3 | exact nv4))
  | ((with_reducible refine rIsi2_1 (T := ?T) (b := true) ?ty ?h ?q); (case ty => first | exact ty_str | exact ty_int | exact ty_bl | exact ty_non); (case h => decide +kernel))
  | ((with_reducible refine rIsi2_1 (T := ?T) (b := false) ?ty ?h ?q); (case ty => first | exact ty_str | exact ty_int | exact ty_bl | exact ty_non); (case h => decide +kernel))
  | ((with_reducible refine rEq2_s ?h ?q); (case h => rfl)) | ((with_reducible refine rNe2_s ?h ?q); (case h => rfl))
  | ((with_reducible refine rEq_i ?h ?q); (case h => rfl)) | ((with_reducible refine rNe_i ?h ?q); (case h => rfl)))
local macro_rules | `(tactic| walk_at "y") => `(tactic| repeat walk_at "y2")

section
variable {P : Program} {w : World} {K : PySem.W.Frag} {mg : Str → Option Value} {base : Heap}
def spFld (K : PySem.W.Frag) (c f : Str) : Sp := sp1 fun v H Q _ => ∃ a dx fs x, v = .ref a ∧ H a = some (.ins (He.ga K c) dx fs) ∧ fs.lookup f = some x ∧ Q x H
theorem spFld_i {c f : Str} {H : Hp} {Q : VK} {E : XK} {a dx : Addr} {fs : List (Str × V)} {x : V} (h : H a = some (.ins (He.ga K c) dx fs)) (e : fs.lookup f = some x) (q : Q x H) :
    ∃ a' dx' fs', V.ref a = .ref a' ∧ H a' = some (.ins (He.ga K c) dx' fs') ∧ spFld K c f (.ref a' :: []) H Q E := ⟨a, dx, fs, rfl, h, _, rfl, a, dx, fs, x, rfl, h, e, q⟩
theorem sc_Fault_kind : FnScope ["self"] ["self"] (defScope (inClass (top 18) 1)) := ⟨rfl, rfl, rfl, by decide +kernel, rfl, by decide +kernel, by decide +kernel⟩
theorem p_kind (T : Sy K mg) : Prp gd P w K mg base 1 "Fault" "kind" (spFld K "Fault" "s1_kind") := by
  refine T.prp 0 rfl sc_Fault_kind sp1_len (fun cdv g A outer s H vs Q E z h => ?_) (fun _ _ _ _ _ _ us hl => match us, hl with | [_], _ => rfl)
  obtain ⟨_, rfl, a, dx, fs, x, rfl, hx, e, q⟩ := h
  refine ⟨_, (pss_one (ps_ret (pe_fldK (K := K) rfl (pv 0)))), ?_⟩
  walk_at "yhead"; walk_at "y"
  exact fld_j (v := x) hx (T.cls "Fault") (T.noat "Fault" "s1_kind") e q
theorem sc_Fault_label : FnScope ["self"] ["self"] (defScope (inClass (top 18) 2)) := ⟨rfl, rfl, rfl, by decide +kernel, rfl, by decide +kernel, by decide +kernel⟩
theorem p_label (T : Sy K mg) : Prp gd P w K mg base 1 "Fault" "label" (spFld K "Fault" "s1_label") := by
  refine T.prp 1 rfl sc_Fault_label sp1_len (fun cdv g A outer s H vs Q E z h => ?_) (fun _ _ _ _ _ _ us hl => match us, hl with | [_], _ => rfl)
  obtain ⟨_, rfl, a, dx, fs, x, rfl, hx, e, q⟩ := h
  refine ⟨_, (pss_one (ps_ret (pe_fldK (K := K) rfl (pv 0)))), ?_⟩
  walk_at "yhead"; walk_at "y"
  exact fld_j (v := x) hx (T.cls "Fault") (T.noat "Fault" "s1_label") e q
theorem sc_Fault_number : FnScope ["self"] ["self"] (defScope (inClass (top 18) 3)) := ⟨rfl, rfl, rfl, by decide +kernel, rfl, by decide +kernel, by decide +kernel⟩
theorem p_number (T : Sy K mg) : Prp gd P w K mg base 1 "Fault" "number" (spFld K "Fault" "s1_number") := by
  refine T.prp 2 rfl sc_Fault_number sp1_len (fun cdv g A outer s H vs Q E z h => ?_) (fun _ _ _ _ _ _ us hl => match us, hl with | [_], _ => rfl)
  obtain ⟨_, rfl, a, dx, fs, x, rfl, hx, e, q⟩ := h
  refine ⟨_, (pss_one (ps_ret (pe_fldK (K := K) rfl (pv 0)))), ?_⟩
  walk_at "yhead"; walk_at "y"
  exact fld_j (v := x) hx (T.cls "Fault") (T.noat "Fault" "s1_number") e q
theorem sc_Fault_context : FnScope ["self"] ["self"] (defScope (inClass (top 18) 4)) := ⟨rfl, rfl, rfl, by decide +kernel, rfl, by decide +kernel, by decide +kernel⟩
theorem p_context (T : Sy K mg) : Prp gd P w K mg base 1 "Fault" "context" (spFld K "Fault" "s1_context") := by
  refine T.prp 3 rfl sc_Fault_context sp1_len (fun cdv g A outer s H vs Q E z h => ?_) (fun _ _ _ _ _ _ us hl => match us, hl with | [_], _ => rfl)
  obtain ⟨_, rfl, a, dx, fs, x, rfl, hx, e, q⟩ := h
  refine ⟨_, (pss_one (ps_ret (pe_fldK (K := K) rfl (pv 0)))), ?_⟩
  walk_at "yhead"; walk_at "y"
  exact fld_j (v := x) hx (T.cls "Fault") (T.noat "Fault" "s1_context") e q
theorem sc_Fault_cause : FnScope ["self"] ["self"] (defScope (inClass (top 18) 5)) := ⟨rfl, rfl, rfl, by decide +kernel, rfl, by decide +kernel, by decide +kernel⟩
theorem p_cause (T : Sy K mg) : Prp gd P w K mg base 1 "Fault" "cause" (spFld K "Fault" "s1_cause") := by
  refine T.prp 4 rfl sc_Fault_cause sp1_len (fun cdv g A outer s H vs Q E z h => ?_) (fun _ _ _ _ _ _ us hl => match us, hl with | [_], _ => rfl)
  obtain ⟨_, rfl, a, dx, fs, x, rfl, hx, e, q⟩ := h
  refine ⟨_, (pss_one (ps_ret (pe_fldK (K := K) rfl (pv 0)))), ?_⟩
  walk_at "yhead"; walk_at "y"
  exact fld_j (v := x) hx (T.cls "Fault") (T.noat "Fault" "s1_cause") e q
end

end L75
namespace L75
open PySem PySem.Spec PyProof.Rows L2
variable {gd : Bool}
local macro_rules | `(tactic| walk_at "y1") => `(tactic| with_reducible first
  | refine tSeq_i ?_ | refine tAsg_i ?_ | refine tCons_i ?_ | refine tNil_i ?_ | refine tC_i ?_ | refine tOp_i ?_ | refine tIfS_i ?_ | refine tTest_i ?_ | refine exBl_i ?_ | refine tRet_i ?_ | refine tCall_i ?_
  | refine tCB_i ?_ | refine tLst_i ?_ | refine tTup_i ?_ | refine rI0_i ?_ | refine tDrop_i ?_ | refine tNext_i ?_ | refine tB_i ?_ | refine tAnd_i ?_ | refine tOr_i ?_ | refine tNot_i ?_ | refine tAndV_i ?_ | refine tOrV_i ?_ | refine tNotV_i ?_
  | refine tIf_i ?_ | refine tUn_i ?_ | refine tDGet_i ?_ | refine sDPut_i ?_ | refine tFld_i ?_ | refine tRetN_i ?_ | refine tBreak_i ?_ | refine tCont_i ?_ | refine rU_i ?_)
local macro_rules | `(tactic| walk_at "yhead") => `(tactic| dsimp only [L2.start, List.map, List.length_cons, List.length_nil, Nat.reduceAdd, Nat.reduceSub, List.replicate, List.cons_append, List.nil_append])
local macro_rules | `(tactic| walk_at "y2") => `(tactic| first
  | walk_at "y1"
  | ((with_reducible refine tVar_i (v := ?v) ?h ?q); (case h => rfl))
  | ((with_reducible refine gName_i ?_); (dsimp only [List.set]))
  | ((with_reducible refine rEq_i ?h ?q); (case h => rfl)) | ((with_reducible refine rNe_i ?h ?q); (case h => rfl)))
local macro_rules | `(tactic| walk_at "y") => `(tactic| repeat walk_at "y2")

/-! == and != of instances of one own class: the same object -/
section
variable {X : Cx}
def rEqI (K : PySem.W.Frag) : R2 := fun x y H Q => ∃ (a b C dx dy : Addr) (fs gs : List (Str × V)), x = .ref a ∧ y = .ref b ∧ H a = some (.ins C dx fs) ∧ H b = some (.ins C dy gs) ∧ CmpC K C ∧ Q (.bl (decide (a = b))) H
def rNeI (K : PySem.W.Frag) : R2 := fun x y H Q => ∃ (a b C dx dy : Addr) (fs gs : List (Str × V)), x = .ref a ∧ y = .ref b ∧ H a = some (.ins C dx fs) ∧ H b = some (.ins C dy gs) ∧ CmpC K C ∧ Q (.bl (!decide (a = b))) H
theorem ins_at {P : Program} {w : World} {H : Hp} {h : Heap} {a C dx : Addr} {fs : List (Str × V)} (hok : HOk P w H h) (e : H a = some (.ins C dx fs)) : ∃ o, h.get? a = some o ∧ o.cls = .ref C := by
  obtain ⟨_, _, _, e1, _⟩ := (show ObjOk P w H h a (.ins C dx fs) from hok a _ e)
  exact ⟨_, e1, rfl⟩
theorem op_eqI (hu : X.A.units + 1 < cLine) : OpR X (compareOp .Eq) (rEqI X.K) := by
  intro pins s σ H x y v u Q I rx ry h
  obtain ⟨a, b, C, dx, dy, fs, gs, rfl, rfl, ha, hb, T, q⟩ := h
  cases (show v = Value.ref a from rx)
  cases (show u = Value.ref b from ry)
  obtain ⟨oa, ea, ca⟩ := ins_at I.hok ha
  obtain ⟨ob, eb, cb⟩ := ins_at I.hok hb
  have fin : ∀ c : Bool, decide (a = b) = c → EP X pins σ Q (.bool c) s := fun c e => ⟨.bl c, H, I, rfl, by rw [← e]; exact q⟩
  obtain ⟨hp, g, d, t, os⟩ := s
  by_cases e : a = b
  · subst e
    exact PySem.compareOp_eq_same PySem.F.cmp_object (T.inst I.kIn ea ca) (by omega) (fin true (decide_eq_true rfl))
  · exact PySem.compareOp_eq_other PySem.F.cmp_object PySem.F.cmp_object (T.inst I.kIn ea ca) (T.inst I.kIn eb cb) e (by omega) (fin false (decide_eq_false e))
theorem op_neI (hu : X.A.units + 1 < cLine) : OpR X (compareOp .NotEq) (rNeI X.K) := by
  intro pins s σ H x y v u Q I rx ry h
  obtain ⟨a, b, C, dx, dy, fs, gs, rfl, rfl, ha, hb, T, q⟩ := h
  cases (show v = Value.ref a from rx)
  cases (show u = Value.ref b from ry)
  obtain ⟨oa, ea, ca⟩ := ins_at I.hok ha
  obtain ⟨ob, eb, cb⟩ := ins_at I.hok hb
  have fin : ∀ c : Bool, (!decide (a = b)) = c → EP X pins σ Q (.bool c) s := fun c e => ⟨.bl c, H, I, rfl, by rw [← e]; exact q⟩
  obtain ⟨hp, g, d, t, os⟩ := s
  by_cases e : a = b
  · subst e
    exact PySem.compareOp_ne_same PySem.F.cmp_object (T.inst I.kIn ea ca) (by omega) (fin false (by simp))
  · exact PySem.compareOp_ne_other PySem.F.cmp_object PySem.F.cmp_object (T.inst I.kIn ea ca) (T.inst I.kIn eb cb) e (by omega) (fin true (by simp [e]))
variable {K : PySem.W.Frag} {H : Hp} {Q : VK} {a b C dx dy : Addr} {fs gs : List (Str × V)}
theorem rEqI_i (ha : H a = some (.ins C dx fs)) (hb : H b = some (.ins C dy gs)) (T : CmpC K C) (q : Q (.bl (decide (a = b))) H) : rEqI K (.ref a) (.ref b) H Q := ⟨a, b, C, dx, dy, fs, gs, rfl, rfl, ha, hb, T, q⟩
theorem rNeI_i (ha : H a = some (.ins C dx fs)) (hb : H b = some (.ins C dy gs)) (T : CmpC K C) (q : Q (.bl (!decide (a = b))) H) : rNeI K (.ref a) (.ref b) H Q := ⟨a, b, C, dx, dy, fs, gs, rfl, rfl, ha, hb, T, q⟩
end

end L75
namespace L75
open PySem PySem.Spec PyProof.Rows L2
variable {gd : Bool}
local macro_rules | `(tactic| walk_at "y1") => `(tactic| with_reducible first
  | refine tSeq_i ?_ | refine tAsg_i ?_ | refine tCons_i ?_ | refine tNil_i ?_ | refine tC_i ?_ | refine tOp_i ?_ | refine tIfS_i ?_ | refine tTest_i ?_ | refine exBl_i ?_ | refine tRet_i ?_ | refine tCall_i ?_
  | refine tCB_i ?_ | refine tLst_i ?_ | refine tTup_i ?_ | refine rI0_i ?_ | refine tDrop_i ?_ | refine tNext_i ?_ | refine tB_i ?_ | refine tAnd_i ?_ | refine tOr_i ?_ | refine tNot_i ?_ | refine tAndV_i ?_ | refine tOrV_i ?_ | refine tNotV_i ?_
  | refine tIf_i ?_ | refine tUn_i ?_ | refine tDGet_i ?_ | refine sDPut_i ?_ | refine tFld_i ?_ | refine tRetN_i ?_ | refine tBreak_i ?_ | refine tCont_i ?_ | refine rU_i ?_)
local macro_rules | `(tactic| walk_at "yhead") => `(tactic| dsimp only [L2.start, List.map, List.length_cons, List.length_nil, Nat.reduceAdd, Nat.reduceSub, List.replicate, List.cons_append, List.nil_append])
local macro_rules | `(tactic| walk_at "y2") => `(tactic| first
  | walk_at "y1"
  | ((with_reducible refine tVar_i (v := ?v) ?h ?q); (case h => rfl))
  | ((with_reducible refine gName_i ?_); (dsimp only [List.set]))
  | ((with_reducible refine rEq_i ?h ?q); (case h => rfl)) | ((with_reducible refine rNe_i ?h ?q); (case h => rfl)))
local macro_rules | `(tactic| walk_at "y") => `(tactic| repeat walk_at "y2")

/-! `in` and index over lists of instances of one own class -/
theorem eqAt_ins {A : Around} {s : Shared} {a b C : Addr} (xa : s.heap.CmpInst a C [.type "object"]) (xb : s.heap.CmpInst b C [.type "object"]) (hu : A.units < cLine) : SeqAt.EqAt A s (.ref a) (.ref b) (decide (a = b)) := fun prog w E Q hq => by
  obtain ⟨hp, g, d, t, os⟩ := s
  unfold eqBool
  refine wpAny_holding ?_
  by_cases e : a = b
  · subst e
    rw [decide_eq_true rfl] at hq
    wp_walk
    exact hq
  · rw [decide_eq_false e] at hq
    refine wpAny_ite_split (fun hab => absurd (by have := eq_of_beq hab; injection this) e) (fun _ => ?_)
    exact wpAny_bind (PySem.richCompare_eq_other PySem.F.cmp_object PySem.F.cmp_object xa xb e hu (wpAny_truthy_bool hq))
theorem vals_refs : ∀ {as : List Addr} {its : List Value}, Vals (as.map V.ref) its → its = as.map Value.ref
  | [], _, .nil => rfl
  | a :: as, _, .cons r t => by
    cases (show _ = Value.ref a from r)
    rw [vals_refs t]
    rfl
section
variable {X : Cx} {K : PySem.W.Frag}
def InsAll (K : PySem.W.Frag) (H : Hp) (as : List Addr) : Prop := ∃ C, CmpC K C ∧ ∀ a ∈ as, ∃ dx fs, H a = some (.ins C dx fs)
def rNotInI (K : PySem.W.Frag) : R2 := fun x y H Q => ∃ p as a, x = .ref a ∧ y = .ref p ∧ H p = some (.lst (as.map V.ref)) ∧ InsAll K H (a :: as) ∧ Q (.bl (!decide (a ∈ as))) H
def isRef (a : Addr) : Value → Bool | .ref b => decide (b = a) | _ => false
theorem any_isRef {a : Addr} : ∀ as : List Addr, (as.map Value.ref).any (isRef a) = decide (a ∈ as)
  | [] => by simp
  | b :: as => by
    rw [List.map_cons, List.any_cons, any_isRef as]
    show (decide (b = a) || decide (a ∈ as)) = _
    by_cases e : b = a
    · simp [e]
    · simp [e, Ne.symm e]
theorem op_notInI (hu : X.A.units + 65 < cLine) : OpR X (compareOp .NotIn) (rNotInI X.K) := by
  intro pins s σ H x y v u Q I rx ry h
  obtain ⟨p, as, a, rfl, rfl, hp, ⟨C, T, hc⟩, q⟩ := h
  cases (show v = Value.ref a from rx)
  cases (show u = Value.ref p from ry)
  obtain ⟨its, rv, pl, hz⟩ := I.list (SqL.of hp)
  have hl : s.heap.IsList p its.toArray := by
    obtain ⟨o, m, e, c, d, q⟩ := pl
    exact ⟨o, e, c, m, q⟩
  have ci : ∀ b ∈ a :: as, s.heap.CmpInst b C [.type "object"] := fun b hb => by
    obtain ⟨dx, fs, e⟩ := hc b hb
    obtain ⟨o, e1, e2⟩ := ins_at I.hok e
    exact T.inst I.kIn e1 e2
  rw [vals_refs rv] at hl
  have hs : X.A.in1.units < cLine := by show X.A.units + 1 < cLine; omega
  refine SeqAt.notIn_listAt (isRef a) hl (fun v hv => ?_) ?_
  · obtain ⟨b, hb, rfl⟩ := List.mem_map.mp (show v ∈ as.map Value.ref by simpa using hv)
    exact eqAt_ins (ci b (List.mem_cons_of_mem _ hb)) (ci a List.mem_cons_self) hs
  · refine ⟨.bl _, H, I, rfl, ?_⟩
    rw [show (as.map Value.ref).toArray.any (isRef a) = (as.map Value.ref).any (isRef a) from List.any_toArray .., any_isRef]
    exact q
def rIdxI (K : PySem.W.Frag) : V → List V → Hp → VK → Prop := fun x xs H Q => ∃ p as a, x = .ref p ∧ xs = [.ref a] ∧ H p = some (.lst (as.map V.ref)) ∧ InsAll K H as ∧ a ∈ as ∧ Q (.int (as.idxOf a : Nat)) H
theorem mt_idxI (hK : X.K = K) (hu : X.A.units + 65 < cLine) : MtR X "list.index" (rIdxI K) := by
  subst hK
  intro pins s σ H x xs v us Q I rx rs h
  obtain ⟨p, as, a, rfl, rfl, hp, ⟨C, T, hc⟩, ha, q⟩ := h
  cases (show v = Value.ref p from rx)
  obtain ⟨u, rfl, hu0⟩ := vals1 rs
  cases (show u = Value.ref a from hu0)
  obtain ⟨its, rv, pl, hz⟩ := I.list (SqL.of hp)
  have hl : s.heap.IsList p its.toArray := by
    obtain ⟨o, m, e, c, d, q⟩ := pl
    exact ⟨o, e, c, m, q⟩
  have hn : as.length ≤ sizeLine := by simpa using hz
  have ci : ∀ b ∈ as, s.heap.CmpInst b C [.type "object"] := fun b hb => by
    obtain ⟨dx, fs, e⟩ := hc b hb
    obtain ⟨o, e1, e2⟩ := ins_at I.hok e
    exact T.inst I.kIn e1 e2
  have hs : X.A.in1.units < cLine := by show X.A.units + 1 < cLine; omega
  refine SeqAt.call_list_index (ks := as) (k := a) hl ⟨?_, fun j h1 h2 => ?_⟩ hn ha ⟨.int _, H, I.tok _, ⟨_, rfl⟩, q⟩
  · rw [vals_refs rv, List.length_map]
  · have e : its[j] = .ref as[j] := by
      have := vals_refs rv
      subst this
      simp
    rw [e]
    exact eqAt_ins (ci _ (List.getElem_mem h2)) (ci a ha) hs
/-- a tuple that holds no such datum -/
def rNotInDT (K : PySem.W.Frag) : R2 := fun x y H Q => ∃ d ds, Dp K H x d ∧ Dp K H y (.tuple ds) ∧ SeqAt.shaped d = true ∧ SeqAt.shaped (.tuple ds) = true ∧ Q (.bl (!ds.any fun z => PyData.eqv z d)) H
theorem op_notInDT (hu : X.A.units + 65 < cLine) : OpR X (compareOp .NotIn) (rNotInDT X.K) := by
  intro pins s σ H x y v u Q I rx ry h
  obtain ⟨d, ds, hd, he, sd, se, q⟩ := h
  obtain ⟨as, r1⟩ := Dp.reads I d x v hd rx
  obtain ⟨bs, r2⟩ := Dp.reads I (.tuple ds) y u he ry
  exact SeqAt.notIn_tuple_reads r2 r1 (SeqAt.canLay_of_shaped se) (SeqAt.canLay_of_shaped sd) (room_in_shaped sd hu) ⟨.bl _, H, I, rfl, q⟩
def rNotInDB (K : PySem.W.Frag) : R2 := fun x y H Q => rNotInD K x y H Q ∨ rNotInDT K x y H Q
theorem op_notInDB (hu : X.A.units + 65 < cLine) : OpR X (compareOp .NotIn) (rNotInDB X.K) := (op_notInD hu).or (op_notInDT hu)
end

end L75
namespace L75
open PySem PySem.Spec PyProof.Rows L2
variable {gd : Bool}
local macro_rules | `(tactic| walk_at "y1") => `(tactic| with_reducible first
  | refine tSeq_i ?_ | refine tAsg_i ?_ | refine tCons_i ?_ | refine tNil_i ?_ | refine tC_i ?_ | refine tOp_i ?_ | refine tIfS_i ?_ | refine tTest_i ?_ | refine exBl_i ?_ | refine tRet_i ?_ | refine tCall_i ?_
  | refine tCB_i ?_ | refine tLst_i ?_ | refine tTup_i ?_ | refine rI0_i ?_ | refine tDrop_i ?_ | refine tNext_i ?_ | refine tB_i ?_ | refine tAnd_i ?_ | refine tOr_i ?_ | refine tNot_i ?_ | refine tAndV_i ?_ | refine tOrV_i ?_ | refine tNotV_i ?_
  | refine tYes_i ?_ | refine tTM_i ?_ | refine tPar_i ?_ | refine tSl_i ?_ | refine tNoPart_i ?_ | refine tPart_i ?_ | refine part_i ?_ | refine tMake_i ?_ | refine tProp_i ?_ | refine tCallOG_i ?_ | refine tVeI_i ?_ | refine tOst_i ?_ | refine tMkO_i ?_ | refine sFld_i ?_ | refine fldaug_i ?_ | refine gCons_i ?_ | refine gNil_i ?_ | refine tChain_i ?_ | refine tBM_i ?_ | refine rAdd2_i ?_ | refine rLe2_i ?_ | refine rEq2_i ?_ | refine rEq2_ss ?_ | refine rNe2_i ?_ | refine rNe2_ss ?_ | refine rIsN_i ?_ | refine rNotN_i ?_ | refine tTup_i2 ?_ | refine tIf_i ?_ | refine tUn_i ?_ | refine tDGet_i ?_ | refine sDPut_i ?_ | refine tFld_i ?_ | refine tRetN_i ?_ | refine tBreak_i ?_ | refine tCont_i ?_ | refine rU_i ?_)
local macro_rules | `(tactic| walk_at "yhead") => `(tactic| dsimp only [L2.start, List.map, List.length_cons, List.length_nil, Nat.reduceAdd, Nat.reduceSub, List.replicate, List.cons_append, List.nil_append])
local macro_rules | `(tactic| walk_at "y2") => `(tactic| first
  | walk_at "y1"
  | ((with_reducible refine tVar_i (v := ?v) ?h ?q); (case h => rfl))
  | ((with_reducible refine gName_i ?_); (dsimp only [L2.wipe, List.set]))
  | with_reducible refine iteT ?_ | with_reducible refine iteF ?_ | with_reducible refine iteNT ?_ | with_reducible refine iteNF ?_
  | ((with_reducible refine iteDT ?h ?q); (case h => first | decide +kernel | omega | assumption | exact nv1 | exact nv2 | exact nv3 | exact nv4)) | ((with_reducible refine iteDF ?h ?q); (case h => first | decide +kernel | omega | assumption | exact nv1 | exact nv2 | exact nv3 | exact nv4))
  | ((with_reducible refine iteNDT ?h ?q); (case h => first | decide +kernel | omega | assumption | exact nv1 | exact nv2 | exact nv3 | exact nv4)) | ((with_reducible refine iteNDF ?h ?q); (case h => first | decide +kernel | omega | assumption | exact nv1 | exact nv2 | exact nv3 | exact nv4))
  | ((with_reducible refine rIsi2_1 (T := ?T) (b := true) ?ty ?h ?q); (case ty => first | exact ty_str | exact ty_int | exact ty_bl | exact ty_non); (case h => decide +kernel))
  | ((with_reducible refine rIsi2_1 (T := ?T) (b := false) ?ty ?h ?q); (case ty => first | exact ty_str | exact ty_int | exact ty_bl | exact ty_non); (case h => decide +kernel))
  | ((with_reducible refine rEq2_s ?h ?q); (case h => rfl)) | ((with_reducible refine rNe2_s ?h ?q); (case h => rfl))
  | ((with_reducible refine rEq_i ?h ?q); (case h => rfl)) | ((with_reducible refine rNe_i ?h ?q); (case h => rfl)))
local macro_rules | `(tactic| walk_at "y") => `(tactic| repeat walk_at "y2")

section
variable {P : Program} {w : World} {K : PySem.W.Frag} {mg : Str → Option Value} {base : Heap}
def IsF (K : PySem.W.Frag) (H : Hp) (v : V) : Prop := ∃ a dx fs, v = .ref a ∧ H a = some (.ins (He.ga K "Fault") dx fs)
def spSNF (K : PySem.W.Frag) : Sp := sp1 fun v H Q _ => IsF K H v ∧ Q .non H
theorem sc_s7_need_fault : FnScope ["value"] ["value"] (defScope (top 36)) := ⟨rfl, rfl, rfl, by decide +kernel, rfl, by decide +kernel, by decide +kernel⟩
theorem c_s7_need_fault (T : Sy K mg) : Cal gd P w K mg base CX0 1 "s7_need_fault" (spSNF K) := by
  refine T.cal (F_s7_need_fault T) sc_s7_need_fault sp1_len (fun cdv f A outer s H vs Q E z h => ?_) (fun _ _ _ _ _ _ us hl => match us, hl with | [_], _ => rfl)
  have hu1 := hu_1 z; have hu2 := hu_2 z; have hu3 := hu_3 z
  obtain ⟨x0, rfl, h⟩ := h
  refine ⟨_, (pss_one (ps_if (pt_not (pt_val (pe_callB (r := rIsi2 K) call_isi2 (by rfl) (T.free "isinstance") (by decide +kernel) (pa_cons (pv 0) (pa_cons (pe_gl (T.glo "Fault")) pa_nil))))) (pss_one (ps_never)) pss_nil)), ?_⟩
  obtain ⟨⟨a, dx, fs, rfl, ha⟩, q⟩ := h
  walk_at "yhead"; walk_at "y"
  refine rIsi2_o (b := true) (ty_ins ha (T.cls "Fault") T.xF.fi) kit_self ?_
  walk_at "y"
  exact q
/-- cycle_of a fault without links -/
def spCyc (K : PySem.W.Frag) : Sp := sp2 fun x l H Q _ => ∃ a dx k lb n h, x = .ref a ∧ FaultAt K H a dx k lb n .non .non h ∧ (l = .str "context" ∨ l = .str "cause") ∧ ∀ D H', Same H H' → H' D = some (.lst []) → Q (.ref D) H'
theorem frow_c {k l : Str} {n : Int} {c u : V} {h : Bool} : List.lookup (Str.ofString "s1_context") (frow k l n c u h) = some c := by kernel_rfl
theorem frow_u {k l : Str} {n : Int} {c u : V} {h : Bool} : List.lookup (Str.ofString "s1_cause") (frow k l n c u h) = some u := by kernel_rfl
theorem sc_cycle_of : FnScope ["fault", "link", "passed", "here", "one"] ["fault", "link"] (defScope (top 37)) := ⟨rfl, rfl, rfl, by decide +kernel, rfl, by decide +kernel, by decide +kernel⟩
structure CycF (gd : Bool) (P : Program) (w : World) (K : PySem.W.Frag) (mg : Str → Option Value) (base : Heap) : Prop where
  ex : ∃ (f : Addr) (fd : FuncData) (ps : List Str) (mv : List Value), FnG gd P w K mg base CX0 3 f fd ps (spCyc K) ∧ mg "cycle_of" = some (.ref f) ∧ PySem.W.keepIn K (.ref f) = true ∧
    KBn K fd ps 0 ["fault"] (fun us ws => us ++ (ws ++ mv)) (fun vs zs => vs ++ (zs ++ [.str "context"])) ∧ KBn K fd ps 0 ["link", "fault"] (fun us ws => swp us ws) (fun vs zs => swp vs zs)
theorem c_cycle_of (T : Sy K mg) : CycF gd P w K mg base := by
  obtain ⟨fd, F⟩ := F_cycle_of T
  replace F : FunD K "cycle_of" "cycle_of" _ _ _ [] [("link", V.str "context")] _ fd := F
  obtain ⟨mv, kb⟩ := F.kbinds0 (ps := ["fault", "link"]) 0 ["fault"] [("link", V.str "context")] (fun us mv ws => us ++ (ws ++ mv)) (by simp) (fun q hq => hq) (fun h1 h2 h3 => h1.append (h3.append h2)) fun D doc pm an cdv ct us mv ws l1 l2 l3 => match us, l1, mv, l2, ws, l3 with | [], _, [_], _, [_], _ => ⟨_, _, _, _, _, _, rfl, rfl, rfl⟩
  obtain ⟨mv2, kb2⟩ := F.kbinds0 (ps := ["fault", "link"]) 0 ["link", "fault"] [] (fun us _ ws => swp us ws) (by simp) (fun q hq => by cases hq) (fun h1 _ h3 => swp_rel h1 h3) fun D doc pm an cdv ct us mv ws l1 l2 l3 => match us, l1, mv, l2, ws, l3 with | [], _, [], _, [_, _], _ => rfl
  refine ⟨_, fd, ["fault", "link"], mv, FnG.body F sc_cycle_of sp2_len (fun cdv A outer s H vs Q E z h => qt ?_), T.glo "cycle_of", F.kp, kb, kb2⟩
  have hu1 := hu_1 z; have hu2 := hu_2 z; have hu3 := hu_3 z
  obtain ⟨x0, x1, rfl, a, dx, k, lb, n, hh, rfl, fa, hl, q⟩ := h
  refine ⟨_, (pss_cons (ps_expr (pe_c (c_s7_need_fault T) z (pa_cons (pv 0) pa_nil))) (pss_cons (ps_if (pt_not (pt_val (pe_c (c_s7_is_word T) z (pa_cons (pv 1) (pa_cons (pe_tup (pa_cons pe_str (pa_cons pe_str pa_nil))) pa_nil))))) (pss_one (ps_never)) pss_nil) (pss_cons (ps_par (i := 2) (j := 3) (by rfl) sc_cycle_of.nd rfl rfl (by decide) rfl rfl (pa_cons (pe_lst pa_nil) (pa_cons (pv 0) pa_nil)) (by rfl)) (pss_cons (ps_while PassesOwn.never (PW.pt (pw_and (pt_cmpR (r := rNotN) op_notN (pv 3) pe_non (nomark _)) (pw_and1 (pt_cmpR (r := rNotInI K) (op_notInI hu2) (pv 3) (pv 2) rfl)))) (pss_cons (ps_expr (pe_bmK (K := K) rfl PySem.F.plainAttrs_list PySem.F.slot_list_append PySem.F.type_list_append mt_append2 (pv 2) (pa_cons (pv 3) pa_nil))) (pss_one (ps_set (i := 3) sc_cycle_of.nd rfl (by first | exact Or.inl rfl | exact Or.inr rfl) (pe_ifExp (pt_cmpR (r := rEq2 K) (op_eq2 hu1) (pv 1) pe_str (nomark _)) (pe_prK (K := K) rfl (p_context T) z (pv 3)) (pe_prK (K := K) rfl (p_cause T) z (pv 3))))))) (pss_cons (ps_if (pt_cmpR (r := rIsN) op_isN (pv 3) pe_non (nomark _)) (pss_one (ps_ret (pe_lst pa_nil))) pss_nil) (pss_one (ps_never))))))), ?_⟩
  walk_at "yhead"; walk_at "y"
  refine ⟨_, rfl, ⟨a, dx, _, rfl, fa⟩, ?_⟩
  walk_at "y"
  refine ⟨sz4 (by simp), fun p np => ?_⟩
  have sH1 := same_upd (H := H) (o := .tup [.str "context", .str "cause"]) np
  have ep := upd_same (H := H) (a := p) (o := .tup [.str "context", .str "cause"])
  generalize upd H p (.tup [.str "context", .str "cause"]) = H1 at sH1 ep ⊢
  have wd : wordB [.str "context", .str "cause"] (vItm x1) = true := by rcases hl with rfl | rfl <;> decide +kernel
  have wa : (vItm x1).At H1 x1 := by rcases hl with rfl | rfl <;> exact ⟨rfl, by decide +kernel⟩
  refine ⟨_, _, rfl, p, _, _, rfl, ep, rfl, wa, ?_⟩
  rw [wd]
  walk_at "y"
  refine ⟨sz4 (by simp), fun l nl => ?_⟩
  have sH2 := same_upd (H := H1) (o := .lst []) nl
  have el := upd_same (H := H1) (a := l) (o := .lst [])
  generalize upd H1 l (.lst []) = H2 at sH2 el ⊢
  walk_at "y"
  refine ⟨_, _, rfl, ?_⟩
  walk_at "y"
  have s2 := sH1.trans sH2
  refine ⟨fun m σ H' => (m = 1 ∧ H' = H2 ∧ σ = [some (.ref a), some x1, some (.ref l), some (.ref a), none]) ∨ (m = 0 ∧ Same H H' ∧ ∃ v, σ = [some (.ref a), some x1, some (.ref l), some .non, v]), ⟨1, .inl ⟨rfl, rfl, rfl⟩⟩, fun m σ H' hw => ?_⟩
  rcases hw with ⟨rfl, rfl, rfl⟩ | ⟨rfl, s3, v, rfl⟩
  · walk_at "y"
    refine ⟨l, [], a, rfl, rfl, el, ⟨_, T.xF.cm, fun b hb => by rw [List.mem_singleton.mp hb]; exact ⟨_, _, s2 _ _ fa⟩⟩, ?_⟩
    rw [show (!decide (a ∈ ([] : List Addr))) = true by simp]
    refine ⟨_, rfl, ?_⟩
    rw [if_pos rfl]
    refine ⟨fun σ H' => Same H H' ∧ ∃ v, σ = [some (.ref a), some x1, some (.ref l), some .non, v], fun σ' H' hN => ⟨0, by decide, .inr ⟨rfl, hN⟩⟩, ?_⟩
    walk_at "y"
    refine ⟨tyL el, ?_⟩
    walk_at "y"
    refine appU_i el (Nat.lt_of_lt_of_le (show 0 < 1 by decide) (sz4 (n := 1))) fun H3 e3 u3 => ?_
    have s3 : Same H H3 := fun b o e => by
      have nb : b ≠ l := ne_of_none (sH1 _ _ e) nl
      exact (u3 b nb).trans (s2 _ _ e)
    have fld : ∀ {Q' : VK} {E' : XK} {f : Str}, List.lookup f (frow k lb n .non .non hh) = some .non → Q' .non H3 → ∃ a' dx' fs', V.ref a = .ref a' ∧ H3 a' = some (.ins (He.ga K "Fault") dx' fs') ∧ spFld K "Fault" f (.ref a' :: []) H3 Q' E' := fun e qq => ⟨a, dx, _, rfl, s3 _ _ fa, _, rfl, a, dx, _, .non, rfl, s3 _ _ fa, e, qq⟩
    walk_at "y"
    rcases hl with rfl | rfl
    · walk_at "y"
      refine fld frow_c ?_
      walk_at "y"
      exact ⟨s3, _, rfl⟩
    · walk_at "y"
      refine fld frow_u ?_
      walk_at "y"
      exact ⟨s3, _, rfl⟩
  · walk_at "y"
    refine ⟨sz4 (by simp), fun D nD => ?_⟩
    have sH4 := same_upd (H := H') (o := .lst []) nD
    have eD := upd_same (H := H') (a := D) (o := .lst [])
    generalize upd H' D (.lst []) = H4 at sH4 eD ⊢
    exact q D H4 (s3.trans sH4) eD
end

end L75
namespace L75
open PySem PySem.Spec PyProof.Rows L2
variable {gd : Bool}
local macro_rules | `(tactic| walk_at "y1") => `(tactic| with_reducible first
  | refine tSeq_i ?_ | refine tAsg_i ?_ | refine tCons_i ?_ | refine tNil_i ?_ | refine tC_i ?_ | refine tOp_i ?_ | refine tIfS_i ?_ | refine tTest_i ?_ | refine exBl_i ?_ | refine tRet_i ?_ | refine tCall_i ?_
  | refine tCB_i ?_ | refine tLst_i ?_ | refine tTup_i ?_ | refine rI0_i ?_ | refine tDrop_i ?_ | refine tNext_i ?_ | refine tB_i ?_ | refine tAnd_i ?_ | refine tOr_i ?_ | refine tNot_i ?_ | refine tAndV_i ?_ | refine tOrV_i ?_ | refine tNotV_i ?_
  | refine tYes_i ?_ | refine tTM_i ?_ | refine tPar_i ?_ | refine tSl_i ?_ | refine tNoPart_i ?_ | refine tPart_i ?_ | refine part_i ?_ | refine tMake_i ?_ | refine tProp_i ?_ | refine tCallOG_i ?_ | refine tVeI_i ?_ | refine tOst_i ?_ | refine tMkO_i ?_ | refine sFld_i ?_ | refine fldaug_i ?_ | refine gCons_i ?_ | refine gNil_i ?_ | refine tChain_i ?_ | refine tBM_i ?_ | refine rAdd2_i ?_ | refine rLe2_i ?_ | refine rEq2_i ?_ | refine rEq2_ss ?_ | refine rNe2_i ?_ | refine rNe2_ss ?_ | refine rIsN_i ?_ | refine rNotN_i ?_ | refine tTup_i2 ?_ | refine tIf_i ?_ | refine tUn_i ?_ | refine tDGet_i ?_ | refine sDPut_i ?_ | refine tFld_i ?_ | refine tRetN_i ?_ | refine tBreak_i ?_ | refine tCont_i ?_ | refine rU_i ?_)
local macro_rules | `(tactic| walk_at "yhead") => `(tactic| dsimp only [L2.start, List.map, List.length_cons, List.length_nil, Nat.reduceAdd, Nat.reduceSub, List.replicate, List.cons_append, List.nil_append])
local macro_rules | `(tactic| walk_at "y2") => `(tactic| first
  | walk_at "y1"
  | ((with_reducible refine tVar_i (v := ?v) ?h ?q); (case h => rfl))
  | ((with_reducible refine gName_i ?_); (dsimp only [L2.wipe, List.set]))
  | with_reducible refine iteT ?_ | with_reducible refine iteF ?_ | with_reducible refine iteNT ?_ | with_reducible refine iteNF ?_
  | ((with_reducible refine iteDT ?h ?q); (case h => first | decide +kernel | omega | assumption | exact nv1 | exact nv2 | exact nv3 | exact nv4)) | ((with_reducible refine iteDF ?h ?q); (case h => first | decide +kernel | omega | assumption | exact nv1 | exact nv2 | exact nv3 | exact nv4))
  | ((with_reducible refine iteNDT ?h ?q); (case h => first | decide +kernel | omega | assumption | exact nv1 | exact nv2 | exact nv3 | exact nv4)) | ((with_reducible refine iteNDF ?h ?q); (case h => first | decide +kernel | omega | assumption | exact nv1 | exact nv2 | exact nv3 | exact nv4))
  | ((with_reducible refine rIsi2_1 (T := ?T) (b := true) ?ty ?h ?q); (case ty => first | exact ty_str | exact ty_int | exact ty_bl | exact ty_non); (case h => decide +kernel))
  | ((with_reducible refine rIsi2_1 (T := ?T) (b := false) ?ty ?h ?q); (case ty => first | exact ty_str | exact ty_int | exact ty_bl | exact ty_non); (case h => decide +kernel))
  | ((with_reducible refine rEq2_s ?h ?q); (case h => rfl)) | ((with_reducible refine rNe2_s ?h ?q); (case h => rfl))
  | ((with_reducible refine rEq_i ?h ?q); (case h => rfl)) | ((with_reducible refine rNe_i ?h ?q); (case h => rfl)))
local macro_rules | `(tactic| walk_at "y") => `(tactic| repeat walk_at "y2")

/-! what the functions of a good log give, as data -/
mutual
theorem dp_same {K : PySem.W.Frag} {H H' : Hp} (s : Same H H') : ∀ {v : V} {d : PyData}, Dp K H v d → Dp K H' v d
  | _, _, .non => .non
  | _, _, .bl b => .bl b
  | _, _, .int i => .int i
  | _, _, .str x => .str x
  | _, _, .lst h a => .lst (SqB.same (b := true) h s) (dpAll_same s a)
  | _, _, .tup h a => .tup (SqB.same (b := false) h s) (dpAll_same s a)
theorem dpAll_same {K : PySem.W.Frag} {H H' : Hp} (s : Same H H') : ∀ {vs : List V} {ds : List PyData}, DpAll K H vs ds → DpAll K H' vs ds
  | _, _, .nil => .nil
  | _, _, .cons a t => .cons (dp_same s a) (dpAll_same s t)
end
def rowsD {α : Type} (f : α → List V) (as : List α) : PyData := .list (as.map fun a => .tuple ((f a).map vD))
def intsD (ns : List Int) : PyData := .list ((ns.map V.int).map vD)
def resD (es : List Ev) : List PyData := [rowsD spanV (spansOf es), intsD (neverOf es), .int (stAt es es.length).most, rowsD pairV (crossOf es es.length), intsD (flawsOf es), rowsD flawV (flawsOf es)]
theorem num_sm {n : Int} (h : numOk n) : smV (.int n) = true := by
  obtain ⟨h0, h | h⟩ := h
  · exact sm_int (by omega)
  · show (decide _ || decide _) = true
    rw [decide_eq_true h, Bool.or_true]
theorem rows_sm {α : Type} {f : α → List V} {as : List α} {n m : Nat} (h : ∀ a ∈ as, (f a).all smV = true ∧ (f a).length ≤ n) (hl : as.length ≤ m) (hb : m * (n * 21 + 1) ≤ 60000) : Sm 2 60000 (rowsD f as) := by
  have q := Sm.list (sm_TR (n := n) (f := f) h)
  rw [List.length_map] at q
  exact q.mono (Nat.le_refl _) (Nat.le_trans (Nat.mul_le_mul_right _ hl) hb)
theorem rows_dp {K : PySem.W.Frag} {α : Type} {f : α → List V} {as : List α} {H : Hp} {D : Addr} {vs : List V} (h : ∀ a ∈ as, (f a).all smV = true) (e : H D = some (.lst vs)) (pr : Paired (TR f H) vs as) : Dp K H (.ref D) (rowsD f as) := .lst (SqL.of e) (dp_TRm (fun a ha => all_pl (h a ha)) pr)
theorem ints_sm {ns : List Int} (h : ∀ n ∈ ns, smV (.int n) = true) (hl : ns.length ≤ 100) : Sm 2 60000 (intsD ns) := by
  have q := sm_lst (xs := ns.map V.int) (List.all_eq_true.mpr fun v hv => by obtain ⟨n, hn, rfl⟩ := List.mem_map.mp hv; exact h n hn)
  rw [List.length_map] at q
  exact q.mono (by decide) (Nat.le_trans (Nat.mul_le_mul_right _ hl) (by decide))
theorem ints_dp {K : PySem.W.Frag} {ns : List Int} {H : Hp} {D : Addr} (e : H D = some (.lst (ns.map V.int))) : Dp K H (.ref D) (intsD ns) := dp_lst (SqL.of e) (by rw [List.all_map]; exact List.all_eq_true.mpr fun _ _ => rfl)
section
variable {es : List Ev}
theorem ends_lt {n : Int} {i j : Nat} (h : j ∈ endsOf es n i) : j < es.length := by
  obtain ⟨k, hk, ek⟩ := List.mem_filterMap.mp h
  have := List.mem_range.mp hk
  split at ek
  · cases ek; omega
  · cases ek
theorem span_of {t : Int × Nat × Option Nat} (ok : ∀ e ∈ es, e.ok) (h : t ∈ spansOf es) : numOk t.1 ∧ t.2.1 < es.length ∧ ∀ j, t.2.2 = some j → j < es.length := by
  obtain ⟨i, hi, ei⟩ := List.mem_filterMap.mp h
  have hi := List.mem_range.mp hi
  unfold spanAt at ei
  split at ei
  · rename_i n e
    cases ei
    refine ⟨ok _ (List.mem_of_getElem? e), hi, fun j hj => ends_lt (n := n) (i := i) (List.mem_of_head? hj)⟩
  · cases ei
theorem spans_row (ok : ∀ e ∈ es, e.ok) (hl : es.length ≤ 40) : ∀ a ∈ spansOf es, (spanV a).all smV = true ∧ (spanV a).length ≤ 3 := fun a ha => by
  obtain ⟨h1, h2, h3⟩ := span_of ok ha
  obtain ⟨n, i, o⟩ := a
  refine ⟨?_, Nat.le_refl 3⟩
  have hi : smV (.int (i : Nat)) = true := sm_int (by simp only at h2; omega)
  cases o with
  | none =>
    show (smV (.int n) && (smV (.int (i : Nat)) && (smV .non && true))) = true
    rw [num_sm h1, hi]; rfl
  | some j =>
    have hj : smV (.int (j : Nat)) = true := sm_int (by have := h3 j rfl; omega)
    show (smV (.int n) && (smV (.int (i : Nat)) && (smV (.int (j : Nat)) && true))) = true
    rw [num_sm h1, hi, hj]; rfl
theorem never_ok (ok : ∀ e ∈ es, e.ok) : ∀ n ∈ neverOf es, smV (.int n) = true := fun n hn => by
  obtain ⟨t, ht, et⟩ := List.mem_filterMap.mp hn
  split at et
  · cases et; exact num_sm (span_of ok ht).1
  · cases et
theorem step_num {s : WSt} {e : Ev} (h : ∀ m ∈ s.opn, numOk m) (ok : e.ok) : ∀ m ∈ (s.step e).opn, numOk m := fun m hm => by
  cases e with
  | op n =>
    have hm : m ∈ (if n ∈ s.opn then s.opn else s.opn ++ [n]) := hm
    split at hm
    · exact h m hm
    · rcases List.mem_append.mp hm with hm | hm
      · exact h m hm
      · rw [List.mem_singleton.mp hm]; exact ok
  | sh n => exact h m (List.mem_filter.mp hm).1
  | _ => exact h m hm
theorem stAt_over {i : Nat} (h : es.length ≤ i) : stAt es (i + 1) = stAt es i := by unfold stAt; rw [List.take_of_length_le (by omega), List.take_of_length_le (by omega)]
theorem stAt_num (ok : ∀ e ∈ es, e.ok) : ∀ i, ∀ m ∈ (stAt es i).opn, numOk m
  | 0 => fun m hm => by cases (show m ∈ ([] : List Int) from hm)
  | i + 1 => by
    cases h : es[i]? with
    | some e => rw [stAt_succ h]; exact step_num (stAt_num ok i) (ok e (List.mem_of_getElem? h))
    | none => rw [stAt_over (List.getElem?_eq_none_iff.mp h)]; exact stAt_num ok i
theorem stAt_most : ∀ i : Nat, 0 ≤ (stAt es i).most ∧ (stAt es i).most ≤ i
  | 0 => ⟨Int.le_refl _, Int.le_refl _⟩
  | i + 1 => by
    have ih := stAt_most i
    cases h : es[i]? with
    | some e =>
      rw [stAt_succ h]
      have hl := step_opn (stAt es i) e
      have ho := stAt_opn es i
      cases e with
      | op n =>
        have hl : (if n ∈ (stAt es i).opn then (stAt es i).opn else (stAt es i).opn ++ [n]).length ≤ (stAt es i).opn.length + 1 := hl
        show 0 ≤ max (stAt es i).most _ ∧ max (stAt es i).most _ ≤ _
        generalize (if n ∈ (stAt es i).opn then (stAt es i).opn else (stAt es i).opn ++ [n]).length = z at hl ⊢
        rw [Int.max_def]
        split <;> omega
      | _ => exact ⟨ih.1, by have := ih.2; show (stAt es i).most ≤ _; omega⟩
    | none => rw [stAt_over (List.getElem?_eq_none_iff.mp h)]; omega
theorem cross_row (ok : ∀ e ∈ es, e.ok) (hl : es.length ≤ 40) : ∀ a ∈ crossOf es es.length, (pairV a).all smV = true ∧ (pairV a).length ≤ 2 := fun a ha => by
  obtain ⟨i, hi, ea⟩ := List.mem_flatMap.mp ha
  have hi := List.mem_range.mp hi
  unfold crossAt at ea
  split at ea
  · rename_i n e
    split at ea
    · obtain ⟨m, hm, rfl⟩ := List.mem_map.mp ea
      have hm2 := List.mem_of_mem_drop ((srt_perm _).mem_iff.mp hm)
      refine ⟨?_, Nat.le_refl 2⟩
      show (smV (.int (i : Nat)) && (smV (.int m) && true)) = true
      rw [sm_int (by omega), num_sm (stAt_num ok i m hm2)]
      rfl
    · cases ea
  · cases ea
theorem flaws_ok (hl : es.length ≤ 40) : ∀ n ∈ flawsOf es, smV (.int n) = true := fun n hn => by
  obtain ⟨i, hi, ei⟩ := List.mem_filterMap.mp hn
  have hi := List.mem_range.mp hi
  cases h : es[i]? with
  | none => rw [h] at ei; cases ei
  | some e =>
    rw [h, Option.bind_some] at ei
    split at ei
    · cases ei
    · cases ei; exact sm_int (by omega)
theorem flaw_row (hl : es.length ≤ 40) : ∀ a ∈ flawsOf es, (flawV a).all smV = true ∧ (flawV a).length ≤ 2 := fun a ha => by
  refine ⟨?_, Nat.le_refl 2⟩
  show (smV (.str "flaw") && (smV (.int a) && true)) = true
  rw [flaws_ok hl a ha, show smV (.str "flaw") = true by decide +kernel]
  rfl
theorem never_len : (neverOf es).length ≤ es.length := Nat.le_trans (List.length_filterMap_le ..) (spans_len es)
theorem resD_sm (ok : ∀ e ∈ es, e.ok) (hl : es.length ≤ 30) : ∀ d ∈ resD es, Sm 2 60000 d := fun d hd => by
  have h40 : es.length ≤ 40 := by omega
  have l1 := spans_len es
  have l2 := never_len (es := es)
  have l3 := crossOf_len es es.length h40
  have l4 := flawsOf_len es
  simp only [resD, List.mem_cons, List.not_mem_nil, or_false] at hd
  rcases hd with rfl | rfl | rfl | rfl | rfl | rfl
  · exact rows_sm (m := 30) (spans_row ok h40) (by omega) (by decide)
  · exact ints_sm (never_ok ok) (by omega)
  · have := stAt_most (es := es) es.length
    exact (Sm.int (by omega) (by omega)).mono (by decide) (by decide)
  · exact rows_sm (m := 1200) (cross_row ok h40) (by omega) (by decide)
  · exact ints_sm (flaws_ok h40) (by omega)
  · exact rows_sm (m := 30) (flaw_row h40) (by omega) (by decide)
theorem res_sm (ok : ∀ e ∈ es, e.ok) (hl : es.length ≤ 30) : Sm 50 390000 (.list (resD es)) := (Sm.list (resD_sm ok hl)).mono (by decide) (by show 6 * 60001 ≤ 390000; decide)
end

end L75
namespace L75
open PySem PySem.Spec PyProof.Rows L2
variable {gd : Bool}
local macro_rules | `(tactic| walk_at "y1") => `(tactic| with_reducible first
  | refine tSeq_i ?_ | refine tAsg_i ?_ | refine tCons_i ?_ | refine tNil_i ?_ | refine tC_i ?_ | refine tOp_i ?_ | refine tIfS_i ?_ | refine tTest_i ?_ | refine exBl_i ?_ | refine tRet_i ?_ | refine tCall_i ?_
  | refine tCB_i ?_ | refine tLst_i ?_ | refine tTup_i ?_ | refine rI0_i ?_ | refine tDrop_i ?_ | refine tNext_i ?_ | refine tB_i ?_ | refine tAnd_i ?_ | refine tOr_i ?_ | refine tNot_i ?_ | refine tAndV_i ?_ | refine tOrV_i ?_ | refine tNotV_i ?_
  | refine tYes_i ?_ | refine tTM_i ?_ | refine tPar_i ?_ | refine tSl_i ?_ | refine tNoPart_i ?_ | refine tPart_i ?_ | refine part_i ?_ | refine tMake_i ?_ | refine tProp_i ?_ | refine tCallOG_i ?_ | refine tVeI_i ?_ | refine tOst_i ?_ | refine tMkO_i ?_ | refine sFld_i ?_ | refine fldaug_i ?_ | refine gCons_i ?_ | refine gNil_i ?_ | refine tChain_i ?_ | refine tBM_i ?_ | refine rAdd2_i ?_ | refine rLe2_i ?_ | refine rEq2_i ?_ | refine rEq2_ss ?_ | refine rNe2_i ?_ | refine rNe2_ss ?_ | refine rIsN_i ?_ | refine rNotN_i ?_ | refine tTup_i2 ?_ | refine tIf_i ?_ | refine tUn_i ?_ | refine tDGet_i ?_ | refine sDPut_i ?_ | refine tFld_i ?_ | refine tRetN_i ?_ | refine tBreak_i ?_ | refine tCont_i ?_ | refine rU_i ?_)
local macro_rules | `(tactic| walk_at "yhead") => `(tactic| dsimp only [L2.start, List.map, List.length_cons, List.length_nil, Nat.reduceAdd, Nat.reduceSub, List.replicate, List.cons_append, List.nil_append])
local macro_rules | `(tactic| walk_at "y2") => `(tactic| first
  | walk_at "y1"
  | ((with_reducible refine tVar_i (v := ?v) ?h ?q); (case h => rfl))
  | ((with_reducible refine gName_i ?_); (dsimp only [L2.wipe, List.set]))
  | with_reducible refine iteT ?_ | with_reducible refine iteF ?_ | with_reducible refine iteNT ?_ | with_reducible refine iteNF ?_
  | ((with_reducible refine iteDT ?h ?q); (case h => first | decide +kernel | omega | assumption | exact nv1 | exact nv2 | exact nv3 | exact nv4)) | ((with_reducible refine iteDF ?h ?q); (case h => first | decide +kernel | omega | assumption | exact nv1 | exact nv2 | exact nv3 | exact nv4))
  | ((with_reducible refine iteNDT ?h ?q); (case h => first | decide +kernel | omega | assumption | exact nv1 | exact nv2 | exact nv3 | exact nv4)) | ((with_reducible refine iteNDF ?h ?q); (case h => first | decide +kernel | omega | assumption | exact nv1 | exact nv2 | exact nv3 | exact nv4))
  | ((with_reducible refine rIsi2_1 (T := ?T) (b := true) ?ty ?h ?q); (case ty => first | exact ty_str | exact ty_int | exact ty_bl | exact ty_non); (case h => decide +kernel))
  | ((with_reducible refine rIsi2_1 (T := ?T) (b := false) ?ty ?h ?q); (case ty => first | exact ty_str | exact ty_int | exact ty_bl | exact ty_non); (case h => decide +kernel))
  | ((with_reducible refine rEq2_s ?h ?q); (case h => rfl)) | ((with_reducible refine rNe2_s ?h ?q); (case h => rfl))
  | ((with_reducible refine rEq_i ?h ?q); (case h => rfl)) | ((with_reducible refine rNe_i ?h ?q); (case h => rfl)))
local macro_rules | `(tactic| walk_at "y") => `(tactic| repeat walk_at "y2")

section
variable {X : Cx} {k j : Nat} {x : Str} {sp : Sp} {p pos : Pos} {e : Expr} {es : List Expr} {t : TA}
theorem pe_mkA {K : PySem.W.Frag} (hK : X.K = K) (c : Mak gd X.prog X.w K X.mg X.base CX0 k x sp) (z : RG gd j X.A) (ha : PA X (e :: es) t) (hk : k + 1 ≤ j := by decide) (hg : Gl X x := by rfl)
    (hdb : (x == ("__debug__" : Str)) = false := by decide) (he : starEach (e :: es) X.env = (false, eval e X.env) :: starEach es X.env := by rfl) (hpl : (backTo pos (starEach es X.env)).any (·.1) = false := by rfl) :
    PE X (.Call (.Name x p) (e :: es) [] pos) (tMake (He.ga K x) sp [] E0 t) := by
  subst hK
  obtain ⟨f, fd, ps, M, F, hm, b⟩ := c.ex
  exact pe_makeG M F (z.mono hk) hg hm b .nil pass0 ha hdb he hpl
end
section
variable {P : Program} {w : World} {K : PySem.W.Frag} {mg : Str → Option Value} {base : Heap}
theorem Cal.quiet {k : Nat} {x : Str} {sp : Sp} (c : Cal gd P w K mg base (CX P w) k x sp) : Cal gd P w K mg base CX0 k x (fun vs H Q _ => sp vs H Q fun _ _ _ => False) := by
  obtain ⟨f, fd, ps, F, h⟩ := c.ex
  exact ⟨f, fd, ps, F.quiet, h⟩
theorem cut_last (xs : List V) (v : V) : cutV (xs ++ [v]) (some (-1)) none = [v] := by
  unfold cutV
  rw [HT.sIx_none, show HT.sIx (xs ++ [v]).length 0 (some (-1)) = xs.length by
    show (if (-1 : Int) < 0 then ((-1 : Int) + ((xs ++ [v]).length : Nat)).toNat else min (-1 : Int).toNat (xs ++ [v]).length) = _
    rw [if_pos (by decide), List.length_append, List.length_singleton]
    omega]
  simp
theorem notes_last (k : Int) (v : V) (d : PyData) : ∀ (es : List Ev) (o : Bool), notesAux k o (es ++ [.op k, .no v d]) = notesAux k o es ++ [v]
  | [], o => by simp [notesAux]
  | .op n :: es, o => notes_last k v d es _
  | .sh n :: es, o => notes_last k v d es _
  | .fa n a b :: es, o => notes_last k v d es o
  | .sw a b c :: es, o => notes_last k v d es o
  | .no t e :: es, o => by
    have ih := notes_last k v d es o
    show (if o = true then t :: notesAux k o (es ++ _) else notesAux k o (es ++ _)) = (if o = true then t :: notesAux k o es else notesAux k o es) ++ [v]
    rw [ih]
    split <;> rfl
theorem same_off {H0 H H' : Hp} {A : Addr} (s : Same H0 H) (n : H0 A = none) (u : ∀ b, b ≠ A → H' b = H b) : Same H0 H' := fun b o e => (u b (ne_of_none e n)).trans (s b o e)
theorem sameT_off {H H' : Hp} {A : Addr} {xs : List V} (h : H A = some (.lst xs)) (u : ∀ b, b ≠ A → H' b = H b) : SameT H H' := fun b o e n => (u b (fun z => by rw [z, h] at e; cases e; exact n xs rfl)).trans e
local macro_rules | `(tactic| walk_at "y2") => `(tactic| with_reducible first | refine tCallK0_i' ?_ | refine tCallOK_i ?_ | refine tListGK_i ?_)
def spByName (K : PySem.W.Frag) : Sp := sp1 fun x H Q _ => ∃ p es, x = .ref p ∧ LogAt K true H p es ∧ es.length ≤ 30 ∧ ∀ H', Same H H' → Q (.bl true) H'
theorem sc__law_by_name : FnScope ["_law_lines", "_law_one", "_law_told", "_law_due", "_law_watcher", "_law_other", "_law_first", "_law_rows"] ["_law_lines"] (defScope (top 52)) := ⟨rfl, rfl, rfl, by decide +kernel, rfl, by decide +kernel, by decide +kernel⟩
theorem c__law_by_name (T : Sy K mg) : Cal true P w K mg base CX0 13 "_law_by_name" (spByName K) := by
  obtain ⟨fdW, FW, _, kW⟩ := f_call (P := P) (w := w) (base := base) (gd := true) T
  obtain ⟨fC, fdC, psC, mvC, FC, mC, pC, kC1, kC2⟩ := (c_cycle_of (P := P) (w := w) (base := base) (gd := true) T).ex
  obtain ⟨fN, fdN, FN, mN, kN, bN, kbN⟩ := g_notes (P := P) (w := w) (base := base) T
  refine T.cal (F_law_by_name T) sc__law_by_name sp1_len (fun cdv f A outer s H vs Q E z h => ?_) (fun _ _ _ _ _ _ us hl => match us, hl with | [_], _ => rfl)
  have hu1 := hu_1 z; have hu2 := hu_2 z; have hu3 := hu_3 z
  obtain ⟨_, rfl, p, es, rfl, lg, hl30, q⟩ := h
  refine ⟨_, (pss_cons (ps_if (PW.pt (pw_or (pt_cmpR (r := rNotN) op_notN (pe_kwF (ks := ["log"]) (cf_check_log T).quiet z pass0 kw1 kw1_rel (fun _ _ _ _ _ _ us ws l1 l2 => match us, l1, ws, l2 with | [], _, [_], _ => rfl) (pk_cons (pv 0) pk_nil)) pe_non (nomark _)) (pw_or1 (pt_cmpR (r := rNe2 K) (op_ne2 hu1) (pe_lc (own := [("_law_one", 1)]) (g := gName 1) (by rfl) sc__law_by_name.nd (pi_anyK (K := K) rfl (pv 0)) (blkOk_by (own := [("_law_one", 1)]) (N := ["_law_lines", "_law_one", "_law_told", "_law_due", "_law_watcher", "_law_other", "_law_first", "_law_rows"]) (sc := (defScope (top 52))) (by decide +kernel)) (fun _ _ _ _ _ => (pg_name (i := 1) sc__law_by_name.nd rfl (by first | exact Or.inl rfl | exact Or.inr rfl))) (fun _ _ _ _ _ => pts_one (pt_cmpR (r := rNotBl) op_notBl (show PE _ _ (tCallK0 1 (spEvent K) (fun vs zs => kw1 vs zs) E0 (tCons (tVar 1) tNil)) from by exact pe_kwF (ks := ["value"]) (cf_is_event T) z pass0 kw1 kw1_rel (fun _ _ _ _ _ _ us ws l1 l2 => match us, l1, ws, l2 with | [], _, [_], _ => rfl) (pk_cons (pv 1) pk_nil)) pe_bl (nomark _))) (fun _ _ _ _ _ => (pv 1))) (pe_lst pa_nil) (nomark _))))) (pss_one (ps_ret pe_bl)) pss_nil) (pss_cons (ps_set (i := 2) sc__law_by_name.nd rfl (by first | exact Or.inl rfl | exact Or.inr rfl) (pe_lst (pa_cons (pe_kwF (ks := ["log"]) (cf_spans T).quiet z pass0 kw1 kw1_rel (fun _ _ _ _ _ _ us ws l1 l2 => match us, l1, ws, l2 with | [], _, [_], _ => rfl) (pk_cons (pv 0) pk_nil)) (pa_cons (pe_kwF (ks := ["log"]) (cf_never_shut T).quiet z pass0 kw1 kw1_rel (fun _ _ _ _ _ _ us ws l1 l2 => match us, l1, ws, l2 with | [], _, [_], _ => rfl) (pk_cons (pv 0) pk_nil)) (pa_cons (pe_kwF (ks := ["log"]) (cf_most_open T).quiet z pass0 kw1 kw1_rel (fun _ _ _ _ _ _ us ws l1 l2 => match us, l1, ws, l2 with | [], _, [_], _ => rfl) (pk_cons (pv 0) pk_nil)) (pa_cons (pe_kwF (ks := ["log"]) (cf_crossings T).quiet z pass0 kw1 kw1_rel (fun _ _ _ _ _ _ us ws l1 l2 => match us, l1, ws, l2 with | [], _, [_], _ => rfl) (pk_cons (pv 0) pk_nil)) (pa_cons (pe_kwF (ks := ["log"]) (cf_flaws T).quiet z pass0 kw1 kw1_rel (fun _ _ _ _ _ _ us ws l1 l2 => match us, l1, ws, l2 with | [], _, [_], _ => rfl) (pk_cons (pv 0) pk_nil)) pa_nil))))))) (pss_cons (ps_expr (pe_bmK (K := K) rfl PySem.F.plainAttrs_list PySem.F.slot_list_append PySem.F.type_list_append mt_append2 (pv 2) (pa_cons (pe_kwF (ks := ["faults", "log"]) (cf_audit T).quiet z pass0 swp swp_rel (fun _ _ _ _ _ _ us ws l1 l2 => match us, l1, ws, l2 with | [], _, [_, _], _ => rfl) (pk_cons (pe_tup pa_nil) (pk_cons (pv 0) pk_nil))) pa_nil))) (pss_cons (ps_set (i := 3) sc__law_by_name.nd rfl (by first | exact Or.inl rfl | exact Or.inr rfl) (pe_lst (pa_cons (pe_c (c_spans T).quiet z (pa_cons (pv 0) pa_nil)) (pa_cons (pe_c (c_never_shut T).quiet z (pa_cons (pv 0) pa_nil)) (pa_cons (pe_c (c_most_open T).quiet z (pa_cons (pv 0) pa_nil)) (pa_cons (pe_c (c_crossings T).quiet z (pa_cons (pv 0) pa_nil)) (pa_cons (pe_c (c_flaws T).quiet z (pa_cons (pv 0) pa_nil)) (pa_cons (pe_c (c_audit T).quiet z (pa_cons (pv 0) (pa_cons (pe_tup pa_nil) pa_nil))) pa_nil)))))))) (pss_cons (ps_par (i := 4) (j := 5) (by rfl) sc__law_by_name.nd rfl rfl (by decide) rfl rfl (pa_cons (pe_mk0 (m_Watcher T) z) (pa_cons (pe_mk0 (m_Watcher T) z) pa_nil)) (by rfl)) (pss_cons (ps_for PassesOwn.never (by rfl) (pi_anyK (K := K) rfl (pv 0)) (pg_name (i := 1) sc__law_by_name.nd rfl (by first | exact Or.inl rfl | exact Or.inr rfl)) (pss_one (ps_if (pt_cmpR (r := rNe2 K) (op_ne2 hu1) (pe_callB (r := rRepr K) (call_repr z) (by rfl) (T.free "repr") (by decide +kernel) (pa_cons (pe_callOK0 (pv 4) (cO T) FW (z.mono (by decide)) kW pass0 (pk_cons (pv 1) pk_nil)) pa_nil)) (pe_callB (r := rRepr K) (call_repr z) (by rfl) (T.free "repr") (by decide +kernel) (pa_cons (pe_wq T rfl rfl z (pv 5) (pa_cons (pv 1) pa_nil)) pa_nil)) (nomark _)) (pss_one (ps_ret pe_bl)) pss_nil))) (pss_cons (ps_par (i := 6) (j := 7) (by rfl) sc__law_by_name.nd rfl rfl (by decide) rfl rfl (pa_cons (pe_mkA (K := K) rfl (m_Fault T) z (pa_cons pe_str (pa_cons pe_str (pa_cons pe_int pa_nil)))) (pa_cons (pe_op (r := rAdd2 K) op_add2 (pe_callTy (r := rListOf K) call_listOf (by rfl) (T.free "list") (by decide +kernel) (pa_cons (pv 0) pa_nil)) (pe_lst (pa_cons (pe_tup (pa_cons pe_str (pa_cons pe_int pa_nil))) (pa_cons (pe_tup (pa_cons pe_str (pa_cons pe_int pa_nil))) pa_nil)))) pa_nil)) (by rfl)) (pss_cons (ps_if (PW.pt (pw_or (pt_cmpR (r := rNe2 K) (op_ne2 hu1) (pe_callK0 FC (z.mono (by decide)) (by rfl) mC pC kC1 pass0 (pk_cons (pv 6) pk_nil)) (pe_lst pa_nil) (nomark _)) (pw_or1 (pt_cmpR (r := rNe2 K) (op_ne2 hu1) (pe_callK0 FC (z.mono (by decide)) (by rfl) mC pC kC2 pass0 (pk_cons pe_str (pk_cons (pv 6) pk_nil))) (pe_lst pa_nil) (nomark _))))) (pss_one (ps_ret pe_bl)) pss_nil) (pss_one (ps_ret (pe_and (pe_cmpR (r := rEq2 K) (op_eq2 hu1) (pe_callB (r := rRepr K) (call_repr z) (by rfl) (T.free "repr") (by decide +kernel) (pa_cons (pv 2) pa_nil)) (pe_callB (r := rRepr K) (call_repr z) (by rfl) (T.free "repr") (by decide +kernel) (pa_cons (pv 3) pa_nil)) (nomark _)) (pe_one (pe_cmpR (r := rEq2 K) (op_eq2 hu1) (pe_slice (r := rSl2 K) sl_2 (pe_listGK FN takes0 (P := fun _ => False) (fun _ h => h.elim) (z.r.mono (by decide)) (by rfl) (T.free "list") (by rfl) (by rfl) mN kN kbN (pk_cons pe_int (pk_cons (pv 7) pk_nil))) (po_some (pe_un un_neg pe_int)) po_none) (pe_lst (pa_cons pe_int pa_nil)) (nomark _)))))))))))))), ?_⟩
  walk_at "yhead"; walk_at "y"
  obtain ⟨vs, h1, h2, ok, hl⟩ := id lg
  refine ⟨rfl, lg.check fun H1 s1 => ?_⟩
  walk_at "y"
  refine lc_b true ?_
  walk_at "y"
  have h1' := s1 _ _ h1
  refine ⟨p, rfl, ⟨_, SqL.of h1'⟩, lc_pure (walk_b (b := true)) (Nat.le_trans (show vs.length ≤ 40 by rw [h2.length]; exact hl) sz4) (fun _ => (none : Option Nat)) (firm_FR fun i : Nat => V.int i) (fun H' s => s _ _ h1') (fun i H0 x H1 y => by obtain ⟨rfl, _⟩ := y; exact Same.refl _) (fun i x H0 H2 hi s0 s2 y N C hC hN => ?_) fun D0 H2 ws hD s2 e2 pr => ?_⟩
  · obtain ⟨rfl, e2⟩ := y
    obtain ⟨t, ev, rfl, e3, e4, es4, er4⟩ := LogAt.get (evs_same h2 (s1.trans s2)) e2
    walk_at "y"
    refine ⟨rfl, ?_⟩
    walk_at "y"
    refine ⟨rfl, er4.event fun H4 s4 => ?_⟩
    walk_at "y"
    refine ⟨true, true, rfl, rfl, ?_⟩
    walk_at "y"
    exact hN rfl _ s4
  rw [paired_FR pr, show List.filterMap (fun _ => (none : Option Nat)) (List.range vs.length) = [] by simp] at e2
  walk_at "y"
  refine ⟨sz4 (by simp), fun L0 nL0 => ?_⟩
  have sH3 := same_upd (H := H2) (o := .lst []) nL0
  have eL0 := upd_same (H := H2) (a := L0) (o := .lst [])
  generalize upd H2 L0 (.lst []) = H3 at sH3 eL0 ⊢
  refine rNe2_d (dp_lst (SqL.of (sH3 _ _ e2)) rfl) (dp_lst (SqL.of eL0) rfl) (by decide +kernel) (by decide +kernel) ?_
  rw [show PyData.eqv (.list ((([] : List Nat).map fun i : Nat => V.int i).map vD)) (.list (([] : List V).map vD)) = true by simp [PyData.eqv, PyData.eqvAll]]
  walk_at "y"
  have sR := s1.trans (s2.trans sH3)
  clear sH3 eL0 e2 pr h1'
  have r1 : ∀ {Hc : Hp}, Same H Hc → LogAt K true Hc p es := fun s => lg.same s
  have h40 : es.length ≤ 40 := by omega
  -- the values told by names
  refine ⟨rfl, _, rfl, .inl ⟨true, p, es, rfl, r1 sR, fun D1 H4 v1 _ s4 e4 p4 => ?_⟩⟩
  have d1 : Dp K H4 (.ref D1) (rowsD spanV (spansOf es)) := rows_dp (fun a ha => (spans_row ok h40 a ha).1) e4 p4
  walk_at "y"
  refine ⟨rfl, _, rfl, .inl ⟨true, p, es, rfl, r1 (sR.trans s4), fun D2 H5 _ s5 e5 => ?_⟩⟩
  have d2 : Dp K H5 (.ref D2) (intsD (neverOf es)) := ints_dp e5
  replace d1 := dp_same s5 d1
  replace sR := (sR.trans s4).trans s5
  walk_at "y"
  refine ⟨rfl, _, rfl, .inl ⟨true, p, es, rfl, r1 sR, fun H6 s6 => ?_⟩⟩
  walk_at "y"
  refine ⟨rfl, _, rfl, .inl ⟨true, p, es, rfl, r1 (sR.trans s6), fun D4 H7 v4 _ s7 e7 p7 => ?_⟩⟩
  have d4 : Dp K H7 (.ref D4) (rowsD pairV (crossOf es es.length)) := rows_dp (fun a ha => (cross_row ok h40 a ha).1) e7 p7
  replace d1 := dp_same (s6.trans s7) d1
  replace d2 := dp_same (s6.trans s7) d2
  replace sR := sR.trans (s6.trans s7)
  walk_at "y"
  refine ⟨rfl, _, rfl, .inl ⟨true, p, es, rfl, r1 sR, fun D5 H8 _ s8 e8 => ?_⟩⟩
  have d5 : Dp K H8 (.ref D5) (intsD (flawsOf es)) := ints_dp e8
  replace d1 := dp_same s8 d1
  replace d2 := dp_same s8 d2
  replace d4 := dp_same s8 d4
  replace sR := sR.trans s8
  walk_at "y"
  refine ⟨sz4 (by simp), fun A1 nA1 => ?_⟩
  have sH9 := same_upd (H := H8) (o := .lst [.ref D1, .ref D2, .int (stAt es es.length).most, .ref D4, .ref D5]) nA1
  have eA1 := upd_same (H := H8) (a := A1) (o := .lst [.ref D1, .ref D2, .int (stAt es es.length).most, .ref D4, .ref D5])
  generalize upd H8 A1 (.lst [.ref D1, .ref D2, .int (stAt es es.length).most, .ref D4, .ref D5]) = H9 at sH9 eA1 ⊢
  walk_at "y"
  refine ⟨tyL eA1, ?_⟩
  walk_at "y"
  refine ⟨sz4 (by simp), fun U1 nU1 => ?_⟩
  have sHA := same_upd (H := H9) (o := .tup []) nU1
  have eU1 := upd_same (H := H9) (a := U1) (o := .tup [])
  generalize upd H9 U1 (.tup []) = HA at sHA eU1 ⊢
  walk_at "y"
  have s9A := sH9.trans sHA
  refine ⟨rfl, _, _, rfl, U1, rfl, eU1, .inl ⟨true, p, es, rfl, r1 (sR.trans s9A), fun D6 HB v6 n6 sB e6 p6 => ?_⟩⟩
  have eA1B := sB _ _ (sHA _ _ eA1)
  have nD6 : D6 ≠ A1 := Ne.symm (ne_of_none (sHA _ _ eA1) n6)
  walk_at "y"
  refine appU_i eA1B (Nat.lt_of_lt_of_le (show 5 < 6 by decide) (sz4 (n := 6))) fun HC eC uC => ?_
  have s8C : Same H8 HC := same_off (s9A.trans sB) nA1 uC
  replace d1 := dp_same s8C d1
  replace d2 := dp_same s8C d2
  replace d4 := dp_same s8C d4
  replace d5 := dp_same s8C d5
  have d6 : Dp K HC (.ref D6) (rowsD flawV (flawsOf es)) := rows_dp (fun a ha => (flaw_row h40 a ha).1) ((uC D6 nD6).trans e6) ((firm_TR _).all (sameT_off eA1B uC) p6)
  have dpT : Dp K HC (.ref A1) (.list (resD es)) := .lst (SqL.of eC) (.cons d1 (.cons d2 (.cons (.int _) (.cons d4 (.cons d5 (.cons d6 .nil))))))
  replace sR := sR.trans s8C
  clear d1 d2 d4 d5 d6 s8C eC uC eA1B eA1 p6 e6 p4 e4 e5 e7 p7 e8 sB eU1 s9A sHA sH9 s8 s7 s6 s5 s4 s1 s2
  walk_at "y"
  -- the values due
  refine ⟨_, rfl, .inl ⟨true, p, es, rfl, r1 sR, fun D1 H4 v1 _ s4 e4 p4 => ?_⟩⟩
  have d1 : Dp K H4 (.ref D1) (rowsD spanV (spansOf es)) := rows_dp (fun a ha => (spans_row ok h40 a ha).1) e4 p4
  walk_at "y"
  refine ⟨_, rfl, .inl ⟨true, p, es, rfl, r1 (sR.trans s4), fun D2 H5 _ s5 e5 => ?_⟩⟩
  have d2 : Dp K H5 (.ref D2) (intsD (neverOf es)) := ints_dp e5
  replace d1 := dp_same s5 d1
  replace dpT := dp_same (s4.trans s5) dpT
  replace sR := (sR.trans s4).trans s5
  walk_at "y"
  refine ⟨_, rfl, .inl ⟨true, p, es, rfl, r1 sR, fun H6 s6 => ?_⟩⟩
  walk_at "y"
  refine ⟨_, rfl, .inl ⟨true, p, es, rfl, r1 (sR.trans s6), fun D4 H7 v4 _ s7 e7 p7 => ?_⟩⟩
  have d4 : Dp K H7 (.ref D4) (rowsD pairV (crossOf es es.length)) := rows_dp (fun a ha => (cross_row ok h40 a ha).1) e7 p7
  replace d1 := dp_same (s6.trans s7) d1
  replace d2 := dp_same (s6.trans s7) d2
  replace dpT := dp_same (s6.trans s7) dpT
  replace sR := sR.trans (s6.trans s7)
  walk_at "y"
  refine ⟨_, rfl, .inl ⟨true, p, es, rfl, r1 sR, fun D5 H8 _ s8 e8 => ?_⟩⟩
  have d5 : Dp K H8 (.ref D5) (intsD (flawsOf es)) := ints_dp e8
  replace d1 := dp_same s8 d1
  replace d2 := dp_same s8 d2
  replace d4 := dp_same s8 d4
  walk_at "y"
  refine ⟨sz4 (by simp), fun U2 nU2 => ?_⟩
  have sH9 := same_upd (H := H8) (o := .tup []) nU2
  have eU2 := upd_same (H := H8) (a := U2) (o := .tup [])
  generalize upd H8 U2 (.tup []) = H9 at sH9 eU2 ⊢
  walk_at "y"
  have s89 := s8.trans sH9
  refine ⟨_, _, rfl, U2, rfl, eU2, .inl ⟨true, p, es, rfl, r1 (sR.trans s89), fun D6 HB v6 n6 sB e6 p6 => ?_⟩⟩
  have d6 : Dp K HB (.ref D6) (rowsD flawV (flawsOf es)) := rows_dp (fun a ha => (flaw_row h40 a ha).1) e6 p6
  have s8B := sH9.trans sB
  replace d1 := dp_same s8B d1
  replace d2 := dp_same s8B d2
  replace d4 := dp_same s8B d4
  replace d5 := dp_same s8B d5
  replace sR := sR.trans (s89.trans sB)
  replace dpT := dp_same (s89.trans sB) dpT
  walk_at "y"
  refine ⟨sz4 (by simp), fun A2 nA2 => ?_⟩
  have sHX := same_upd (H := HB) (o := .lst [.ref D1, .ref D2, .int (stAt es es.length).most, .ref D4, .ref D5, .ref D6]) nA2
  have eA2 := upd_same (H := HB) (a := A2) (o := .lst [.ref D1, .ref D2, .int (stAt es es.length).most, .ref D4, .ref D5, .ref D6])
  generalize upd HB A2 (.lst [.ref D1, .ref D2, .int (stAt es es.length).most, .ref D4, .ref D5, .ref D6]) = HX at sHX eA2 ⊢
  have dpU : Dp K HX (.ref A2) (.list (resD es)) := .lst (SqL.of eA2) (.cons (dp_same sHX d1) (.cons (dp_same sHX d2) (.cons (.int _) (.cons (dp_same sHX d4) (.cons (dp_same sHX d5) (.cons (dp_same sHX d6) .nil))))))
  replace sR := sR.trans sHX
  replace dpT := dp_same sHX dpT
  clear d1 d2 d4 d5 d6 eA2 s8B e6 p6 sB eU2 s89 sH9 s8 s7 s6 s5 s4 e4 p4 e5 e7 p7 e8 sHX
  walk_at "y"
  -- two watchers
  refine wnew_i fun x1 dx1 l1 H14 w1 => ?_
  walk_at "y"
  refine wnew_i fun x2 dx2 l2 H15 w2' => ?_
  have w2 : WS K HX H15 x2 dx2 l2 .new := ⟨w1.sm.free w2'.x0, w1.sm.free w2'.l0, w1.sm.trans w2'.sm, w2'.at_⟩
  have n1 : x1 ≠ x2 := ne_of_none w1.at_.1 w2'.x0
  have n2 : x1 ≠ l2 := ne_of_none w1.at_.1 w2'.l0
  have n3 : l1 ≠ x2 := ne_of_none w1.at_.2 w2'.x0
  have n4 : l1 ≠ l2 := ne_of_none w1.at_.2 w2'.l0
  replace w1 := w1.mono w2'.sm
  clear w2'
  refine ⟨_, _, rfl, ?_⟩
  walk_at "y"
  refine for_b true ?_
  walk_at "y"
  have lvs : vs.length = es.length := h2.length
  refine ⟨p, rfl, ⟨vs, SqL.of (w1.sm _ _ (sR _ _ h1))⟩, for_it (walk_b (b := true)) (Pv := fun i σ H' => (∃ l1 l2, WS K HX H' x1 dx1 l1 (stAt es i) ∧ WS K HX H' x2 dx2 l2 (stAt es i) ∧ x1 ≠ l2 ∧ l1 ≠ x2 ∧ l1 ≠ l2) ∧ ∃ a, σ = [some (.ref p), a, some (.ref A1), some (.ref A2), some (.ref x1), some (.ref x2), none, none]) ⟨⟨l1, l2, w1, w2, n2, n3, n4⟩, _, rfl⟩ (fun i σ H' _ hp => let ⟨⟨_, _, ws, _⟩, _⟩ := hp; ws.sm _ _ (sR _ _ h1)) (fun i v σ H3 H4 hi hp y => ?_) fun σ H' hp => ?_⟩
  · obtain ⟨⟨l1, l2, w1, w2, n2, n3, n4⟩, a, rfl⟩ := hp
    obtain ⟨rfl, e2⟩ := y
    obtain ⟨t, ev, rfl, e3, e4, es4, er4⟩ := LogAt.get (evs_same h2 (sR.trans w1.sm)) e2
    have okE := ok _ (List.mem_of_getElem? e3)
    have hol : (stAt es i).opn.length ≤ 100 := Nat.le_trans (stAt_opn es i) (by omega)
    walk_at "y"
    refine ⟨x1, rfl, ?_⟩
    walk_at "y"
    have W1 := fun (Q' : VK) (q' : ∀ l' H', WS K HX H' x1 dx1 l' ((stAt es i).step ev) → (l' = l1 ∨ H4 l' = none) → (∀ b o, H4 b = some o → b ≠ x1 → b ≠ l1 → H' b = some o) → Q' (.bl ((stAt es i).ret ev)) H') => wq_i (E := E0) w1 hol er4 okE q'
    refine (fun (h : (∃ dx fs, _) ∧ _) => ⟨h.1, rfl, h.2⟩) (W1 _ fun l1' H5 w1' hl1 off1 => ?_)
    have w2a : WS K HX H5 x2 dx2 l2 (stAt es i) := ⟨w2.x0, w2.l0, w1'.sm, off1 _ _ w2.at_.1 (Ne.symm n1) (Ne.symm n3), off1 _ _ w2.at_.2 (Ne.symm n2) (Ne.symm n4)⟩
    have m3 : l1' ≠ x2 := by
      rcases hl1 with rfl | hn
      · exact n3
      · exact Ne.symm (ne_of_none w2.at_.1 hn)
    have m4 : l1' ≠ l2 := by
      rcases hl1 with rfl | hn
      · exact n4
      · exact Ne.symm (ne_of_none w2.at_.2 hn)
    refine ⟨_, _, rfl, .bl _, (Sm.bl _).mono (by decide) (by decide), ?_⟩
    walk_at "y"
    refine ⟨x2, rfl, ?_⟩
    walk_at "y"
    have er5 : EvR K H5 (.ref t) ev := (paired_of (evs_same h2 (sR.trans w1'.sm)) e2).elim fun ev2 h => by rw [e3] at h; cases h.1; exact h.2
    refine wq_i w2a hol er5 okE fun l2' H6 w2b hl2 off2 => ?_
    have w1b : WS K HX H6 x1 dx1 l1' ((stAt es i).step ev) := ⟨w1'.x0, w1'.l0, w2b.sm, off2 _ _ w1'.at_.1 n1 n2, off2 _ _ w1'.at_.2 m3 m4⟩
    refine ⟨_, _, rfl, .bl _, (Sm.bl _).mono (by decide) (by decide), ?_⟩
    walk_at "y"
    rw [decide_eq_true rfl]
    walk_at "y"
    rw [← stAt_succ e3] at w1b w2b
    refine ⟨⟨l1', l2', w1b, w2b, ?_, m3, ?_⟩, _, rfl⟩
    · rcases hl2 with rfl | hn
      · exact n2
      · exact ne_of_none w1'.at_.1 hn
    · rcases hl2 with rfl | hn
      · exact m4
      · exact ne_of_none w1'.at_.2 hn
  obtain ⟨⟨l1, l2, w1, _⟩, a, rfl⟩ := hp
  replace sR := sR.trans w1.sm
  replace dpT := dp_same w1.sm dpT
  replace dpU := dp_same w1.sm dpU
  clear w1 w2 n1 n2 n3 n4
  walk_at "y"
  -- a fault, and a longer log
  intro xf dxf hxf hdxf nef
  have dk : (Str.ofString "Error").length ≤ 1000 := by decide +kernel
  have dl : (Str.ofString "x").length ≤ 1000 := by decide +kernel
  refine ⟨xf, dxf, "Error", "x", 0, rfl, upd_same, dk, dl, by decide +kernel, by decide +kernel, by decide, fun H20 off20 fa20 => ⟨rfl, ?_⟩⟩
  have s20 : Same H' H20 := fun b o e => by
    have nb : b ≠ xf := ne_of_none e hxf
    exact off20 b o (by rw [upd_ne nb, upd_ne (ne_of_none e hdxf)]; exact e) nb
  replace dpT := dp_same s20 dpT
  replace dpU := dp_same s20 dpU
  replace sR := sR.trans s20
  walk_at "y"
  refine ⟨p, vs, rfl, .inl (SqL.of (sR _ _ h1)), fun R1 nR1 => ?_⟩
  have sR1 := same_upd (H := H20) (o := .lst vs) nR1
  have eR1 := upd_same (H := H20) (a := R1) (o := .lst vs)
  generalize upd H20 R1 (.lst vs) = H21 at sR1 eR1 ⊢
  walk_at "y"
  refine ⟨sz4 (by simp), fun T1 nT1 => ?_⟩
  have sH22 := same_upd (H := H21) (o := .tup [.str "open", .int 5]) nT1
  have eT1 := upd_same (H := H21) (a := T1) (o := .tup [.str "open", .int 5])
  generalize upd H21 T1 (.tup [.str "open", .int 5]) = H22 at sH22 eT1 ⊢
  walk_at "y"
  refine ⟨sz4 (by simp), fun T2 nT2 => ?_⟩
  have sH23 := same_upd (H := H22) (o := .tup [.str "note", .int 6]) nT2
  have eT2 := upd_same (H := H22) (a := T2) (o := .tup [.str "note", .int 6])
  generalize upd H22 T2 (.tup [.str "note", .int 6]) = H23 at sH23 eT2 ⊢
  walk_at "y"
  refine ⟨sz4 (by simp), fun L2 nL2 => ?_⟩
  have sH24 := same_upd (H := H23) (o := .lst [.ref T1, .ref T2]) nL2
  have eL2 := upd_same (H := H23) (a := L2) (o := .lst [.ref T1, .ref T2])
  generalize upd H23 L2 (.lst [.ref T1, .ref T2]) = H24 at sH24 eL2 ⊢
  have s14 := sH22.trans (sH23.trans sH24)
  refine rAdd2_l (s14 _ _ eR1) eL2 (by rw [sizeLine_eq]; simp; omega) fun A3 nA3 => ?_
  have s5 := same_upd (H := H24) (o := .lst (vs ++ [.ref T1, .ref T2])) nA3
  have eA3 := upd_same (H := H24) (a := A3) (o := .lst (vs ++ [.ref T1, .ref T2]))
  generalize upd H24 A3 (.lst (vs ++ [.ref T1, .ref T2])) = H25 at s5 eA3 ⊢
  have s25 := sR1.trans (s14.trans s5)
  have k1 := (sH23.trans (sH24.trans s5)) _ _ eT1
  have k2 := (sH24.trans s5) _ _ eT2
  replace dpT := dp_same s25 dpT
  replace dpU := dp_same s25 dpU
  replace sR := sR.trans s25
  replace fa20 : FaultAt K H25 xf dxf "Error" "x" 0 .non .non false := s25 _ _ fa20
  refine ⟨_, _, rfl, ?_⟩
  have okT : ∀ (s : Str) (n : Int), s ∈ TX → ∀ it ∈ [Itm.str s, Itm.int n], it.Ok := fun s n hs it hi => by
    rcases List.mem_cons.mp hi with rfl | hi
    · trivial
    · rw [List.mem_singleton.mp hi]; trivial
  have lg2 : LogAt K true H25 A3 (es ++ [.op 5, .no (.int 6) (.int 6)]) := by
    refine ⟨_, eA3, paired_append (evs_same h2 sR) (.cons ⟨T1, rfl, k1, trivial, [.str "open", .int 5], ⟨T1, _, rfl, k1, .cons (tx_at (by decide +kernel)) (.cons rfl .nil), okT _ _ (by decide +kernel), by simp⟩, ev_op (by decide)⟩ (.cons ⟨T2, rfl, k2, .inl ⟨rfl, rfl, rfl⟩, [.str "note", .int 6], ⟨T2, _, rfl, k2, .cons (tx_at (by decide +kernel)) (.cons rfl .nil), okT _ _ (by decide +kernel), by simp⟩, ev_no (by decide +kernel)⟩ .nil)), fun e he => ?_, by simp; omega⟩
    rcases List.mem_append.mp he with he | he
    · exact ok e he
    · simp only [List.mem_cons, List.not_mem_nil, or_false] at he
      rcases he with rfl | rfl
      · exact ⟨by decide, .inl (by decide)⟩
      · trivial
  walk_at "y"
  refine ⟨rfl, _, _, rfl, xf, dxf, _, _, _, _, rfl, fa20, .inl rfl, fun C1 H26 s26 e26 => ?_⟩
  walk_at "y"
  refine ⟨sz4 (by simp), fun L3 nL3 => ?_⟩
  have sH27 := same_upd (H := H26) (o := .lst []) nL3
  have eL3 := upd_same (H := H26) (a := L3) (o := .lst [])
  generalize upd H26 L3 (.lst []) = H27 at sH27 eL3 ⊢
  refine rNe2_d (dp_lst (SqL.of (sH27 _ _ e26)) rfl) (dp_lst (SqL.of eL3) rfl) (by decide +kernel) (by decide +kernel) ?_
  rw [show PyData.eqv (.list (([] : List V).map vD)) (.list (([] : List V).map vD)) = true by simp [PyData.eqv, PyData.eqvAll]]
  walk_at "y"
  refine ⟨rfl, _, _, rfl, xf, dxf, _, _, _, _, rfl, (s26.trans sH27) _ _ fa20, .inr rfl, fun C2 H28 s28 e28 => ?_⟩
  walk_at "y"
  refine ⟨sz4 (by simp), fun L4 nL4 => ?_⟩
  have sH29 := same_upd (H := H28) (o := .lst []) nL4
  have eL4 := upd_same (H := H28) (a := L4) (o := .lst [])
  generalize upd H28 L4 (.lst []) = H29 at sH29 eL4 ⊢
  refine rNe2_d (dp_lst (SqL.of (sH29 _ _ e28)) rfl) (dp_lst (SqL.of eL4) rfl) (by decide +kernel) (by decide +kernel) ?_
  rw [show PyData.eqv (.list (([] : List V).map vD)) (.list (([] : List V).map vD)) = true by simp [PyData.eqv, PyData.eqvAll]]
  walk_at "y"
  have s59 := s26.trans (sH27.trans (s28.trans sH29))
  replace dpT := dp_same s59 dpT
  replace dpU := dp_same s59 dpU
  have sm := res_sm ok hl30
  refine ⟨_, _, rfl, dpT, sm, ?_⟩
  walk_at "y"
  refine ⟨_, _, rfl, dpU, sm, ?_⟩
  walk_at "y"
  rw [decide_eq_true rfl]
  walk_at "y"
  refine ⟨rfl, _, _, rfl, .inl ⟨A3, _, rfl, lg2.same s59, 5, rfl, by decide, by rw [List.any_append]; simp [Ev.isOp], fun H30 s30 l nl => ?_⟩⟩
  rw [notes_last]
  have s31 := same_upd (H := H30) (o := .lst (notesAux 5 false es ++ [.int 6])) nl
  have e31 := upd_same (H := H30) (a := l) (o := .lst (notesAux 5 false es ++ [.int 6]))
  generalize upd H30 l (.lst (notesAux 5 false es ++ [.int 6])) = H31 at s31 e31 ⊢
  walk_at "y"
  refine ⟨_, rfl, ?_⟩
  walk_at "y"
  refine rSl2_l (N := fun _ _ => True) (SqL.of e31) fun M nM => ?_
  rw [cut_last]
  have s32 := same_upd (H := H31) (o := .lst [.int 6]) nM
  have e32 := upd_same (H := H31) (a := M) (o := .lst [.int 6])
  generalize upd H31 M (.lst [.int 6]) = H32 at s32 e32 ⊢
  walk_at "y"
  refine ⟨sz4 (by simp), fun M2 nM2 => ?_⟩
  have sH33 := same_upd (H := H32) (o := .lst [.int 6]) nM2
  have eM2 := upd_same (H := H32) (a := M2) (o := .lst [.int 6])
  generalize upd H32 M2 (.lst [.int 6]) = H33 at sH33 eM2 ⊢
  refine rEq2_d (dp_lst (SqL.of (sH33 _ _ e32)) rfl) (dp_lst (SqL.of eM2) rfl) (by decide +kernel) (by decide +kernel) ?_
  rw [show PyData.eqv (.list (([.int 6] : List V).map vD)) (.list (([.int 6] : List V).map vD)) = true by simp [PyData.eqv, PyData.eqvAll, vD]]
  exact q _ (sR.trans (s59.trans (s30.trans (s31.trans (s32.trans sH33)))))
end

end L75
namespace L75
open PySem PySem.Spec PyProof.Rows L2
variable {gd : Bool}
local macro_rules | `(tactic| walk_at "y1") => `(tactic| with_reducible first
  | refine tSeq_i ?_ | refine tAsg_i ?_ | refine tCons_i ?_ | refine tNil_i ?_ | refine tC_i ?_ | refine tOp_i ?_ | refine tIfS_i ?_ | refine tTest_i ?_ | refine exBl_i ?_ | refine tRet_i ?_ | refine tCall_i ?_
  | refine tCB_i ?_ | refine tLst_i ?_ | refine tTup_i ?_ | refine rI0_i ?_ | refine tDrop_i ?_ | refine tNext_i ?_ | refine tB_i ?_ | refine tAnd_i ?_ | refine tOr_i ?_ | refine tNot_i ?_ | refine tAndV_i ?_ | refine tOrV_i ?_ | refine tNotV_i ?_
  | refine tYes_i ?_ | refine tTM_i ?_ | refine tPar_i ?_ | refine tSl_i ?_ | refine tNoPart_i ?_ | refine tPart_i ?_ | refine part_i ?_ | refine tMake_i ?_ | refine tProp_i ?_ | refine tCallOG_i ?_ | refine tVeI_i ?_ | refine tOst_i ?_ | refine tMkO_i ?_ | refine sFld_i ?_ | refine fldaug_i ?_ | refine gCons_i ?_ | refine gNil_i ?_ | refine tChain_i ?_ | refine tBM_i ?_ | refine rAdd2_i ?_ | refine rLe2_i ?_ | refine rEq2_i ?_ | refine rEq2_ss ?_ | refine rNe2_i ?_ | refine rNe2_ss ?_ | refine rIsN_i ?_ | refine rNotN_i ?_ | refine tTup_i2 ?_ | refine tIf_i ?_ | refine tUn_i ?_ | refine tDGet_i ?_ | refine sDPut_i ?_ | refine tFld_i ?_ | refine tRetN_i ?_ | refine tBreak_i ?_ | refine tCont_i ?_ | refine rU_i ?_)
local macro_rules | `(tactic| walk_at "yhead") => `(tactic| dsimp only [L2.start, List.map, List.length_cons, List.length_nil, Nat.reduceAdd, Nat.reduceSub, List.replicate, List.cons_append, List.nil_append])
local macro_rules | `(tactic| walk_at "y2") => `(tactic| first
  | walk_at "y1"
  | ((with_reducible refine tVar_i (v := ?v) ?h ?q); (case h => rfl))
  | ((with_reducible refine gName_i ?_); (dsimp only [L2.wipe, List.set]))
  | with_reducible refine iteT ?_ | with_reducible refine iteF ?_ | with_reducible refine iteNT ?_ | with_reducible refine iteNF ?_
  | ((with_reducible refine iteDT ?h ?q); (case h => first | decide +kernel | omega | assumption | exact nv1 | exact nv2 | exact nv3 | exact nv4)) | ((with_reducible refine iteDF ?h ?q); (case h => first | decide +kernel | omega | assumption | exact nv1 | exact nv2 | exact nv3 | exact nv4))
  | ((with_reducible refine iteNDT ?h ?q); (case h => first | decide +kernel | omega | assumption | exact nv1 | exact nv2 | exact nv3 | exact nv4)) | ((with_reducible refine iteNDF ?h ?q); (case h => first | decide +kernel | omega | assumption | exact nv1 | exact nv2 | exact nv3 | exact nv4))
  | ((with_reducible refine rIsi2_1 (T := ?T) (b := true) ?ty ?h ?q); (case ty => first | exact ty_str | exact ty_int | exact ty_bl | exact ty_non); (case h => decide +kernel))
  | ((with_reducible refine rIsi2_1 (T := ?T) (b := false) ?ty ?h ?q); (case ty => first | exact ty_str | exact ty_int | exact ty_bl | exact ty_non); (case h => decide +kernel))
  | ((with_reducible refine rEq2_s ?h ?q); (case h => rfl)) | ((with_reducible refine rNe2_s ?h ?q); (case h => rfl))
  | ((with_reducible refine rEq_i ?h ?q); (case h => rfl)) | ((with_reducible refine rNe_i ?h ?q); (case h => rfl)))
local macro_rules | `(tactic| walk_at "y") => `(tactic| repeat walk_at "y2")

open LamX
section
variable {X : Cx}
def rTupN (K : PySem.W.Frag) : List V → Hp → VK → Prop := fun xs H Q => ∃ p ys, xs = [.ref p] ∧ ((SqL K H p ys ∧ ∀ l, H l = none → Q (.ref l) (upd H l (.tup ys))) ∨ (SqT K H p ys ∧ Q (.ref p) H))
theorem call_tupN : CallR X (.type "tuple") (rTupN X.K) := call_tuple_of
end
section
variable {P : Program} {w : World} {K : PySem.W.Frag} {mg : Str → Option Value} {base : Heap}
theorem DrA.ext {H H' : Hp} {v : V} {o : Option (List Itm)} (h : DrA H v o) (k : ExtN H H') : DrA H' v o := by
  have it_ext : ∀ {v : V} {it : Itm}, it.At H v → it.At H' v := fun {v it} h => by
    cases it with
    | tu xs => exact (let ⟨a, e, q⟩ := h; ⟨a, e, k _ _ q (fun _ z => nomatch z)⟩)
    | ls xs => exact (let ⟨a, e, q⟩ := h; ⟨a, e, k _ _ q (fun _ z => nomatch z)⟩)
    | dc => exact (let ⟨a, e, q⟩ := h; ⟨a, e, k _ _ q (fun _ z => nomatch z)⟩)
    | _ => exact h
  cases o with
  | some its => exact (let ⟨p, vs, a, b, c, d⟩ := h; ⟨p, vs, a, k _ _ b (fun _ z => nomatch z), c.mono fun v it h => it_ext h, d⟩)
  | none => exact (let ⟨it, a, b⟩ := h; ⟨it, it_ext a, b⟩)
/-- rows: nothing but objects -/
def refsOnly (vs : List V) : Prop := ∀ v ∈ vs, ∃ a, v = .ref a
theorem Itm.At.rows {H H' : Hp} {R : Addr} {vs : List V} {v : V} {it : Itm} (h : it.At H v) (d : it.drB = true) (hR : H R = some (.lst vs)) (rf : refsOnly vs) (u : ∀ b, b ≠ R → H' b = H b) : it.At H' v := by
  cases it with
  | tu xs => exact (let ⟨a, e, q⟩ := h; ⟨a, e, (u a (fun z => by rw [z, hR] at q; cases q)).trans q⟩)
  | ls xs =>
    obtain ⟨a, e, q⟩ := h
    refine ⟨a, e, (u a (fun z => ?_)).trans q⟩
    rw [z, hR] at q
    cases q
    match vs, d, rf with
    | .int _ :: _, _, rf => obtain ⟨a, z⟩ := rf _ (List.mem_cons_self ..); cases z
    | .str _ :: _, _, rf => obtain ⟨a, z⟩ := rf _ (List.mem_cons_self ..); cases z
  | dc => exact (let ⟨a, e, q⟩ := h; ⟨a, e, (u a (fun z => by rw [z, hR] at q; cases q)).trans q⟩)
  | _ => exact h
theorem DrA.rows {H H' : Hp} {R : Addr} {vs : List V} {v : V} {o : Option (List Itm)} (h : DrA H v o) (hR : H R = some (.lst vs)) (rf : refsOnly vs) (u : ∀ b, b ≠ R → H' b = H b) : DrA H' v o := by
  cases o with
  | some its =>
    obtain ⟨p, us, a, b, c, dr, l⟩ := h
    refine ⟨p, us, a, (u p (fun z => by rw [z, hR] at b; cases b)).trans b, ?_, dr, l⟩
    clear b a l
    revert dr
    induction c with
    | nil => intro _; exact .nil
    | cons r t ih => intro dr; exact .cons (r.rows (dr _ (List.mem_cons_self ..)) hR rf u) (ih fun it hi => dr it (List.mem_cons_of_mem _ hi))
  | none => exact (let ⟨it, a, b, d⟩ := h; ⟨it, a.rows d hR rf u, b, d⟩)
/-- the good ones -/
def fltr : List V → List (Option (List Itm)) → List V
  | v :: vs, o :: os => if evGood o = true then v :: fltr vs os else fltr vs os
  | _, _ => []
theorem fltr_ix : ∀ (vs : List V) (os : List (Option (List Itm))), vs.length = os.length → ((List.range vs.length).filterMap fun i => (os[i]?).bind fun o => if evGood o = true then vs[i]? else none) = fltr vs os
  | [], [], _ => rfl
  | v :: vs, o :: os, h => by
    have ih := fltr_ix vs os (by simpa using h)
    rw [List.length_cons, List.range_succ_eq_map, List.filterMap_cons, List.filterMap_map]
    have e : (List.filterMap ((fun i => ((o :: os)[i]?).bind fun o => if evGood o = true then (v :: vs)[i]? else none) ∘ Nat.succ) (List.range vs.length)) = fltr vs os := by
      rw [← ih]
      rfl
    rw [e]
    by_cases g : evGood o = true
    · simp [g, fltr]
    · simp [g, fltr]
  | [], _ :: _, h => by simp at h
  | _ :: _, [], h => by simp at h
theorem fltr_ok {H : Hp} : ∀ {vs : List V} {os : List (Option (List Itm))}, Paired (DrA H) vs os → ∃ os', Paired (DrA H) (fltr vs os) os' ∧ (∀ o ∈ os', evGood o = true) ∧ (fltr vs os).length ≤ vs.length
  | _, _, .nil => ⟨[], .nil, (fun _ h => nomatch h), Nat.le_refl _⟩
  | v :: vs, o :: os, .cons h t => by
    obtain ⟨os', h1, h2, h3⟩ := fltr_ok t
    by_cases g : evGood o = true
    · refine ⟨o :: os', ?_, fun x hx => ?_, ?_⟩
      · rw [show fltr (v :: vs) (o :: os) = v :: fltr vs os from if_pos g]
        exact .cons h h1
      · rcases List.mem_cons.mp hx with rfl | hx
        · exact g
        · exact h2 x hx
      · rw [show fltr (v :: vs) (o :: os) = v :: fltr vs os from if_pos g]
        simp; exact h3
    · rw [show fltr (v :: vs) (o :: os) = fltr vs os from if_neg g]
      exact ⟨os', h1, h2, by simp; omega⟩
theorem DrA.isRef {H : Hp} {v : V} {its : List Itm} (h : DrA H v (some its)) : ∃ a, v = .ref a := let ⟨p, _, e, _⟩ := h; ⟨p, e⟩
theorem LinesD.ext {H H' : Hp} {x : V} (h : LinesD H x) (k : ExtN H H') : LinesD H' x := by
  rcases h with ⟨b, p, vs, os, e, h1, h2, h3⟩ | ⟨it, h1, h2⟩
  · exact .inl ⟨b, p, vs, os, e, k _ _ h1 (fun _ z => by cases b <;> cases z), h2.mono fun _ _ h => h.ext k, h3⟩
  · refine .inr ⟨it, ?_, h2⟩
    cases it with
    | tu xs => exact (let ⟨a, e, q⟩ := h1; ⟨a, e, k _ _ q (fun _ z => nomatch z)⟩)
    | ls xs => exact (let ⟨a, e, q⟩ := h1; ⟨a, e, k _ _ q (fun _ z => nomatch z)⟩)
    | dc => exact (let ⟨a, e, q⟩ := h1; ⟨a, e, k _ _ q (fun _ z => nomatch z)⟩)
    | _ => exact h1
theorem tabs_off2 {T : List (Addr × Str)} {H H' : Hp} {p R : Addr} {kvs : List (Key × V)} {xs : List V} (s : ∀ b o, H b = some o → b ≠ p → b ≠ R → H' b = some o) (hp : H p = some (.dK kvs)) (hR : H R = some (.lst xs)) (t : Tabs T H) : Tabs T H' := fun q hq => by
  obtain ⟨ps, h1, h2, h3⟩ := t q hq
  refine ⟨ps, s _ _ h1 (fun z => by rw [z, hp] at h1; cases h1) (fun z => by rw [z, hR] at h1; cases h1), h2, fun pos cv hc => ?_⟩
  obtain ⟨c, e1, e2⟩ := h3 pos cv hc
  exact ⟨c, e1, s _ _ e2 (fun z => by rw [z, hp] at e2; unfold CodeO at e2; cases e2) (fun z => by rw [z, hR] at e2; unfold CodeO at e2; cases e2)⟩
theorem paired_eq {α : Type} : ∀ {xs ys : List α}, Paired (fun v a => v = a) xs ys → xs = ys
  | _, _, .nil => rfl
  | _, _, .cons r t => by rw [show _ = _ from r, paired_eq t]
theorem ext_off2 {H0 H H' : Hp} {p R : Addr} (x : ExtN H0 H) (hp : ∀ o, H0 p = some o → (∀ ps, o ≠ .tbl ps) → False) (hR : ∀ o, H0 R = some o → (∀ ps, o ≠ .tbl ps) → False) (s : ∀ b o, H b = some o → b ≠ p → b ≠ R → H' b = some o) : ExtN H0 H' := fun b o e n =>
  s b o (x b o e n) (fun z => by subst z; exact hp o e n) (fun z => by subst z; exact hR o e n)
def spLaw (K : PySem.W.Frag) : Sp := sp1 fun x H Q _ => ∃ (a : Addr) (ns : List Int), x = .ref a ∧ SqL K H a (ns.map V.int) ∧ ns.length ≤ 63 ∧ Tabs (TL K) H ∧ ∀ H', Q (.bl true) H'
theorem sc_law : FnScope ["_law_script", "_law_n", "_law_cell", "_law_state", "_law_rows", "_law_turn", "_law_item", "_law_bent_here", "_law_odd_here", "_law_one"] ["_law_script"] (defScope (top 53)) := ⟨rfl, rfl, rfl, by decide +kernel, rfl, by decide +kernel, by decide +kernel⟩
theorem f_law (T : Sy K mg) (TB : TabB base mg (He.cT K refAt).1 (He.cT K refAt).2) {fd : FuncData} (F : FunD K "law" "law" (defArgs (top 53)) (defBody (top 53)) (defScope (top 53)) [] [] (He.fAd K (dG "law" 53).at_) fd) : FnG true P w K mg base CX0 15 (He.fAd K (dG "law" 53).at_) fd ["_law_script"] (spLaw K) := by
  refine FnG.body F sc_law sp1_len fun cdv A outer s H vs Q E z h => qt ?_
  replace z : RG true 14 _ := z
  have hu1 := hu_1 z; have hu2 := hu_2 z; have hu3 := hu_3 z
  obtain ⟨_, rfl, a, ns, rfl, hs, hn, tb0, q⟩ := h
  refine ⟨_, (pss_cons (ps_for PassesOwn.never (by rfl) (pi_enum2K (K := K) rfl (by rfl) (T.free "enumerate") (pe_op (r := rAdd2 K) op_add2 (pe_slice (r := rSl2 K) sl_2 (pv 0) po_none (po_some pe_int)) (pe_lst (pa_cons (pe_callB (r := rSum K) (cr_sum rfl) (by rfl) (T.free "sum") (by decide +kernel) (pa_cons (pv 0) pa_nil)) pa_nil)))) (pg_tupK (K := K) rfl (by rfl) (pgs_cons (pg_name (i := 1) sc_law.nd rfl (by first | exact Or.inl rfl | exact Or.inr rfl)) (pgs_cons (pg_name (i := 2) sc_law.nd rfl (by first | exact Or.inl rfl | exact Or.inr rfl)) pgs_nil))) (pss_cons (ps_par (i := 3) (j := 4) (by rfl) sc_law.nd rfl rfl (by decide) rfl rfl (pa_cons (pe_c (c__law_draw T) z (pa_cons (pv 2) (pa_cons (pv 1) pa_nil))) (pa_cons (pe_lst pa_nil) pa_nil)) (by rfl)) (pss_cons (ps_for PassesOwn.never (by rfl) (pi_range1 (by rfl) (T.free "range") (pa_cons pe_int pa_nil)) (pg_name (i := 5) sc_law.nd rfl (by first | exact Or.inl rfl | exact Or.inr rfl)) (pss_cons (ps_set (i := 6) sc_law.nd rfl (by first | exact Or.inl rfl | exact Or.inr rfl) (pe_c (c__law_event T) z (pa_cons (pv 3) pa_nil))) (pss_cons (ps_set (i := 7) sc_law.nd rfl (by first | exact Or.inl rfl | exact Or.inr rfl) (pe_c (c__law_bent T) z (pa_cons (pv 3) (pa_cons (pv 6) pa_nil)))) (pss_cons (ps_if (PW.pt (pw_or (pt_cmpR (r := rNotBl) op_notBl (pe_c (c_is_event T) z (pa_cons (pv 6) pa_nil)) pe_bl (nomark _)) (pw_or1 (pt_cmpR (r := rNe2 K) (op_ne2 hu1) (pe_callB (r := rRepr K) (call_repr z) (by rfl) (T.free "repr") (by decide +kernel) (pa_cons (pe_c (c_is_event T) z (pa_cons (pv 7) pa_nil)) pa_nil)) (pe_callB (r := rRepr K) (call_repr z) (by rfl) (T.free "repr") (by decide +kernel) (pa_cons (pe_c (c__law_is_due T) z (pa_cons (pv 7) pa_nil)) pa_nil)) (nomark _))))) (pss_one (ps_ret pe_bl)) pss_nil) (pss_cons (ps_expr (pe_bmK (K := K) rfl PySem.F.plainAttrs_list PySem.F.slot_list_append PySem.F.type_list_append mt_append2 (pv 4) (pa_cons (pv 6) pa_nil))) (pss_one (ps_if (pt_cmpR (r := rEq2 K) (op_eq2 hu1) (pe_c (c__law_digit T) z (pa_cons (pv 3) (pa_cons pe_int pa_nil))) pe_int (nomark _)) (pss_one (ps_expr (pe_bmK (K := K) rfl PySem.F.plainAttrs_list PySem.F.slot_list_append PySem.F.type_list_append mt_append2 (pv 4) (pa_cons (pv 7) pa_nil)))) pss_nil))))))) (pss_cons (ps_set (i := 8) sc_law.nd rfl (by first | exact Or.inl rfl | exact Or.inr rfl) (pe_ix (r := rGet K) (ix_get hu3) (pe_lst (pa_cons pe_non (pa_cons pe_int (pa_cons pe_str (pa_cons (pe_dnewK) (pa_cons pe_bl (pa_cons (pe_tup pa_nil) pa_nil))))))) (pe_c (c__law_digit T) z (pa_cons (pv 3) (pa_cons pe_int pa_nil))) (fun _ _ => rfl))) (pss_cons (ps_if (PW.pt (pw_or (pt_cmpR (r := rNe2 K) (op_ne2 hu1) (pe_callB (r := rRepr K) (call_repr z) (by rfl) (T.free "repr") (by decide +kernel) (pa_cons (pe_c (c_is_event T) z (pa_cons (pv 8) pa_nil)) pa_nil)) (pe_callB (r := rRepr K) (call_repr z) (by rfl) (T.free "repr") (by decide +kernel) (pa_cons (pe_c (c__law_is_due T) z (pa_cons (pv 8) pa_nil)) pa_nil)) (nomark _)) (pw_or1 (pt_not (pt_val (pe_c (c__law_log_right T TB) z (pa_cons (pv 8) pa_nil))))))) (pss_one (ps_ret pe_bl)) pss_nil) (pss_cons (ps_if (pt_not (pt_val (pe_c (c__law_by_name T) z (pa_cons (pe_lc (own := [("_law_one", 9)]) (g := gName 9) (by rfl) sc_law.nd (pi_anyK (K := K) rfl (pv 4)) (blkOk_by (own := [("_law_one", 9)]) (N := ["_law_script", "_law_n", "_law_cell", "_law_state", "_law_rows", "_law_turn", "_law_item", "_law_bent_here", "_law_odd_here", "_law_one"]) (sc := (defScope (top 53))) (by decide +kernel)) (fun _ _ _ _ _ => (pg_name (i := 9) sc_law.nd rfl (by first | exact Or.inl rfl | exact Or.inr rfl))) (fun _ _ _ _ _ => pts_one (pt_val (pe_c (c__law_is_due T) z (pa_cons (pv 9) pa_nil)))) (fun _ _ _ _ _ => (pv 9))) pa_nil)))) (pss_one (ps_ret pe_bl)) pss_nil) (pss_one (ps_for PassesOwn.never (by rfl) (pi_anyK (K := K) rfl (pe_tup (pa_cons (pv 4) (pa_cons (pe_callTy (r := rTupN K) call_tupN (by rfl) (T.free "tuple") (by decide +kernel) (pa_cons (pv 4) pa_nil)) (pa_cons (pe_op (r := rAdd2 K) op_add2 (pe_callTy (r := rTupN K) call_tupN (by rfl) (T.free "tuple") (by decide +kernel) (pa_cons (pe_slice (r := rSl2 K) sl_2 (pv 4) po_none (po_some pe_int)) pa_nil)) (pe_tup (pa_cons (pv 8) pa_nil))) pa_nil))))) (pg_name (i := 9) sc_law.nd rfl (by first | exact Or.inl rfl | exact Or.inr rfl)) (pss_one (ps_if (pt_not (pt_val (pe_c (c__law_log_right T TB) z (pa_cons (pv 9) pa_nil)))) (pss_one (ps_ret pe_bl)) pss_nil)))))))))) (pss_one (ps_ret (pe_and (pe_cmpR (r := rIsN) op_isN (pe_c (c_check_log T).quiet z (pa_cons (pe_lst pa_nil) pa_nil)) pe_non (nomark _)) (pe_one (pe_cmpR (r := rIsN) op_isN (pe_c (c_check_log T).quiet z (pa_cons (pe_tup pa_nil) pa_nil)) pe_non (nomark _))))))), ?_⟩
  walk_at "yhead"; walk_at "y"
  refine for_eb true ?_
  walk_at "y"
  refine ⟨_, rfl, ?_⟩
  refine rSl2_l (N := fun _ _ => True) hs fun S1 n1 => ?_
  have s1 := same_upd (H := H) (o := .lst (cutV (ns.map V.int) none (some 4))) n1
  have e1 := upd_same (H := H) (a := S1) (o := .lst (cutV (ns.map V.int) none (some 4)))
  generalize upd H S1 (.lst (cutV (ns.map V.int) none (some 4))) = H1 at s1 e1 ⊢
  rw [show (4 : Int) = ((4 : Nat) : Int) from rfl, cut_to, ← List.map_take] at e1
  walk_at "y"
  refine ⟨a, ns, rfl, Same.seq s1 hs, ?_⟩
  walk_at "y"
  refine ⟨sz4 (by simp), fun S2 nS2 => ?_⟩
  have sH2 := same_upd (H := H1) (o := .lst [.int ns.sum]) nS2
  have eS2 := upd_same (H := H1) (a := S2) (o := .lst [.int ns.sum])
  generalize upd H1 S2 (.lst [.int ns.sum]) = H2 at sH2 eS2 ⊢
  refine rAdd2_l (sH2 _ _ e1) eS2 (sz4 (by rw [List.length_map, List.length_take]; simp; omega)) fun S3 n3 => ?_
  rw [show (ns.take 4).map V.int ++ [V.int ns.sum] = (ns.take 4 ++ [ns.sum]).map V.int by simp]
  have lms : (ns.take 4 ++ [ns.sum]).length ≤ 5 := by rw [List.length_append, List.length_take]; simp; omega
  generalize ns.take 4 ++ [ns.sum] = ms at lms ⊢
  have s3 := same_upd (H := H2) (o := .lst (ms.map V.int)) n3
  have e3 := upd_same (H := H2) (a := S3) (o := .lst (ms.map V.int))
  generalize upd H2 S3 (.lst (ms.map V.int)) = H3 at s3 e3 ⊢
  have tb3 := tabs_same ((s1.trans sH2).trans s3) tb0
  refine ⟨S3, _, rfl, SqL.of e3, for_it (walk_eb (b := true)) (Pv := fun i σ H' => ∃ x1 x2 x3 x4 x5 x6 x7 x8 x9, σ = [some (.ref a), x1, x2, x3, x4, x5, x6, x7, x8, x9] ∧ ExtN H3 H' ∧ Tabs (TL K) H')
    ⟨_, _, _, _, _, _, _, _, _, rfl, ExtN.refl _, tb3⟩ (fun i σ H' _ hp => let ⟨_, _, _, _, _, _, _, _, _, _, s, _⟩ := hp; s _ _ e3 (fun _ z => nomatch z)) (fun i v σ H4 H5 hi hp y => ?_) fun σ H' hp => ?_⟩
  rotate_left
  · obtain ⟨x1, x2, x3, x4, x5, x6, x7, x8, x9, rfl, sP, tbP⟩ := hp
    walk_at "y"
    refine ⟨sz4 (by simp), fun P1 nP1 => ?_⟩
    have sHA := same_upd (H := H') (o := .lst []) nP1
    have eP1 := upd_same (H := H') (a := P1) (o := .lst [])
    generalize upd H' P1 (.lst []) = HA at sHA eP1 ⊢
    walk_at "y"
    have lg1 : LogAt K true HA P1 [] := ⟨[], eP1, .nil, (fun _ h => nomatch h), by decide⟩
    refine lg1.check fun HB sB => ?_
    walk_at "y"
    refine ⟨sz4 (by simp), fun P2 nP2 => ?_⟩
    have sHC := same_upd (H := HB) (o := .tup []) nP2
    have eP2 := upd_same (H := HB) (a := P2) (o := .tup [])
    generalize upd HB P2 (.tup []) = HC at sHC eP2 ⊢
    walk_at "y"
    have lg2 : LogAt K false HC P2 [] := ⟨[], eP2, .nil, (fun _ h => nomatch h), by decide⟩
    refine lg2.check fun HD sD => ?_
    walk_at "y"
    exact q _
  obtain ⟨x1, x2, x3, x4, x5, x6, x7, x8, x9, rfl, sP, tbP⟩ := hp
  obtain ⟨tt, v1, v2, rfl, ht, rfl, d1, d2⟩ := y
  cases d1
  have hi5 : i < 5 := by rw [List.length_map] at hi; omega
  obtain ⟨c, rfl⟩ : ∃ c : Int, v2 = .int c := by
    have d3 : (ms.map V.int)[i]? = some v2 := d2
    rw [List.getElem?_map] at d3
    cases h : ms[i]? with
    | none => rw [h] at d3; cases d3
    | some c => rw [h] at d3; cases d3; exact ⟨c, rfl⟩
  have sY := same_upd (o := .tup [.int i, .int c]) ht
  refine gTup_i (SqT.of upd_same) ?_
  have xA := sP.trans (extN_of sY)
  have tbA := tabs_same sY tbP
  generalize upd H4 tt (.tup [.int i, .int c]) = HA at *
  walk_at "y"
  refine ⟨_, _, rfl, c, i, rfl, rfl, by omega, by omega, fun p L HB L0 np sB ep => ?_⟩
  have tbB := tabs_same sB tbA
  walk_at "y"
  refine ⟨sz4 (by simp), fun R nR => ?_⟩
  have sHC := same_upd (H := HB) (o := .lst []) nR
  have eR := upd_same (H := HB) (a := R) (o := .lst [])
  generalize upd HB R (.lst []) = HC at sHC eR ⊢
  refine ⟨_, _, rfl, ?_⟩
  have dsC : DrS HC p c (1000 * (i : Nat)) := ⟨L, L0, sHC _ _ ep⟩
  have nRp : R ≠ p := Ne.symm (ne_of_none ep nR)
  have tbC := tabs_same sHC tbB
  have xC := xA.trans (extN_of (sB.trans sHC))
  have pC : ∀ o, H3 p = some o → (∀ ps, o ≠ .tbl ps) → False := fun o e n => by rw [xA _ _ e n] at np; cases np
  have RC : ∀ o, H3 R = some o → (∀ ps, o ≠ .tbl ps) → False := fun o e n => by rw [(xA.trans (extN_of sB)) _ _ e n] at nR; cases nR
  walk_at "y"
  refine for_r1 ?_
  walk_at "y"
  refine ⟨12, rfl, by decide, by decide, for_it walk_range (Pv := fun j σ H' => ∃ t' rows os x5 x6 x7, σ = [some (.ref a), some (.int i), some (.int c), some (.ref p), some (.ref R), x5, x6, x7, x8, x9] ∧ DrS H' p c t' ∧ 1000 * (i : Nat) ≤ t' ∧ t' ≤ 1000 * (i : Nat) + 100 * (j : Nat) ∧ H' R = some (.lst rows) ∧ refsOnly rows ∧ Paired (DrA H') rows os ∧ rows.length ≤ 2 * j ∧ ∀ b o, HC b = some o → b ≠ p → b ≠ R → H' b = some o)
    ⟨_, [], [], _, _, _, rfl, dsC, Int.le_refl _, by simp, eR, (fun _ h => nomatch h), .nil, by simp, fun b o e _ _ => e⟩ (fun _ _ _ _ _ => trivial) (fun j x σ H5 H5' hj hp y => ?_) fun σ H' hp => ?_⟩
  · obtain ⟨t', rows, os, y5, y6, y7, rfl, ds, tl, tu, kR, rf, pr, ln, off⟩ := hp
    obtain ⟨rfl, rfl⟩ := y
    have hj12 : j < 12 := hj
    walk_at "y"
    refine ⟨_, rfl, p, c, t', rfl, ds, by omega, by omega, fun v its t1 H6 a1 a2 off6 ds6 ev6 => ?_⟩
    walk_at "y"
    refine ⟨_, _, rfl, p, c, t1, its, rfl, ds6, by omega, by omega, ev6, fun v2 o2 t2 H7 a3 a4 off7 ds7 da7 isV2 => ?_⟩
    have ev7 : DrA H7 v (some its) := ev6.1.off ds6 off7
    have kR6 := off6 _ _ kR nRp
    have kR7 := off7 _ _ kR6 nRp
    have pr7 : Paired (DrA H7) rows os := pr.mono fun _ _ h => (h.off ds off6).off ds6 off7
    walk_at "y"
    refine event_i (K := K) ev7.ev fun H8 s8 => ?_
    walk_at "y"
    rw [show evGood (some its) = true from ev6.2.2.2]
    refine ⟨true, true, rfl, rfl, ?_⟩
    walk_at "y"
    refine event_i (K := K) (da7.same s8).ev fun H9 s9 => ?_
    walk_at "y"
    refine ⟨_, _, rfl, .bl _, (Sm.bl _).mono (by decide) (by decide), ?_⟩
    walk_at "y"
    refine due_i (K := K) ((da7.same s8).same s9) fun HD sD => ?_
    walk_at "y"
    refine ⟨_, _, rfl, .bl _, (Sm.bl _).mono (by decide) (by decide), ?_⟩
    walk_at "y"
    rw [decide_eq_true rfl]
    walk_at "y"
    have s7D := s8.trans (s9.trans sD)
    have kRD := s7D _ _ kR7
    have prD := pr7.mono fun _ _ h => DrA.same h s7D
    have evD := ev7.same s7D
    have daD := da7.same s7D
    have dsD := ds7.same s7D
    have offD : ∀ b o, HC b = some o → b ≠ p → b ≠ R → HD b = some o := fun b o e n m => s7D _ _ (off7 _ _ (off6 _ _ (off b o e n m) n) n)
    have isV : ∃ a, v = .ref a := evD.isRef
    refine ⟨tyL kRD, ?_⟩
    walk_at "y"
    refine appU_i kRD (Nat.lt_of_le_of_lt (show rows.length ≤ 24 by omega) (Nat.lt_of_lt_of_le (by decide) (sz4 (n := 25)))) fun HE kE uE => ?_
    have prE : Paired (DrA HE) (rows ++ [v]) (os ++ [some its]) := paired_append (prD.mono fun _ _ h => h.rows kRD rf uE) (.cons (evD.rows kRD rf uE) .nil)
    have daE := daD.rows kRD rf uE
    have dsE : DrS HE p c t2 := let ⟨L, l0, e⟩ := dsD; ⟨L, l0, (uE p (Ne.symm nRp)).trans e⟩
    have rfE : refsOnly (rows ++ [v]) := fun x hx => by
      rcases List.mem_append.mp hx with hx | hx
      · exact rf x hx
      · rw [List.mem_singleton.mp hx]; exact isV
    have offE : ∀ b o, HC b = some o → b ≠ p → b ≠ R → HE b = some o := fun b o e n m => (uE b m).trans (offD b o e n m)
    walk_at "y"
    refine digit_i dsE (by omega) (by omega) (by decide) (by decide) fun d9 t3 HF b0 b1 a5 a6 offF dsF => ?_
    have kF := offF _ _ kE nRp
    have prF := prE.mono fun _ _ h => DrA.off h dsE offF
    have daF := daE.off dsE offF
    have offFF : ∀ b o, HC b = some o → b ≠ p → b ≠ R → HF b = some o := fun b o e n m => offF _ _ (offE b o e n m) n
    walk_at "y"
    by_cases c9 : d9 = 0
    · refine iteDT c9 ?_
      walk_at "y"
      refine ⟨tyL kF, ?_⟩
      walk_at "y"
      have lnE : (rows ++ [v]).length ≤ 24 := by simp; omega
      refine appU_i kF (Nat.lt_of_le_of_lt lnE (Nat.lt_of_lt_of_le (by decide) (sz4 (n := 25)))) fun HG kG uG => ?_
      walk_at "y"
      refine ⟨t3, _, _, _, _, _, rfl, (let ⟨L, l0, e⟩ := dsF; ⟨L, l0, (uG p (Ne.symm nRp)).trans e⟩), by omega, by omega, kG, fun x hx => ?_, paired_append (prF.mono fun _ _ h => h.rows kF rfE uG) (.cons (daF.rows kF rfE uG) .nil), by simp; omega, fun b o e n m => (uG b m).trans (offFF b o e n m)⟩
      rcases List.mem_append.mp hx with hx | hx
      · exact rfE x hx
      · rw [List.mem_singleton.mp hx]; exact isV2
    · refine iteDF c9 ?_
      walk_at "y"
      exact ⟨t3, _, _, _, _, _, rfl, dsF, by omega, by omega, kF, rfE, prF, by simp; omega, offFF⟩
  obtain ⟨t', rows, os, y5, y6, y7, rfl, ds, tl, tu, kR, rf, pr, ln, off⟩ := hp
  have ln24 : rows.length ≤ 24 := ln
  walk_at "y"
  -- another value
  dsimp only [tDNewK]
  intro D0 nD0
  have sH2' := same_upd (H := H') (o := .dK []) nD0
  have eD0 := upd_same (H := H') (a := D0) (o := .dK [])
  generalize upd H' D0 (.dK []) = H6 at sH2' eD0 ⊢
  walk_at "y"
  refine ⟨sz4 (by simp), fun E0 nE0 => ?_⟩
  have sH7 := same_upd (H := H6) (o := .tup []) nE0
  have eE0 := upd_same (H := H6) (a := E0) (o := .tup [])
  generalize upd H6 E0 (.tup []) = H7 at sH7 eE0 ⊢
  walk_at "y"
  refine ⟨sz4 (by simp), fun L6 nL6 => ?_⟩
  have sH8 := same_upd (H := H7) (o := .lst [.non, .int 5, .str "open", .ref D0, .bl true, .ref E0]) nL6
  have eL6 := upd_same (H := H7) (a := L6) (o := .lst [.non, .int 5, .str "open", .ref D0, .bl true, .ref E0])
  generalize upd H7 L6 (.lst [.non, .int 5, .str "open", .ref D0, .bl true, .ref E0]) = H8 at sH8 eL6 ⊢
  walk_at "y"
  have s68 := sH7.trans sH8
  have s58 := sH2'.trans s68
  have ds8 := ds.same s58
  refine digit_i ds8 (by omega) (by omega) (by decide) (by decide) fun d6 t6 H9 b0 b1 a5 a6 off9 ds9 => ?_
  have kL := off9 _ _ eL6 (ds8.ne eL6 fun _ z => nomatch z)
  have kD : H9 D0 = some (.dK []) := off9 _ _ (s68 _ _ eD0) (ds8.ne (s68 _ _ eD0) fun _ z => nomatch z)
  have kE := off9 _ _ (sH8 _ _ eE0) (ds8.ne (sH8 _ _ eE0) fun _ z => nomatch z)
  have kR9 : H9 R = some (.lst rows) := off9 _ _ (s58 _ _ kR) nRp
  have pr9 : Paired (DrA H9) rows os := pr.mono fun _ _ h => (DrA.same h s58).off ds8 off9
  have off99 : ∀ b o, HC b = some o → b ≠ p → b ≠ R → H9 b = some o := fun b o e n m => off9 _ _ (s58 _ _ (off b o e n m)) n
  refine rGet_dr kL b0 b1 fun ov hov _ => ?_
  obtain ⟨oo, dao, ldo⟩ : ∃ oo, DrA H9 ov oo ∧ LinesD H9 ov := by
    simp only [List.mem_cons, List.not_mem_nil, or_false] at hov
    rcases hov with rfl | rfl | rfl | rfl | rfl | rfl
    · exact ⟨none, ⟨.non, rfl, (fun _ z => nomatch z), rfl⟩, .inr ⟨.non, rfl, (fun _ z => nomatch z), fun _ z => nomatch z⟩⟩
    · exact ⟨none, ⟨.int 5, rfl, (fun _ z => nomatch z), by decide +kernel⟩, .inr ⟨.int 5, rfl, (fun _ z => nomatch z), fun _ z => nomatch z⟩⟩
    · exact ⟨none, ⟨.str "open", tx_at (by decide +kernel), (fun _ z => nomatch z), by decide +kernel⟩, .inr ⟨.str "open", tx_at (by decide +kernel), (fun _ z => nomatch z), fun _ z => nomatch z⟩⟩
    · exact ⟨none, ⟨.dc, ⟨D0, rfl, kD⟩, (fun _ z => nomatch z), rfl⟩, .inr ⟨.dc, ⟨D0, rfl, kD⟩, (fun _ z => nomatch z), fun _ z => nomatch z⟩⟩
    · exact ⟨none, ⟨.bl true, rfl, (fun _ z => nomatch z), rfl⟩, .inr ⟨.bl true, rfl, (fun _ z => nomatch z), fun _ z => nomatch z⟩⟩
    · exact ⟨some [], ⟨E0, [], rfl, kE, .nil, (fun _ h => nomatch h), by decide⟩, .inl ⟨false, E0, [], [], rfl, kE, .nil, by decide⟩⟩
  clear hov kL kD kE eL6 eE0 eD0
  walk_at "y"
  refine event_i (K := K) dao.ev fun HA1 sA1 => ?_
  walk_at "y"
  refine ⟨_, _, rfl, .bl _, (Sm.bl _).mono (by decide) (by decide), ?_⟩
  walk_at "y"
  refine due_i (K := K) (dao.same sA1) fun HA2 sA2 => ?_
  walk_at "y"
  refine ⟨_, _, rfl, .bl _, (Sm.bl _).mono (by decide) (by decide), ?_⟩
  walk_at "y"
  rw [decide_eq_true rfl]
  walk_at "y"
  have tb9 : Tabs (TL K) H9 := tabs_off2 off99 (sHC _ _ ep) eR tbC
  have x9 : ExtN H3 H9 := ext_off2 xC pC RC off99
  have s92 := sA1.trans sA2
  replace tb9 := tabs_same s92 tb9
  have dao2 := dao.same s92
  have pr92 := pr9.mono fun _ _ h => DrA.same h s92
  have kR92 := s92 _ _ kR9
  refine ⟨_, rfl, ldo.ext (extN_of s92), tb9, fun HA3 xA3 tbA3 => ?_⟩
  replace x9 := x9.trans ((extN_of s92).trans xA3)
  replace dao2 := dao2.ext xA3
  replace pr92 := pr92.mono fun _ _ h => DrA.ext h xA3
  replace kR92 := xA3 _ _ kR92 (fun _ z => nomatch z)
  walk_at "y"
  have lro : rows.length = os.length := pr92.length
  refine lc_b true ?_
  walk_at "y"
  refine ⟨R, rfl, ⟨_, SqL.of kR92⟩, lc_pure (walk_b (b := true)) (Nat.le_trans ln24 sz4) (fun i => (os[i]?).bind fun o => if evGood o = true then rows[i]? else none) (ρ := fun _ v a => v = a) (fun _ _ _ _ _ h => h) (fun H' s => s _ _ kR92) (fun i H0 x H1 y => by obtain ⟨rfl, _⟩ := y; exact Same.refl _) (fun k x H0 H2 hk s0 s2 y N C hC hN => ?_) fun D1 HA4 ws hD s4 e4 prw => ?_⟩
  · obtain ⟨rfl, e2⟩ := y
    obtain ⟨o, e5, da⟩ := paired_of pr92 e2
    walk_at "y"
    refine ⟨rfl, ?_⟩
    walk_at "y"
    refine due_i (K := K) (da.same s2) fun H6 s6 => ⟨_, rfl, ?_⟩
    cases g : evGood o with
    | true =>
      walk_at "y"
      exact hC _ _ _ s6 (by rw [e5]; simp [g]; exact e2) rfl
    | false =>
      walk_at "y"
      exact hN (by rw [e5]; simp [g]) _ s6
  rw [paired_eq prw, fltr_ix _ _ lro] at e4
  obtain ⟨os', f1, f2, f3⟩ := fltr_ok (pr92.mono fun _ _ h => DrA.same h s4)
  obtain ⟨es, lg⟩ := log_of (K := K) (b := true) e4 (paired_ev f1) (firstBad_none _ 0 f2) (paired_int f1) (by omega)
  have les : es.length ≤ 30 := by
    obtain ⟨vs', g1, g2, _⟩ := lg
    rw [e4] at g1
    cases g1
    rw [← g2.length]
    omega
  walk_at "y"
  refine ⟨_, rfl, D1, es, rfl, lg, les, fun HA5 s5 => ?_⟩
  walk_at "y"
  have s45 := s4.trans s5
  replace x9 := x9.trans (extN_of s45)
  replace tbA3 := tabs_same s45 tbA3
  replace dao2 := dao2.same s45
  replace pr92 := pr92.mono fun _ _ h => DrA.same h s45
  replace kR92 := s45 _ _ kR92
  clear lg les e4 f1 f2 f3
  walk_at "y"
  refine for_b false ?_
  walk_at "y"
  refine ⟨R, rows, rfl, .inl ⟨SqL.of kR92, fun T1 nT1 => ?_⟩⟩
  have sB1 := same_upd (H := HA5) (o := .tup rows) nT1
  have eT1 := upd_same (H := HA5) (a := T1) (o := .tup rows)
  generalize upd HA5 T1 (.tup rows) = HB1 at sB1 eT1 ⊢
  walk_at "y"
  refine ⟨_, rfl, ?_⟩
  refine rSl2_l (N := fun _ _ => True) (SqL.of (sB1 _ _ kR92)) fun T2 nT2 => ?_
  rw [show (1 : Int) = ((1 : Nat) : Int) from rfl, cut_to]
  have sB2 := same_upd (H := HB1) (o := .lst (rows.take 1)) nT2
  have eT2 := upd_same (H := HB1) (a := T2) (o := .lst (rows.take 1))
  generalize upd HB1 T2 (.lst (rows.take 1)) = HB2 at sB2 eT2 ⊢
  walk_at "y"
  refine ⟨T2, rows.take 1, rfl, .inl ⟨SqL.of eT2, fun T3 nT3 => ?_⟩⟩
  have sB3 := same_upd (H := HB2) (o := .tup (rows.take 1)) nT3
  have eT3 := upd_same (H := HB2) (a := T3) (o := .tup (rows.take 1))
  generalize upd HB2 T3 (.tup (rows.take 1)) = HB3 at sB3 eT3 ⊢
  walk_at "y"
  refine ⟨sz4 (by simp), fun T4 nT4 => ?_⟩
  have sHB4 := same_upd (H := HB3) (o := .tup [ov]) nT4
  have eT4 := upd_same (H := HB3) (a := T4) (o := .tup [ov])
  generalize upd HB3 T4 (.tup [ov]) = HB4 at sHB4 eT4 ⊢
  refine rAdd2_t (sHB4 _ _ eT3) eT4 (by rw [List.length_take]; simp; omega) fun T5 HB5 sB5 eT5 => ?_
  walk_at "y"
  refine ⟨sz4 (by simp), fun T6 nT6 => ?_⟩
  have sHB6 := same_upd (H := HB5) (o := .tup [.ref R, .ref T1, .ref T5]) nT6
  have eT6 := upd_same (H := HB5) (a := T6) (o := .tup [.ref R, .ref T1, .ref T5])
  generalize upd HB5 T6 (.tup [.ref R, .ref T1, .ref T5]) = HB6 at sHB6 eT6 ⊢
  have s36 := sB3.trans (sHB4.trans (sB5.trans sHB6))
  have s56 := sB1.trans (sB2.trans s36)
  have pr6 := pr92.mono fun _ _ h => DrA.same h s56
  have all : ∀ x ∈ ([.ref R, .ref T1, .ref T5] : List V), LinesD HB6 x := fun x hx => by
    simp only [List.mem_cons, List.not_mem_nil, or_false] at hx
    rcases hx with rfl | rfl | rfl
    · exact .inl ⟨true, R, rows, os, rfl, s56 _ _ kR92, pr6, by omega⟩
    · exact .inl ⟨false, T1, rows, os, rfl, (sB2.trans s36) _ _ eT1, pr6, by omega⟩
    · exact .inl ⟨false, T5, rows.take 1 ++ [ov], os.take 1 ++ [oo], rfl, sHB6 _ _ eT5, paired_append (pr_take 1 pr6) (.cons (dao2.same s56) .nil), by rw [List.length_append, List.length_take]; simp; omega⟩
  replace tbA3 := tabs_same s56 tbA3
  replace x9 := x9.trans (extN_of s56)
  refine ⟨T6, rfl, ⟨_, SqT.of eT6⟩, for_it (walk_b (b := false) (xs := [.ref R, .ref T1, .ref T5])) (Pv := fun k σ H' => (∃ z9, σ = [some (.ref a), some (.int i), some (.int c), some (.ref p), some (.ref R), y5, y6, y7, some ov, z9]) ∧ ExtN HB6 H' ∧ Tabs (TL K) H') ⟨⟨_, rfl⟩, ExtN.refl _, tbA3⟩ (fun k σ H' _ hp => hp.2.1 _ _ eT6 (fun _ z => nomatch z)) (fun k x σ H0 H' hk hp y => ?_) fun σ H' hp => ?_⟩
  · obtain ⟨⟨z9, rfl⟩, x0, tb0⟩ := hp
    obtain ⟨rfl, e2⟩ := y
    walk_at "y"
    refine ⟨_, rfl, (all x (List.mem_of_getElem? e2)).ext x0, tb0, fun H7 x7 tb7 => ?_⟩
    walk_at "y"
    exact ⟨⟨_, rfl⟩, x0.trans x7, tb7⟩
  obtain ⟨⟨z9, rfl⟩, x0, tb0⟩ := hp
  exact ⟨_, _, _, _, _, _, _, _, _, rfl, x9.trans x0, tb0⟩
end

end L75
namespace L75
open PySem PySem.Spec PyProof.Rows L2
variable {gd : Bool}
local macro_rules | `(tactic| walk_at "y1") => `(tactic| with_reducible first
  | refine tSeq_i ?_ | refine tAsg_i ?_ | refine tCons_i ?_ | refine tNil_i ?_ | refine tC_i ?_ | refine tOp_i ?_ | refine tIfS_i ?_ | refine tTest_i ?_ | refine exBl_i ?_ | refine tRet_i ?_ | refine tCall_i ?_
  | refine tCB_i ?_ | refine tLst_i ?_ | refine tTup_i ?_ | refine rI0_i ?_ | refine tDrop_i ?_ | refine tNext_i ?_ | refine tB_i ?_ | refine tAnd_i ?_ | refine tOr_i ?_ | refine tNot_i ?_ | refine tAndV_i ?_ | refine tOrV_i ?_ | refine tNotV_i ?_
  | refine tIf_i ?_ | refine tUn_i ?_ | refine tDGet_i ?_ | refine sDPut_i ?_ | refine tFld_i ?_ | refine tRetN_i ?_ | refine tBreak_i ?_ | refine tCont_i ?_ | refine rU_i ?_)
local macro_rules | `(tactic| walk_at "yhead") => `(tactic| dsimp only [L2.start, List.map, List.length_cons, List.length_nil, Nat.reduceAdd, Nat.reduceSub, List.replicate, List.cons_append, List.nil_append])
local macro_rules | `(tactic| walk_at "y2") => `(tactic| first
  | walk_at "y1"
  | ((with_reducible refine tVar_i (v := ?v) ?h ?q); (case h => rfl))
  | ((with_reducible refine gName_i ?_); (dsimp only [List.set]))
  | ((with_reducible refine rEq_i ?h ?q); (case h => rfl)) | ((with_reducible refine rNe_i ?h ?q); (case h => rfl)))
local macro_rules | `(tactic| walk_at "y") => `(tactic| repeat walk_at "y2")

/-! the end of a law over FnG whose defs make functions: their tables stand empty at the start -/
theorem lawGT {P : Program} {w : World} {K : PySem.W.Frag} {mg mb : Str → Option Value} {CX : CXT} {n : Nat} {fa a c Pt : Addr} {fd : FuncData} {x : Str} {sp : Sp} {st : Shared} {us : List Value} {ns : List Int}
    (KX : K.In st.heap) (G1 : st.heap.Ns mainGlobals mg) (G2 : st.heap.Ns builtinsNs mb) (G3 : ∀ y : Str, y ≠ "__name__" → mb y = bootBuiltins y) (G4 : st.heap.NoLimit) (G5 : st.gens = #[])
    (hh : PySem.W.codeHdIn K c Pt = true) (hT : st.heap.get? Pt = some { cls := .none, data := .fields #[] }) (nT : K.lookup Pt = none)
    (hbm : ∃ (bm : Addr) (ob : Obj), mg "__builtins__" = some (.ref bm) ∧ bm ≠ builtinsNs ∧ st.heap.get? bm = some ob ∧ ob.cls = .type "module" ∧ ob.dict = some builtinsNs ∧ ob.data = .plain)
    (ha : st.heap.get? a = some { cls := .type "list", data := .seq us.toArray }) (hi : IntsAre us ns) (hl : ns.length ≤ sizeLine) (z : RG true n callerA)
    (F : ∀ base : Heap, K.In base → base.Ns mainGlobals mg → LamX.TabB base mg c Pt → FnG true P w K mg base CX n fa fd [x] sp) (bd : ∀ (s : Shared) (u : Value), BindsTo s fd ⟨[u], []⟩ [(x, u)])
    (hsp : ∀ H : Hp, H Pt = some (.tbl #[]) → SqL K H a (ns.map V.int) → sp [.ref a] H (fun v _ => v = .bl true) fun _ _ _ => False)
    (hCX : ∀ H e sz, CX [] H st (fun _ _ _ => False) e sz → False) :
    codeAny (model P w) callerA (.call (.ref fa) ⟨[.ref a], []⟩) (fun r sz => r = .ok (.ret (.bool true)) ∧ OldK st.heap sz.heap ∧ sz.os = st.os ∧ AllBare sz.gens) st := by
  have rv := vals_ints hi
  have ln := hi.length
  have nPa : a ≠ Pt := fun e => by rw [e, hT] at ha; cases ha
  have core : ∀ H : Hp, H Pt = some (.tbl #[]) → (∀ b, b = Pt ∨ H b = none ∨ ∃ o xs, H b = some (.frz o (.lst xs))) → SqL K H a (ns.map V.int) → HOk P w H st.heap → (∀ b, H b ≠ none → b = Pt ∨ (b = a ∧ K.lookup a = none)) →
      codeAny (model P w) callerA (.call (.ref fa) ⟨[.ref a], []⟩) (fun r sz => r = .ok (.ret (.bool true)) ∧ OldK st.heap sz.heap ∧ sz.os = st.os ∧ AllBare sz.gens) st := by
    intro H hP hO hS ok hA
    have fr0 : ∀ {b : Addr} {o : Obj}, st.heap.get? b = some o → H b = none → (hidT st.heap H).get? b = some o := fun e k => hidT_get e k
    have out : ∀ {b : Addr} {o : Obj}, st.heap.get? b = some o → (o.data ≠ .seq us.toArray 0 ∧ o.data ≠ .fields #[]) ∨ (∃ q, K.lookup b = some q) → H b = none := by
      intro b o e d
      cases q : H b with
      | none => rfl
      | some u =>
        rcases hA b (by rw [q]; exact fun y => nomatch y) with eb | ⟨eb, ek⟩
        · subst eb
          rcases d with d | ⟨y, d⟩
          · rw [hT] at e; cases e; exact absurd rfl d.2
          · rw [nT] at d; cases d
        · subst eb
          rcases d with d | ⟨y, d⟩
          · rw [ha] at e; cases e; exact absurd rfl d.1
          · rw [ek] at d; cases d
    have ns0 : ∀ {b : Addr} {m : Str → Option Value}, st.heap.Ns b m → (hidT st.heap H).Ns b m := fun ⟨o, es, ep, e, d, r⟩ => ⟨o, es, ep, fr0 e (out e (.inl (by rw [d]; exact ⟨(fun y => nomatch y), (fun y => nomatch y)⟩))), d, r⟩
    have KB : K.In (hidT st.heap H) := fun b o e => fr0 (KX b o e) (out (KX b o e) (.inr ⟨o, e⟩))
    have MD : Mod K mg (hidT st.heap H) := ⟨KB, ns0 G1, ⟨mb, ns0 G2, G3⟩, let ⟨mc, q1, q2⟩ := G4; ⟨mc, ns0 q1, q2⟩⟩
    have e0 : Env0 P w K mg (hidT st.heap H) callerA [] st H := ⟨rfl, MD, fun b o e => of_hidT e, Nat.le_of_eq (hidT_size _ _), trivial, fun b hb => absurd (show b ∈ ([] : List Addr) from hb) List.not_mem_nil, ok, .of_eq G5⟩
    have gP : mainGlobals ≠ Pt := fun e => by
      obtain ⟨o, es, ep, q, hd, _⟩ := G1
      rw [e, hT] at q
      cases q
      cases hd
    have TB : LamX.TabB (hidT st.heap H) mg c Pt := by
      refine NdefX.tabB_of_K KB hh ?_ gP
      obtain ⟨bm, ob, b1, b2, b3, b4, b5, b6⟩ := hbm
      refine ⟨bm, ob, b1, b2, fun e => ?_, fun e => ?_, fr0 b3 (out b3 (.inl (by rw [b6]; exact ⟨(fun y => nomatch y), (fun y => nomatch y)⟩))), b4, b5, b6⟩
      · obtain ⟨o, es, ep, q, hd, _⟩ := G1
        rw [← e, b3] at q
        cases q
        rw [hd] at b6
        cases b6
      · rw [e, hT] at b3
        cases b3
        cases b6
    refine codeAny_mono ((F _ KB (ns0 G1) TB).run callerA [] st H ⟨[.ref a], []⟩ [.ref a] [.ref a] _ _ z e0 (bd st (.ref a)) (.cons rfl .nil) (hsp H hP hS)) fun r sz h => ?_
    cases r with
    | error e => exact (hCX H e sz h).elim
    | ok fl =>
      cases fl with
      | next => exact False.elim h
      | brk => exact False.elim h
      | cont => exact False.elim h
      | ret u =>
        obtain ⟨v, H', os, bare, un, ok', r2, q⟩ := h
        have qv : v = .bl true := q
        subst qv
        obtain rfl : u = Value.bool true := r2
        have kept : ∀ b o, b ≠ Pt → st.heap.get? b = some o → sz.heap.get? b = some o := fun b o nb e => by
          rcases hO b with k | k | ⟨ob, xs, k⟩
          · exact absurd k nb
          · exact un.keep b o e k (fun y => nomatch (show b ∈ ([] : List Addr) from y)) (fun y => nomatch y)
          · obtain ⟨e1, _⟩ := ok b _ k
            obtain ⟨e2, _⟩ := ok' b _ (un.frzs b ob _ k)
            rw [e] at e1; cases e1
            exact e2
        obtain ⟨more, hm⟩ := un.tbls Pt #[] hP
        have hm2 : sz.heap.get? Pt = some { cls := .none, data := .fields (#[] ++ more) } := ok' Pt _ hm
        refine ⟨rfl, ⟨fun b o e => ?_, fun b o e => ?_⟩, os, bare⟩
        · by_cases hb : b = Pt
          · subst hb
            rw [hT] at e
            cases e
            exact .inr (.inl ⟨((PySem.W.codeHd_of_K KX hh).tab hT).isCodeTable, rfl, #[], more, rfl, hm2⟩)
          · exact .inl (kept b o hb e)
        · by_cases hb : b = Pt
          · subst hb; exact ⟨_, hm2⟩
          · exact ⟨o, kept b o hb e⟩
  cases hk : K.lookup a with
  | some o =>
    have e := KX a o hk
    rw [ha] at e
    cases e
    refine core (fun b => if b = Pt then some (.tbl #[]) else none) (if_pos rfl) (fun b => ?_) (.inr ⟨_, us.toArray, _, hk, rfl, rfl, rfl, by rw [List.size_toArray, ln]; exact hl, by simpa using rv⟩) (fun b u y => ?_) fun b y => ?_
    · by_cases hb : b = Pt
      · exact .inl hb
      · exact .inr (.inl (if_neg hb))
    · by_cases hb : b = Pt
      · have y2 := (if_pos hb).symm.trans y
        cases y2
        rw [hb]
        exact hT
      · exact nomatch (if_neg hb).symm.trans y
    · by_cases hb : b = Pt
      · exact .inl hb
      · exact absurd (if_neg hb) y
  | none =>
    refine core (fun b => if b = Pt then some (.tbl #[]) else if b = a then some (HO.frz { cls := .type "list", data := .seq us.toArray } (.lst (ns.map V.int))) else none) (if_pos rfl) (fun b => ?_) (.inl (.inr ⟨{ cls := .type "list", data := .seq us.toArray }, (if_neg nPa).trans (if_pos rfl)⟩)) (fun b u y => ?_) fun b y => ?_
    · by_cases hb : b = Pt
      · exact .inl hb
      · by_cases hb2 : b = a
        · exact .inr (.inr ⟨_, _, (if_neg hb).trans (if_pos hb2)⟩)
        · exact .inr (.inl ((if_neg hb).trans (if_neg hb2)))
    · by_cases hb : b = Pt
      · have y2 := (if_pos hb).symm.trans y
        cases y2
        rw [hb]
        exact hT
      · have y1 := (if_neg hb).symm.trans y
        by_cases hb2 : b = a
        · have y2 := (if_pos hb2).symm.trans y1
          cases y2
          subst hb2
          exact ⟨ha, by rw [List.length_map]; exact hl, us, _, rv, ha⟩
        · exact nomatch (if_neg hb2).symm.trans y1
    · by_cases hb : b = Pt
      · exact .inl hb
      · by_cases hb2 : b = a
        · exact .inr ⟨hb2, hk⟩
        · exact absurd ((if_neg hb).trans (if_neg hb2)) y
theorem walkGT {l : PySem.W.OpenLaw} {m n : Nat} {q : Program} {loose : List Str} {XP : (Str → Option Value) → Heap → Prop} {YP : World → Heap → Prop} {d : DefRec} {CX : World → CXT} {x : Str}
    (hm : l.most = some m) (hm2 : m ≤ sizeLine) (hdf : d.params.defaults = []) (hr : Room n callerA)
    (F : ∀ (w : World) (mg : Str → Option Value) (fa : Addr) (h : Heap), YP w h → h.Ns mainGlobals mg → mg d.name = some (.ref fa) →
      ∃ (K : PySem.W.Frag) (fd : FuncData) (sp : Sp) (c Pt : Addr), K.In h ∧ PySem.W.codeHdIn K c Pt = true ∧ h.get? Pt = some { cls := .none, data := .fields #[] } ∧ K.lookup Pt = none ∧ (∀ (s : Shared) (u : Value), BindsTo s fd ⟨[u], []⟩ [(x, u)]) ∧
        (∀ (H : Hp) (a : Addr) (ns : List Int), ns.length ≤ m → H Pt = some (.tbl #[]) → SqL K H a (ns.map V.int) → sp [.ref a] H (fun v _ => v = .bl true) fun _ _ _ => False) ∧
        ∀ base : Heap, K.In base → base.Ns mainGlobals mg → LamX.TabB base mg c Pt → FnG true l.prog w K mg base (CX w) n fa fd [x] sp)
    (hCX : ∀ (w : World) (H : Hp) (s : Shared) (e : Value) (sz : Shared), CX w [] H s (fun _ _ _ => False) e sz → False) :
    PySem.W.WalkO q loose XP YP l.row.toRowW d [] (fun f vs => PySem.call f vs) := by
  refine Att.attach_callB hm hdf fun w s0 st mg mb fa o pm cd doc a us ns G Y ho hd hcd hmg hobj hints hlen hbits hg => ?_
  obtain ⟨K, fd, sp, c, Pt, KX, hh, hT, nT, bd, hsp, hF⟩ := F w mg fa _ Y G.T.g hmg
  exact lawGT KX G.T.g G.T.b G.T.builtins G.T.nolimit hg hh hT nT G.T.bmain hobj hints (Nat.le_trans hlen hm2) ⟨hr, fun _ => rfl⟩ hF bd (fun H hP hS => hsp H a ns hlen hP hS) fun H e sz => hCX w H st e sz
section
theorem law_facts {P : Program} {w : World} {K : PySem.W.Frag} {h : Heap} {mg : Str → Option Value} {f : Addr} (X : K.In h) (G : h.Ns mainGlobals mg) (hfa : mg ("law" : Str) = some (.ref f)) (c : obsX fa fn pr xb K = valX fn pr) :
    ∃ fd : FuncData, (∀ (s : Shared) (v : Value), BindsTo s fd ⟨[v], []⟩ [("_law_script", v)]) ∧ ∀ base : Heap, K.In base → base.Ns mainGlobals mg → LamX.TabB base mg (He.cT K refAt).1 (He.cT K refAt).2 → FnG true P w K mg base CX0 15 f fd ["_law_script"] (spLaw K) := by
  obtain ⟨c1, c2, c3⟩ := saysX c
  have T : Sy K mg := ⟨c1, c2, c3, h, X, G⟩
  obtain ⟨fd, F⟩ := F_law T
  have e := hfa.symm.trans (T.glo "law")
  cases e
  have b := FunD.bindsA (ps := ["_law_script"]) F fun _ _ _ _ _ _ us hl => match us, hl with | [_], _ => rfl
  exact ⟨fd, fun s v => b s [v] rfl, fun base _ _ TB => f_law T TB F⟩
end

end L75
open PySem PySem.W PySem.Calls PyProof.Rows
theorem PySem.Challenge.cw_exitstacks_k75_events_and_logs_checked_holds : PySem.Challenge.rw_exitstacks_k75_events_and_logs_checked.Holds := by
  w_on; o_law
  refine HandSHeadRun.head_any (r := OpenLaw.row PySem.Challenge.rw_exitstacks_k75_events_and_logs_checked) (q := view (OpenLaw.row PySem.Challenge.rw_exitstacks_k75_events_and_logs_checked).prog [53]) (H := L75.hk) (ob := L75.ob) (M := 8000) (loose := L75.loose) (d := HandSHeadRun.topDef (OpenLaw.row PySem.Challenge.rw_exitstacks_k75_events_and_logs_checked).prog 53) (kwd := []) L75.ob_eq
    (by kernel_rfl) (fun s => by kernel_rfl) L75.run (by kernel_rfl) (by kernel_rfl) (by kernel_rfl) (by rfl) (by first | assumption | decide +kernel) (by decide +kernel) ⟨rfl, rfl, rfl, rfl, rfl, by decide +kernel⟩ ?hw ?hc
  case hw => w_witness2
  case hc =>
    refine L75.walkGT (l := PySem.Challenge.rw_exitstacks_k75_events_and_logs_checked) (m := 63) (n := 15) (x := "_law_script") (CX := fun _ => L2.CX0) rfl (by decide) (by kernel_rfl) ⟨rfl, by decide, by decide⟩ ?F (fun _ _ _ _ _ z => z)
    intro w mg fa h Y G hmg0
    obtain ⟨K, KX, c, t⟩ := Y
    have hmg : mg ("law" : PySem.Str) = some (.ref fa) := by
      have e : (HandSHeadRun.topDef (OpenLaw.row PySem.Challenge.rw_exitstacks_k75_events_and_logs_checked).prog 53).name = ("law" : PySem.Str) := by kernel_rfl
      rw [← e]
      exact hmg0
    obtain ⟨fd, hb, hF⟩ := L75.law_facts (P := (PySem.Challenge.rw_exitstacks_k75_events_and_logs_checked).prog) (w := w) KX G hmg c
    have hm : L75.refAt ∈ L75.tf := List.mem_singleton.mpr rfl
    refine ⟨K, fd, L75.spLaw K, _, _, KX, t.hd _ hm, t.empty _ hm, t.out _ hm, hb, fun H a ns hl hP hS => ⟨_, rfl, a, ns, rfl, hS, hl, fun p hp => ?_, fun _ => rfl⟩, hF⟩
    rw [List.mem_singleton.mp hp]
    exact LamX.TabS.nil hP
