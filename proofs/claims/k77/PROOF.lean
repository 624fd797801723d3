import PyProof.Rows.All
import Wide.All
import OpenK.AllK
import Wide.FinOn
import KE.KStateDown
import HandS.ForMost
import HandS.More
import HandS.Defaults
import HandS.Head0
import HandS.Head1
import HandS.Head2
import HandS.HeadEnd
import HandS.HeadHook1
import HandS.HeadHook2
import HandS.HeadHook4
import HandS.Property
import HandS.Exc
import HandS.ExcInit
import HandS.ExcOwn
import HandS.TryOnly
import HandS.ExcField
import KE.KExcInit
import OpenK.KCls
import PySem.Challenge.RW_exitstacks_k77_cycles_and_findings
import HandS.Wide
import HandS.EndBits
import HandS.TupAny
import HandS.TupMul
import HandS.IsInst
import HandS.Deep
import HandS.Style
import HandS.Remove
import KE.KUnpackStar
import HandS.Walk
import HandS.SortInts
import HandS.SortRule
import HandS.SetFor
import HandS.Star
import PyProof.ReprRoads
import PyProof.ReprBulk
import PyProof.Rows.ReprShort
import KE.GoesEnum
import KE.KIndexOf
import PyProof.IsInstance
import PyProof.InstEq
import HandS.WordsExc
import HandS.MakeKwOnly
import HandS.Lambda
import KE.KDflt
import KE.KExcIs
import HandS.EndTab
import HandS.NestedK
set_option Elab.async false
set_option linter.all false
set_option maxRecDepth 100000
set_option maxHeartbeats 4000000
namespace L77
open PySem PySem.Spec PyProof.Rows L2
def top (i : Nat) : Stmt := PySem.Challenge.pw_exitstacks_k77_cycles_and_findings.main.body.getD i (.Pass ⟨0, 0, 0, 0⟩)
def dG (x : Str) (i : Nat) : He.DefD := ⟨(x, none), x, x, defArgs (top i), defBody (top i), defScope (top i), [], []⟩
def dM (c x q : Str) (i j : Nat) : He.DefD := ⟨(c, some x), x, q, defArgs (inClass (top i) j), defBody (inClass (top i) j), defScope (inClass (top i) j), [], []⟩
def dGk (x : Str) (i : Nat) (ds : List He.Dv) (ks : List (Str × He.Dv)) : He.DefD := ⟨(x, none), x, x, defArgs (top i), defBody (top i), defScope (top i), ds, ks⟩
def dMk (c x q : Str) (i j : Nat) (ds : List He.Dv) (ks : List (Str × He.Dv)) : He.DefD := ⟨(c, some x), x, q, defArgs (inClass (top i) j), defBody (inClass (top i) j), defScope (inClass (top i) j), ds, ks⟩
def fn : List He.DefD := ([dG "_wall" 0, dM "BadKind" "__init__" "BadKind.__init__" 3 0, dM "BadLabel" "__init__" "BadLabel.__init__" 4 0, dM "BadNumber" "__init__" "BadNumber.__init__" 5 0, dM "BadFault" "__init__" "BadFault.__init__" 6 0, dM "BadName" "__init__" "BadName.__init__" 7 0, dM "BadLog" "__init__" "BadLog.__init__" 8 0, dG "is_letter" 12, dG "is_kind" 13, dG "is_label" 14, dM "Fault" "__init__" "Fault.__init__" 16 0, dG "need_fault" 17, dG "need_fault_or_none" 18, dG "raise_under" 19, dG "with_cause" 20] : List He.DefD) ++ ([dG "s7_is_number" 24, dG "s7_is_name" 25, dG "s7_is_plain" 26, dG "s7_is_shown" 27, dG "s7_is_word" 28, dG "is_event" 29, dG "check_log" 30, dM "Watcher" "__init__" "Watcher.__init__" 31 0, dM "Watcher" "__call__" "Watcher.__call__" 31 1, dG "flaws" 32, dG "s7_need_fault" 33, dGk "cycle_of" 34 [] [("link", .str "context")], dG "audit" 35, dG "_law_mixed" 37, dG "_law_draw" 38] : List He.DefD) ++ ([dG "_law_digit" 39, dG "_law_faults" 40, dG "_law_next" 41, dG "_law_cycle" 42, dG "_law_word" 43, dG "_law_refused_right" 44, dG "_law_spoilt" 45, dG "_law_findings" 46, dG "law" 47] : List He.DefD)
def fa : List He.Fa := ([.glo "_wall", .glo "ModelError", .glo "BadKind", .glo "BadLabel", .glo "BadNumber", .glo "BadFault", .glo "BadName", .glo "BadLog", .int "MOST_LETTERS" 12, .int "MOST_LABEL" 40, .glo "is_letter", .glo "is_kind", .glo "is_label", .glo "Fault", .cls "Fault"] : List He.Fa) ++ ([.mkr "Fault", .noat "Fault" "s1_context", .noat "Fault" "s1_cause", .noat "Fault" "s1_hides", .noat "Fault" "s1_kind", .noat "Fault" "s1_label", .noat "Fault" "s1_number", .meth "Fault" "__init__", .glo "need_fault", .glo "need_fault_or_none", .glo "raise_under", .glo "with_cause", .int "MOST_NAME" 8, .int "MOST_VALUE" 1000000000, .glo "s7_is_number"] : List He.Fa) ++ ([.glo "s7_is_name", .glo "s7_is_plain", .glo "s7_is_shown", .glo "s7_is_word", .glo "is_event", .glo "check_log", .glo "Watcher", .cls "Watcher", .mkr "Watcher", .noat "Watcher" "s7_seen", .noat "Watcher" "s7_opened", .noat "Watcher" "s7_made", .noat "Watcher" "s7_open", .noat "Watcher" "s7_most", .meth "Watcher" "__init__"] : List He.Fa) ++ ([.meth "Watcher" "__call__", .glo "flaws", .glo "s7_need_fault", .glo "cycle_of", .glo "audit", .glo "_law_mixed", .glo "_law_draw", .glo "_law_digit", .glo "_law_faults", .glo "_law_next", .glo "_law_cycle", .glo "_law_word", .glo "_law_refused_right", .glo "_law_spoilt", .glo "_law_findings"] : List He.Fa) ++ ([.glo "law", .free "ValueError", .free "property", .free "all", .free "isinstance", .free "int", .free "enumerate", .free "range", .free "bool", .free "tuple", .free "str", .free "len", .free "list", .free "max", .free "repr"] : List He.Fa) ++ ([.free "sum", .free "ord"] : List He.Fa)
abbrev R : PySem.W.OpenRow := PySem.W.OpenLaw.row PySem.Challenge.rw_exitstacks_k77_cycles_and_findings
/-! the head's facts: properties and more -/
def pgA (K : PySem.W.Frag) (c f : Str) : Addr := match PySem.W.recIn K (He.ma K (He.ga K c) f) "property" with
  | some (.ref g :: _) => g
  | _ => 0
def fnWA (K : PySem.W.Frag) (a : Addr) : He.FnW := match K.lookup a with
  | some ⟨_, _, .func fd, _⟩ => some (fd.name, fd.qualname, fd.params, fd.body, fd.scope, fd.globals, fd.closure, fd.builtins)
  | _ => none
/-- a property of a class: its getter's text -/
structure PrD where
  c : Str
  f : Str
  d : He.DefD
def PrD.ok (K : PySem.W.Frag) (p : PrD) : Bool := He.eqO (PySem.W.findIn K (.ref (He.ga K p.c)) p.f) (some (some (.ref (He.ma K (He.ga K p.c) p.f)))) &&
  (He.eqO (PySem.W.specialIn K (.ref (He.ma K (He.ga K p.c) p.f)) "__get__") (some (some (.builtin "property.__get__"))) &&
  (decide (PySem.W.takesIn K (.ref (He.ma K (He.ga K p.c) p.f)) = some true) &&
  ((match PySem.W.recIn K (He.ma K (He.ga K p.c) p.f) "property" with | some (.ref _ :: _) => true | _ => false) &&
  (PySem.W.keepIn K (.ref (pgA K p.c p.f)) && (match K.lookup (pgA K p.c p.f) with
  | some ⟨_, _, .func fd, _⟩ => PySem.W.codeIn K fd.code p.d.qual && (He.dflB K fd.defaults (p.d.dvs K) && He.kwdB K fd.kwdefaults (p.d.kws K))
  | _ => false)))))
def PrD.val (p : PrD) : He.FnW := p.d.val
theorem funDA {K : PySem.W.Frag} {d : He.DefD} {a : Addr} (e : fnWA K a = d.val) (kp : PySem.W.keepIn K (.ref a) = true) (c2 : (match K.lookup a with
  | some ⟨_, _, .func fd, _⟩ => PySem.W.codeIn K fd.code d.qual && (He.dflB K fd.defaults (d.dvs K) && He.kwdB K fd.kwdefaults (d.kws K))
  | _ => false) = true) : ∃ fd, FunD K d.name d.qual d.params d.body d.scope (d.dvs K) (d.kws K) a fd := by
  unfold fnWA at e
  cases q : K.lookup a with
  | none =>
    rw [q] at c2
    cases c2
  | some o =>
    obtain ⟨oc, od, dt, osl⟩ := o
    rw [q] at c2 e
    cases dt with
    | func fd =>
      obtain ⟨n1, n2, n3, n4, n5, n6, n7, n8, n9, n10, n11, n12, n13, n14, n15⟩ := fd
      have e2 : (some (n1, n2, n3, n4, n5, n6, n7, n15) : He.FnW) = some (d.name, d.qual, d.params, .stmts d.body, d.scope, mainGlobals, [], builtinsNs) := e
      simp only [Option.some.injEq, Prod.mk.injEq] at e2
      obtain ⟨h1, h2, h3, h4, h5, h6, h7, h8⟩ := e2
      subst h1 h2 h3 h4 h5 h6 h7 h8
      obtain ⟨k1, k2⟩ := He.ba (show (PySem.W.codeIn K n13 d.qual && (He.dflB K n8 (d.dvs K) && He.kwdB K n9 (d.kws K))) = true from c2)
      obtain ⟨k3, k4⟩ := He.ba k2
      exact ⟨_, ⟨oc, od, n8, n9, n10, n11, n12, n13, n14, osl, rfl, q, k1, He.dflB_ok k3, He.kwdB_ok k4⟩, kp⟩
    | _ => cases c2
abbrev AlX : Type := He.AlD × (Bool × List He.FnW)
def obsX (fa : List He.Fa) (fn : List He.DefD) (pr : List PrD) (xb : PySem.W.Frag → Bool) (K : PySem.W.Frag) : AlX := (He.obsD fa fn K, ((pr.all fun p : PrD => p.ok K) && xb K, pr.map fun p : PrD => fnWA K (pgA K p.c p.f)))
def valX (fn : List He.DefD) (pr : List PrD) : AlX := (He.valD fn, (true, pr.map PrD.val))
/-- the code objects' tables of the defs tf: empty, and K tells nothing of them -/
structure TabC (tf : List He.Defn) (h : Heap) (K : PySem.W.Frag) : Prop where
  hd : ∀ p ∈ tf, PySem.W.codeHdIn K (He.cT K p).1 (He.cT K p).2 = true
  out : ∀ p ∈ tf, K.lookup (He.cT K p).2 = none
  empty : ∀ p ∈ tf, h.get? (He.cT K p).2 = some { cls := .none, data := .fields #[] }
def obsXG (n : Nat) (fa : List He.Fa) (fn : List He.DefD) (pr : List PrD) (tf : List He.Defn) (xb : PySem.W.Frag → Bool) (g : Addr → Option Obj) : AlX × Bool := (obsX fa fn pr xb (He.frT g (cStatics :: He.asD g n)), He.tabsB g tf (He.frT g (cStatics :: He.asD g n)))
theorem tabC_of {tf : List He.Defn} {h : Heap} {as : List Addr} (e : He.tabsB h.get? tf (He.frT h.get? as) = true) : TabC tf h (He.frT h.get? as) := by
  have key : ∀ p ∈ tf, PySem.W.codeHdIn (He.frT h.get? as) (He.cT (He.frT h.get? as) p).1 (He.cT (He.frT h.get? as) p).2 = true ∧ ∃ o, h.get? (He.cT (He.frT h.get? as) p).2 = some o ∧ He.emptyTab o = true := fun p hp => by
    obtain ⟨h3, h4⟩ := He.ba (List.all_eq_true.mp e p hp)
    refine ⟨h3, ?_⟩
    cases q : h.get? (He.cT (He.frT h.get? as) p).2 with
    | none => rw [q] at h4; cases h4
    | some o => rw [q] at h4; exact ⟨o, rfl, h4⟩
  exact ⟨fun p hp => (key p hp).1, fun p hp => (let ⟨_, o, q, z⟩ := key p hp; He.frT_none q z), fun p hp => (let ⟨_, o, q, z⟩ := key p hp; by rw [q, He.emptyTab_eq z])⟩
def hookX (n : Nat) (fa : List He.Fa) (fn : List He.DefD) (pr : List PrD) (tf : List He.Defn) (xb : PySem.W.Frag → Bool) : PySem.W.Hook where
  α := AlX × Bool
  obs := fun s => obsXG n fa fn pr tf xb s.heap.get?
  val := fun _ => (valX fn pr, true)
  says := fun _ h => ∃ K : PySem.W.Frag, K.In h ∧ obsX fa fn pr xb K = valX fn pr ∧ TabC tf h K
  of := fun _ _ e => ⟨_, He.frT_in, congrArg (fun z : AlX × Bool => z.1) e, tabC_of (congrArg (fun z : AlX × Bool => z.2) e)⟩
  keeps := fun _ _ _ ⟨K, hK, c, t⟩ k => ⟨K, PySem.W.Frag.In.keeps hK k, c, t.hd, t.out, fun p hp => k _ _ (t.empty p hp)⟩
theorem obsXG_eq {n : Nat} {fa : List He.Fa} {fn : List He.DefD} {pr : List PrD} {tf : List He.Defn} {xb : PySem.W.Frag → Bool} {g : Addr → Option Obj} {s : Shared} (h : ∀ a, g a = s.heap.get? a) : obsXG n fa fn pr tf xb g = (hookX n fa fn pr tf xb).obs s := by
  have e : g = s.heap.get? := funext h
  rw [e] <;> rfl
theorem saysX {fa : List He.Fa} {fn : List He.DefD} {pr : List PrD} {xb : PySem.W.Frag → Bool} {K : PySem.W.Frag} (c : obsX fa fn pr xb K = valX fn pr) : He.SaysD fa fn K ∧ xb K = true ∧
    ∀ (i : Nat) (p : PrD), pr[i]? = some p → PropOf K (He.ga K p.c) p.f (He.ma K (He.ga K p.c) p.f) (pgA K p.c p.f) ∧ ∃ fd, FunD K p.d.name p.d.qual p.d.params p.d.body p.d.scope (p.d.dvs K) (p.d.kws K) (pgA K p.c p.f) fd := by
  have c1 : He.obsD fa fn K = He.valD fn := congrArg (fun z : AlX => z.1) c
  have c2 : ((pr.all fun p : PrD => p.ok K) && xb K) = true := congrArg (fun z : AlX => z.2.1) c
  have c3 : (pr.map fun p : PrD => fnWA K (pgA K p.c p.f)) = pr.map PrD.val := congrArg (fun z : AlX => z.2.2) c
  obtain ⟨k1, k2⟩ := He.ba c2
  refine ⟨c1, k2, fun i p hp => ?_⟩
  have k := List.all_eq_true.mp k1 p (List.mem_of_getElem? hp)
  unfold PrD.ok at k
  obtain ⟨a1, k⟩ := He.ba k
  obtain ⟨a2, k⟩ := He.ba k
  obtain ⟨a3, k⟩ := He.ba k
  obtain ⟨a4, k⟩ := He.ba k
  obtain ⟨a5, a6⟩ := He.ba k
  have e2 : (pr.map fun p : PrD => fnWA K (pgA K p.c p.f))[i]? = (pr.map PrD.val)[i]? := by rw [c3]
  rw [List.getElem?_map, List.getElem?_map, hp] at e2
  refine ⟨⟨He.eqO_ok a1, He.eqO_ok a2, of_decide_eq_true a3, ?_⟩, funDA (Option.some.inj e2) a5 a6⟩
  unfold pgA
  split at a4
  · rename_i g rest hq
    rw [hq]
    exact ⟨rest, rfl⟩
  · cases a4
/-! own exceptions with an __init__ that calls its base's -/
/-- the class object at C is an exception's over ValueError -/
def oexB (K : PySem.W.Frag) (C : Addr) : Bool := match K.lookup C with
  | some ⟨.type "type", _, .cls cd, ⟨[_, _, _, _, some (.builtin n), _]⟩⟩ => (match cd.mro with
    | .ref C' :: bm => C' == C && (n == "ValueError.__new__" && (!cd.hasDel && (cd.hasDict && PySem.HandSPX.refsVE bm)))
    | _ => false)
  | _ => false
theorem oexB_ok {K : PySem.W.Frag} {C : Addr} (h : oexB K C = true) : ∃ nm q N bs bm sn sub ab col dd k0 k1 k2 k3 k5, K.lookup C = some (excClassObj nm q C N bs bm true sn sub ab col dd k0 k1 k2 k3 k5 "ValueError.__new__") ∧ PySem.HandSPX.refsVE bm = true := by
  unfold oexB at h
  split at h
  · rename_i dd cd k0 k1 k2 k3 n k5 ho
    split at h
    · rename_i C' bm hm
      simp only [Bool.and_eq_true, beq_iff_eq, Bool.not_eq_true'] at h
      obtain ⟨rfl, rfl, h1, h2, h3⟩ := h
      obtain ⟨nm, bs, mro, N, q, hd, sn, sub, ab, col, hdel⟩ := cd
      simp only at hm h1 h2
      subst hm h1 h2
      exact ⟨nm, q, N, bs, bm, sn, sub, ab, col, dd, k0, k1, k2, k3, k5, ho, h3⟩
    · cases h
  · cases h
/-- the facts of such a class, its attribute's name f -/
def exB (K : PySem.W.Frag) (c f : Str) : Bool := oexB K (He.ga K c) && (He.eqO (PySem.W.findIn K (.ref (He.ga K c)) "__setattr__") (some (some (.builtin "object.__setattr__"))) && (decide (PySem.W.subIn K (.ref (He.ga K c)) (.type "BaseException") = some true) &&
  (decide (PySem.W.typeIn K (.ref (He.ga K c)) = some (.type "type")) && (PySem.W.keepIn K (.ref (He.ga K c)) && (He.eqO (PySem.W.findIn K (.ref (He.ga K c)) "__init__") (some (some (.ref (He.ma K (He.ga K c) "__init__")))) &&
  (decide (PySem.W.typeIn K (.ref (He.ma K (He.ga K c) "__init__")) = some (.type "function")) && He.eqO (PySem.W.findIn K (.ref (He.ga K c)) f) (some none)))))))
structure ExC (K : PySem.W.Frag) (c f : Str) : Prop where
  o : OexC K (He.ga K c)
  i : PySem.W.findIn K (.ref (He.ga K c)) "__init__" = some (some (.ref (He.ma K (He.ga K c) "__init__")))
  t : PySem.W.typeIn K (.ref (He.ma K (He.ga K c) "__init__")) = some (.type "function")
  n : PySem.W.findIn K (.ref (He.ga K c)) f = some none
theorem exB_ok {K : PySem.W.Frag} {c f : Str} (h : exB K c f = true) : ExC K c f := by
  unfold exB at h
  obtain ⟨a1, h⟩ := He.ba h
  obtain ⟨a2, h⟩ := He.ba h
  obtain ⟨a3, h⟩ := He.ba h
  obtain ⟨a4, h⟩ := He.ba h
  obtain ⟨a5, h⟩ := He.ba h
  obtain ⟨a6, h⟩ := He.ba h
  obtain ⟨a7, a8⟩ := He.ba h
  exact ⟨⟨oexB_ok a1, He.eqO_ok a2, of_decide_eq_true a3, of_decide_eq_true a4, a5⟩, He.eqO_ok a6, of_decide_eq_true a7, He.eqO_ok a8⟩
/-- the class named m has ValueError's __init__ -/
def viB (K : PySem.W.Frag) (m : Str) : Bool := decide (PySem.W.specialIn K (.ref (He.ga K m)) "__getattribute__" = some (some (.builtin "type.__getattribute__"))) && (PySem.W.readsIn K (He.ga K m) (.type "type") &&
  (match PySem.W.findCls K (.ref (He.ga K m)) (.type "type") "__init__" with | some (.val (.builtin n)) => n == "ValueError.__init__" | _ => false))
structure ViC (K : PySem.W.Frag) (m : Str) : Prop where
  g : PySem.W.specialIn K (.ref (He.ga K m)) "__getattribute__" = some (some (.builtin "type.__getattribute__"))
  r : PySem.W.readsIn K (He.ga K m) (.type "type") = true
  f : PySem.W.findCls K (.ref (He.ga K m)) (.type "type") "__init__" = some (.val (.builtin "ValueError.__init__"))
theorem viB_ok {K : PySem.W.Frag} {m : Str} (h : viB K m = true) : ViC K m := by
  unfold viB at h
  obtain ⟨a1, h⟩ := He.ba h
  obtain ⟨a2, a3⟩ := He.ba h
  refine ⟨of_decide_eq_true a1, a2, ?_⟩
  split at a3
  · rename_i n hn
    rw [hn, beq_iff_eq.mp a3]
  · cases a3
/-- what the written part says of such a class -/
structure OexT (K : PySem.W.Frag) (C : Addr) (B newId initId : String) (bmB : List Value) : Prop where
  F : ExcBaseFacts B newId initId bmB
  SF : StoreFacts B bmB "object.__setattr__" "object"
  q : PySem.W.excInitIn K C bmB newId = true
  ov : PySem.W.excOver K C bmB = true
  hd : PySem.W.hasDictIn K C = true
  sa : PySem.W.findIn K (.ref C) "__setattr__" = some (some (.builtin "object.__setattr__"))
  exC : PySem.W.subIn K (.ref C) (.type "BaseException") = some true
  tyC : PySem.W.typeIn K (.ref C) = some (.type "type")
  kC : PySem.W.keepIn K (.ref C) = true
/-- M.__init__(self, ..), M over the base -/
structure BiC (K : PySem.W.Frag) (m : Str) (initId : String) : Prop where
  g : PySem.W.specialIn K (.ref (He.ga K m)) "__getattribute__" = some (some (.builtin "type.__getattribute__"))
  r : PySem.W.readsIn K (He.ga K m) (.type "type") = true
  f : PySem.W.findCls K (.ref (He.ga K m)) (.type "type") "__init__" = some (.val (.builtin initId))
def leB : List Value := [.type "LookupError", .type "Exception", .type "BaseException", .type "object"]
/-- the facts of an own class over LookupError whose __init__ lays the attribute f -/
def exTB (K : PySem.W.Frag) (c f : Str) : Bool := PySem.W.excInitIn K (He.ga K c) leB "LookupError.__new__" && (PySem.W.excOver K (He.ga K c) leB && (PySem.W.hasDictIn K (He.ga K c) && (He.eqO (PySem.W.findIn K (.ref (He.ga K c)) "__setattr__") (some (some (.builtin "object.__setattr__"))) &&
  (decide (PySem.W.subIn K (.ref (He.ga K c)) (.type "BaseException") = some true) && (decide (PySem.W.typeIn K (.ref (He.ga K c)) = some (.type "type")) && (PySem.W.keepIn K (.ref (He.ga K c)) &&
  (He.eqO (PySem.W.findIn K (.ref (He.ga K c)) "__init__") (some (some (.ref (He.ma K (He.ga K c) "__init__")))) && (decide (PySem.W.typeIn K (.ref (He.ma K (He.ga K c) "__init__")) = some (.type "function")) &&
  (He.eqO (PySem.W.takerIn K (He.ga K c) f) (some none) && He.eqO (PySem.W.findIn K (.ref (He.ga K c)) f) (some none))))))))))
structure ExT (K : PySem.W.Frag) (c f : Str) : Prop where
  o : OexT K (He.ga K c) "LookupError" "LookupError.__new__" "LookupError.__init__" leB
  i : PySem.W.findIn K (.ref (He.ga K c)) "__init__" = some (some (.ref (He.ma K (He.ga K c) "__init__")))
  t : PySem.W.typeIn K (.ref (He.ma K (He.ga K c) "__init__")) = some (.type "function")
  tk : PySem.W.takerIn K (He.ga K c) f = some none
  n : PySem.W.findIn K (.ref (He.ga K c)) f = some none
theorem exTB_ok {K : PySem.W.Frag} {c f : Str} (h : exTB K c f = true) : ExT K c f := by
  unfold exTB at h
  obtain ⟨a1, h⟩ := He.ba h
  obtain ⟨a2, h⟩ := He.ba h
  obtain ⟨a3, h⟩ := He.ba h
  obtain ⟨a4, h⟩ := He.ba h
  obtain ⟨a5, h⟩ := He.ba h
  obtain ⟨a6, h⟩ := He.ba h
  obtain ⟨a7, h⟩ := He.ba h
  obtain ⟨a8, h⟩ := He.ba h
  obtain ⟨a9, h⟩ := He.ba h
  obtain ⟨b1, b2⟩ := He.ba h
  exact ⟨⟨F.excBase_LookupError, F.store_LookupError, a1, a2, a3, He.eqO_ok a4, of_decide_eq_true a5, of_decide_eq_true a6, a7⟩, He.eqO_ok a8, of_decide_eq_true a9, He.eqO_ok b1, He.eqO_ok b2⟩
def biB (K : PySem.W.Frag) (m : Str) (initId : String) : Bool := decide (PySem.W.specialIn K (.ref (He.ga K m)) "__getattribute__" = some (some (.builtin "type.__getattribute__"))) && (PySem.W.readsIn K (He.ga K m) (.type "type") &&
  (match PySem.W.findCls K (.ref (He.ga K m)) (.type "type") "__init__" with | some (.val (.builtin n)) => n == initId | _ => false))
theorem biB_ok {K : PySem.W.Frag} {m : Str} {initId : String} (h : biB K m initId = true) : BiC K m initId := by
  unfold biB at h
  obtain ⟨a1, h⟩ := He.ba h
  obtain ⟨a2, a3⟩ := He.ba h
  refine ⟨of_decide_eq_true a1, a2, ?_⟩
  split at a3
  · rename_i n hn
    rw [hn, beq_iff_eq.mp a3]
  · cases a3
/-! isinstance of an own class -/
def isB (K : PySem.W.Frag) (c : Str) : Bool := He.eqO (PySem.W.findIn K (.ref (He.ga K c)) "__class__") (some (some (.builtin "object.__class__"))) && (He.eqO (PySem.W.specialIn K (.builtin "object.__class__") "__get__") (some (some (.builtin "getset_descriptor.__get__"))) &&
  (decide (PySem.W.takesIn K (.builtin "object.__class__") = some true) && (decide (PySem.W.mroIn K (He.ga K c) (.type "object") = some true) && ((PySem.W.clsIn K (He.ga K c)).isSome && PySem.W.typeIn K (.ref (He.ga K c)) == some (.type "type")))))
structure IsC (K : PySem.W.Frag) (c : Str) : Prop where
  ha : PySem.W.findIn K (.ref (He.ga K c)) "__class__" = some (some (.builtin "object.__class__"))
  hn : PySem.W.specialIn K (.builtin "object.__class__") "__get__" = some (some (.builtin "getset_descriptor.__get__"))
  ht : PySem.W.takesIn K (.builtin "object.__class__") = some true
  hm : PySem.W.mroIn K (He.ga K c) (.type "object") = some true
  hk : ((PySem.W.clsIn K (He.ga K c)).isSome && PySem.W.typeIn K (.ref (He.ga K c)) == some (.type "type")) = true
theorem isB_ok {K : PySem.W.Frag} {c : Str} (h : isB K c = true) : IsC K c := by
  unfold isB at h
  obtain ⟨a1, h⟩ := He.ba h
  obtain ⟨a2, h⟩ := He.ba h
  obtain ⟨a3, h⟩ := He.ba h
  obtain ⟨a4, a5⟩ := He.ba h
  exact ⟨He.eqO_ok a1, He.eqO_ok a2, of_decide_eq_true a3, of_decide_eq_true a4, a5⟩
/-! == of instances of an own class without __eq__ -/
def cmpB (K : PySem.W.Frag) (c : Str) : Bool := match K.lookup (He.ga K c) with
  | some ⟨.type "type", _, .cls cd, ⟨[_, _, _, _, some (.builtin _), _]⟩⟩ => decide (cd.mro = [.ref (He.ga K c), .type "object"]) && (!cd.hasDel && (PySem.W.nsOkIn K cd.ns && (He.eqO (PySem.W.nsIn K cd.ns "__eq__") (some none) && He.eqO (PySem.W.nsIn K cd.ns "__ne__") (some none))))
  | _ => false
structure CmpC (K : PySem.W.Frag) (C : Addr) : Prop where
  ex : ∃ nm q N bs hdct sn sub ab col dd k0 k1 k2 k3 k5 newId, K.lookup C = some (excClassObj nm q C N bs [.type "object"] hdct sn sub ab col dd k0 k1 k2 k3 k5 newId) ∧ PySem.W.nsOkIn K N = true ∧ PySem.W.nsIn K N "__eq__" = some none ∧ PySem.W.nsIn K N "__ne__" = some none
theorem cmpB_ok {K : PySem.W.Frag} {c : Str} (h : cmpB K c = true) : CmpC K (He.ga K c) := by
  unfold cmpB at h
  split at h
  · rename_i dd cd k0 k1 k2 k3 n k5 ho
    obtain ⟨a1, h⟩ := He.ba h
    obtain ⟨a2, h⟩ := He.ba h
    obtain ⟨a3, h⟩ := He.ba h
    obtain ⟨a4, a5⟩ := He.ba h
    obtain ⟨nm, bs, mro, N, q, hd, sn, sub, ab, col, hdel⟩ := cd
    simp only at a1 a2 a3 a4 a5
    have a1 := of_decide_eq_true a1
    rw [Bool.not_eq_true'] at a2
    subst a1 a2
    exact ⟨nm, q, N, bs, hd, sn, sub, ab, col, dd, k0, k1, k2, k3, k5, n, ho, a3, He.eqO_ok a4, He.eqO_ok a5⟩
  · cases h
theorem CmpC.inst {K : PySem.W.Frag} {C x : Addr} {h : Heap} {o : Obj} (T : CmpC K C) (X : K.In h) (hx : h.get? x = some o) (hc : o.cls = .ref C) : h.CmpInst x C [.type "object"] := by
  obtain ⟨nm, q, N, bs, hdct, sn, sub, ab, col, dd, k0, k1, k2, k3, k5, newId, e, n1, n2, n3⟩ := T.ex
  exact ⟨o, nm, q, N, bs, hdct, sn, sub, ab, col, dd, k0, k1, k2, k3, k5, newId, h.nsMap N, hx, hc, X _ _ e, .of_isNs (PySem.W.isNs_of_in X n1), PySem.W.nsMap_none_of_in X n1 n2, PySem.W.nsMap_none_of_in X n1 n3⟩

def pr : List PrD := ([⟨"Fault", "kind", dM "Fault" "kind" "Fault.kind" 16 1⟩, ⟨"Fault", "label", dM "Fault" "label" "Fault.label" 16 2⟩, ⟨"Fault", "number", dM "Fault" "number" "Fault.number" 16 3⟩, ⟨"Fault", "context", dM "Fault" "context" "Fault.context" 16 4⟩, ⟨"Fault", "cause", dM "Fault" "cause" "Fault.cause" 16 5⟩, ⟨"Fault", "hides", dM "Fault" "hides" "Fault.hides" 16 6⟩, ⟨"Watcher", "seen", dM "Watcher" "seen" "Watcher.seen" 31 2⟩, ⟨"Watcher", "now_open", dM "Watcher" "now_open" "Watcher.now_open" 31 3⟩, ⟨"Watcher", "open_at_most", dM "Watcher" "open_at_most" "Watcher.open_at_most" 31 4⟩] : List PrD)
def xb : PySem.W.Frag → Bool := fun K => isB K "Fault" && (cmpB K "Fault" && (exB K "BadFault" "value" && (exB K "BadName" "value" && (exB K "BadLog" "index" && (viB K "ModelError" && (xfB K (He.ga K "BadFault") && (xfB K (He.ga K "BadName") && (xfB K (He.ga K "BadLog") && (decide (PySem.W.exmOne K (.ref (He.ga K "BadFault")) (.ref (He.ga K "ModelError")) = some true) && (decide (PySem.W.exmOne K (.ref (He.ga K "BadName")) (.ref (He.ga K "ModelError")) = some true) && (decide (PySem.W.exmOne K (.ref (He.ga K "BadLog")) (.ref (He.ga K "ModelError")) = some true) && (decide (PySem.W.subIn K (.ref (He.ga K "BadName")) (.ref (He.ga K "BadFault")) = some false) && (decide (PySem.W.subIn K (.ref (He.ga K "BadLog")) (.ref (He.ga K "BadFault")) = some false) && (decide (PySem.W.subIn K (.ref (He.ga K "BadLog")) (.ref (He.ga K "BadName")) = some false) && (isB K "BadFault" && (isB K "BadName" && (isB K "BadLog" && (decide (PySem.W.kitOne K (.ref (He.ga K "BadName")) (.ref (He.ga K "BadFault")) = some false) && (decide (PySem.W.kitOne K (.ref (He.ga K "BadLog")) (.ref (He.ga K "BadFault")) = some false) && decide (PySem.W.kitOne K (.ref (He.ga K "BadLog")) (.ref (He.ga K "BadName")) = some false))))))))))))))))))))
def tf : List He.Defn := [("_law_refused_right", none)]
abbrev hk : PySem.W.Hook := hookX 5 fa fn pr tf xb
def ob (s : PySem.W.SharedT) : AlX × Bool := obsXG 5 fa fn pr tf xb (HandSHeadRun.getT s)
theorem ob_eq (s : PySem.W.SharedT) : ob s = hk.obs s.abs := obsXG_eq (HandSHeadRun.getT_eq s)
def loose : List Str := (["BadFault", "BadKind", "BadLabel", "BadLog", "BadName", "BadNumber", "Fault", "MOST_LABEL", "MOST_LETTERS", "MOST_NAME", "MOST_VALUE", "ModelError", "Watcher", "_law_cycle", "_law_digit"] : List Str) ++ (["_law_draw", "_law_faults", "_law_findings", "_law_mixed", "_law_next", "_law_refused_right", "_law_spoilt", "_law_word", "_wall", "audit", "check_log", "cycle_of", "flaws", "is_event", "is_kind"] : List Str) ++ (["is_label", "is_letter", "need_fault", "need_fault_or_none", "raise_under", "s7_is_name", "s7_is_number", "s7_is_plain", "s7_is_shown", "s7_is_word", "s7_need_fault", "with_cause"] : List Str)
theorem run (w : World) : HandSHeadRun.RunEq R (PySem.W.view R.prog [47]) hk ob 6000 loose w := by
  intro os
  kernel_rfl
structure Sy (K : PySem.W.Frag) (mg : Str → Option Value) : Prop where
  s : He.SaysD fa fn K
  b : xb K = true
  p : ∀ (i : Nat) (p : PrD), pr[i]? = some p → PropOf K (He.ga K p.c) p.f (He.ma K (He.ga K p.c) p.f) (pgA K p.c p.f) ∧ ∃ fd, FunD K p.d.name p.d.qual p.d.params p.d.body p.d.scope (p.d.dvs K) (p.d.kws K) (pgA K p.c p.f) fd
  x : ∃ h : Heap, K.In h ∧ h.Ns mainGlobals mg
def FDx (K : PySem.W.Frag) (d : He.DefD) : Prop := ∃ fd, FunD K d.name d.qual d.params d.body d.scope [] [] (He.fAd K d.at_) fd
def FDk (K : PySem.W.Frag) (d : He.DefD) : Prop := ∃ fd, FunD K d.name d.qual d.params d.body d.scope (d.dvs K) (d.kws K) (He.fAd K d.at_) fd
section
variable {K : PySem.W.Frag} {mg : Str → Option Value}
theorem F_wall (T : Sy K mg) : FDx K (dG "_wall" 0) := T.s.def_ 0 (d := dG "_wall" 0) rfl
theorem F_BadKind___init__ (T : Sy K mg) : FDx K (dM "BadKind" "__init__" "BadKind.__init__" 3 0) := T.s.def_ 1 (d := dM "BadKind" "__init__" "BadKind.__init__" 3 0) rfl
theorem F_BadLabel___init__ (T : Sy K mg) : FDx K (dM "BadLabel" "__init__" "BadLabel.__init__" 4 0) := T.s.def_ 2 (d := dM "BadLabel" "__init__" "BadLabel.__init__" 4 0) rfl
theorem F_BadNumber___init__ (T : Sy K mg) : FDx K (dM "BadNumber" "__init__" "BadNumber.__init__" 5 0) := T.s.def_ 3 (d := dM "BadNumber" "__init__" "BadNumber.__init__" 5 0) rfl
theorem F_BadFault___init__ (T : Sy K mg) : FDx K (dM "BadFault" "__init__" "BadFault.__init__" 6 0) := T.s.def_ 4 (d := dM "BadFault" "__init__" "BadFault.__init__" 6 0) rfl
theorem F_BadName___init__ (T : Sy K mg) : FDx K (dM "BadName" "__init__" "BadName.__init__" 7 0) := T.s.def_ 5 (d := dM "BadName" "__init__" "BadName.__init__" 7 0) rfl
theorem F_BadLog___init__ (T : Sy K mg) : FDx K (dM "BadLog" "__init__" "BadLog.__init__" 8 0) := T.s.def_ 6 (d := dM "BadLog" "__init__" "BadLog.__init__" 8 0) rfl
theorem F_is_letter (T : Sy K mg) : FDx K (dG "is_letter" 12) := T.s.def_ 7 (d := dG "is_letter" 12) rfl
theorem F_is_kind (T : Sy K mg) : FDx K (dG "is_kind" 13) := T.s.def_ 8 (d := dG "is_kind" 13) rfl
theorem F_is_label (T : Sy K mg) : FDx K (dG "is_label" 14) := T.s.def_ 9 (d := dG "is_label" 14) rfl
theorem F_Fault___init__ (T : Sy K mg) : FDx K (dM "Fault" "__init__" "Fault.__init__" 16 0) := T.s.def_ 10 (d := dM "Fault" "__init__" "Fault.__init__" 16 0) rfl
theorem F_need_fault (T : Sy K mg) : FDx K (dG "need_fault" 17) := T.s.def_ 11 (d := dG "need_fault" 17) rfl
theorem F_need_fault_or_none (T : Sy K mg) : FDx K (dG "need_fault_or_none" 18) := T.s.def_ 12 (d := dG "need_fault_or_none" 18) rfl
theorem F_raise_under (T : Sy K mg) : FDx K (dG "raise_under" 19) := T.s.def_ 13 (d := dG "raise_under" 19) rfl
theorem F_with_cause (T : Sy K mg) : FDx K (dG "with_cause" 20) := T.s.def_ 14 (d := dG "with_cause" 20) rfl
theorem F_s7_is_number (T : Sy K mg) : FDx K (dG "s7_is_number" 24) := T.s.def_ 15 (d := dG "s7_is_number" 24) rfl
theorem F_s7_is_name (T : Sy K mg) : FDx K (dG "s7_is_name" 25) := T.s.def_ 16 (d := dG "s7_is_name" 25) rfl
theorem F_s7_is_plain (T : Sy K mg) : FDx K (dG "s7_is_plain" 26) := T.s.def_ 17 (d := dG "s7_is_plain" 26) rfl
theorem F_s7_is_shown (T : Sy K mg) : FDx K (dG "s7_is_shown" 27) := T.s.def_ 18 (d := dG "s7_is_shown" 27) rfl
theorem F_s7_is_word (T : Sy K mg) : FDx K (dG "s7_is_word" 28) := T.s.def_ 19 (d := dG "s7_is_word" 28) rfl
theorem F_is_event (T : Sy K mg) : FDx K (dG "is_event" 29) := T.s.def_ 20 (d := dG "is_event" 29) rfl
theorem F_check_log (T : Sy K mg) : FDx K (dG "check_log" 30) := T.s.def_ 21 (d := dG "check_log" 30) rfl
theorem F_Watcher___init__ (T : Sy K mg) : FDx K (dM "Watcher" "__init__" "Watcher.__init__" 31 0) := T.s.def_ 22 (d := dM "Watcher" "__init__" "Watcher.__init__" 31 0) rfl
theorem F_Watcher___call__ (T : Sy K mg) : FDx K (dM "Watcher" "__call__" "Watcher.__call__" 31 1) := T.s.def_ 23 (d := dM "Watcher" "__call__" "Watcher.__call__" 31 1) rfl
theorem F_flaws (T : Sy K mg) : FDx K (dG "flaws" 32) := T.s.def_ 24 (d := dG "flaws" 32) rfl
theorem F_s7_need_fault (T : Sy K mg) : FDx K (dG "s7_need_fault" 33) := T.s.def_ 25 (d := dG "s7_need_fault" 33) rfl
theorem F_cycle_of (T : Sy K mg) : FDk K (dGk "cycle_of" 34 [] [("link", .str "context")]) := T.s.def_ 26 (d := dGk "cycle_of" 34 [] [("link", .str "context")]) rfl
theorem F_audit (T : Sy K mg) : FDx K (dG "audit" 35) := T.s.def_ 27 (d := dG "audit" 35) rfl
theorem F_law_mixed (T : Sy K mg) : FDx K (dG "_law_mixed" 37) := T.s.def_ 28 (d := dG "_law_mixed" 37) rfl
theorem F_law_draw (T : Sy K mg) : FDx K (dG "_law_draw" 38) := T.s.def_ 29 (d := dG "_law_draw" 38) rfl
theorem F_law_digit (T : Sy K mg) : FDx K (dG "_law_digit" 39) := T.s.def_ 30 (d := dG "_law_digit" 39) rfl
theorem F_law_faults (T : Sy K mg) : FDx K (dG "_law_faults" 40) := T.s.def_ 31 (d := dG "_law_faults" 40) rfl
theorem F_law_next (T : Sy K mg) : FDx K (dG "_law_next" 41) := T.s.def_ 32 (d := dG "_law_next" 41) rfl
theorem F_law_cycle (T : Sy K mg) : FDx K (dG "_law_cycle" 42) := T.s.def_ 33 (d := dG "_law_cycle" 42) rfl
theorem F_law_word (T : Sy K mg) : FDx K (dG "_law_word" 43) := T.s.def_ 34 (d := dG "_law_word" 43) rfl
theorem F_law_refused_right (T : Sy K mg) : FDx K (dG "_law_refused_right" 44) := T.s.def_ 35 (d := dG "_law_refused_right" 44) rfl
theorem F_law_spoilt (T : Sy K mg) : FDx K (dG "_law_spoilt" 45) := T.s.def_ 36 (d := dG "_law_spoilt" 45) rfl
theorem F_law_findings (T : Sy K mg) : FDx K (dG "_law_findings" 46) := T.s.def_ 37 (d := dG "_law_findings" 46) rfl
theorem F_law (T : Sy K mg) : FDx K (dG "law" 47) := T.s.def_ 38 (d := dG "law" 47) rfl
end
end L77
namespace L77
open PySem PySem.Spec PyProof.Rows L2
variable {gd : Bool}

def isFree (x : Str) : He.Fa → Bool | .free y => decide (y = x) | _ => false
def isGlo (x : Str) : He.Fa → Bool | .glo y => decide (y = x) | _ => false
def isIntF (x : Str) (i : Int) : He.Fa → Bool | .int y j => decide (y = x) && decide (j = i) | _ => false
def isCls (x : Str) : He.Fa → Bool | .cls y => decide (y = x) | _ => false
def isMkr (x : Str) : He.Fa → Bool | .mkr y => decide (y = x) | _ => false
def isNoat (x f : Str) : He.Fa → Bool | .noat y g => decide (y = x) && decide (g = f) | _ => false
def isMeth (x f : Str) : He.Fa → Bool | .meth y g => decide (y = x) && decide (g = f) | _ => false
section
variable {P : Program} {w : World} {K : PySem.W.Frag} {mg : Str → Option Value} {base : Heap}
theorem Sy.fact (T : Sy K mg) {f : He.Fa} (h : f ∈ fa) : f.ok K = true := by
  obtain ⟨i, hi⟩ := List.getElem?_of_mem h
  exact T.s.fact i hi
theorem Sy.free (T : Sy K mg) (x : Str) (h : fa.any (isFree x) = true := by decide +kernel) : mg x = none := by
  obtain ⟨f, hf, e⟩ := List.any_eq_true.mp h
  obtain ⟨_, X, G⟩ := T.x
  cases f <;> first | (have e2 := of_decide_eq_true e; subst e2; exact He.free_ok X G (T.fact hf)) | exact Bool.noConfusion e
theorem Sy.glo (T : Sy K mg) (x : Str) (h : fa.any (isGlo x) = true := by decide +kernel) : mg x = some (.ref (He.ga K x)) := by
  obtain ⟨f, hf, e⟩ := List.any_eq_true.mp h
  obtain ⟨_, X, G⟩ := T.x
  cases f <;> first | (have e2 := of_decide_eq_true e; subst e2; exact He.glo_ok X G (T.fact hf)) | exact Bool.noConfusion e
theorem Sy.int (T : Sy K mg) (x : Str) (j : Int) (h : fa.any (isIntF x j) = true := by decide +kernel) : ∃ t, mg x = some (.int j t) := by
  obtain ⟨f, hf, e⟩ := List.any_eq_true.mp h
  obtain ⟨_, X, G⟩ := T.x
  cases f <;> first | (have e2 := Bool.and_eq_true_iff.mp e; have e3 := of_decide_eq_true e2.1; have e4 := of_decide_eq_true e2.2; subst e3 e4; exact He.int_ok X G (T.fact hf)) | exact Bool.noConfusion e
theorem Sy.cls (T : Sy K mg) (x : Str) (h : fa.any (isCls x) = true := by decide +kernel) : Cls K (He.ga K x) := by
  obtain ⟨f, hf, e⟩ := List.any_eq_true.mp h
  cases f <;> first | (have e2 := of_decide_eq_true e; subst e2; exact He.cls_ok (T.fact hf)) | exact Bool.noConfusion e
theorem Sy.mkr (T : Sy K mg) (x : Str) (h : fa.any (isMkr x) = true := by decide +kernel) : Mk K (He.ga K x) (He.ma K (He.ga K x) "__init__") := by
  obtain ⟨f, hf, e⟩ := List.any_eq_true.mp h
  cases f <;> first | (have e2 := of_decide_eq_true e; subst e2; exact He.mkr_ok (T.fact hf)) | exact Bool.noConfusion e
theorem Sy.noat (T : Sy K mg) (x f : Str) (h : fa.any (isNoat x f) = true := by decide +kernel) : NoAttr K (He.ga K x) f := by
  obtain ⟨g, hf, e⟩ := List.any_eq_true.mp h
  cases g <;> first | (have e2 := Bool.and_eq_true_iff.mp e; have e3 := of_decide_eq_true e2.1; have e4 := of_decide_eq_true e2.2; subst e3 e4; exact He.noat_ok (T.fact hf)) | exact Bool.noConfusion e
theorem Sy.meth (T : Sy K mg) (x f : Str) (h : fa.any (isMeth x f) = true := by decide +kernel) : Meth K (He.ga K x) f (He.ma K (He.ga K x) f) := by
  obtain ⟨g, hf, e⟩ := List.any_eq_true.mp h
  cases g <;> first | (have e2 := Bool.and_eq_true_iff.mp e; have e3 := of_decide_eq_true e2.1; have e4 := of_decide_eq_true e2.2; subst e3 e4; exact He.meth_ok (T.fact hf)) | exact Bool.noConfusion e
end

/-! the readings, step by step -/
section
variable {K : PySem.W.Frag} {σ : L2.St} {H : Hp} {Q : VK} {D : Ends} {ta tb tc te : TE} {tt uu : TT} {ts us : TS} {tl : TA} {i : Nat} {v x y : V} {g : TG}
theorem tVar_i (h : σ[i]? = some (some v)) (q : Q v H) : tVar i σ H Q := ⟨v, h, q⟩
theorem tC_i (q : Q v H) : tC v σ H Q := q
theorem tOp_i {r : R2} (q : ta σ H fun x H1 => tb σ H1 fun y H2 => r x y H2 Q) : tOp r ta tb σ H Q := q
theorem tUn_i {r : V → Hp → VK → Prop} (q : ta σ H fun x H1 => r x H1 Q) : tUn r ta σ H Q := q
theorem tNil_i {Q : List V → Hp → Prop} (q : Q [] H) : tNil σ H Q := q
theorem tCons_i {Q : List V → Hp → Prop} (q : ta σ H fun x H1 => tl σ H1 fun xs H2 => Q (x :: xs) H2) : tCons ta tl σ H Q := q
theorem tSeq_i (q : ts { D with nx := us D } σ H) : tSeq ts us D σ H := q
theorem tAsg_i (q : te σ H fun x H1 => g x σ H1 D.nx) : tAsg te g D σ H := q
theorem gName_i {Q : L2.St → Hp → Prop} (q : Q (σ.set i (some v)) H) : gName i v σ H Q := q
theorem tRet_i (q : te σ H D.rt) : tRet te D σ H := q
theorem tRetN_i (q : D.rt .non H) : tRetN D σ H := q
theorem tDrop_i (q : te σ H fun _ H1 => D.nx σ H1) : tDrop te D σ H := q
theorem tNext_i (q : D.nx σ H) : tNext D σ H := q
theorem tBreak_i (q : D.bk σ H) : tBreak D σ H := q
theorem tCont_i (q : D.ct σ H) : tCont D σ H := q
theorem tIfS_i (q : tt σ H fun b H1 => if b = true then ts D σ H1 else us D σ H1) : tIfS tt ts us D σ H := q
theorem tIf_i (q : tt σ H fun b H1 => if b = true then ta σ H1 Q else tb σ H1 Q) : tIf tt ta tb σ H Q := q
theorem tTest_i {Q : Bool → Hp → Prop} (q : te σ H fun x H' => ∃ k, x = .bl k ∧ Q k H') : tTest te σ H Q := q
theorem tB_i {Q : Bool → Hp → Prop} (q : te σ H fun x H' => ∃ k, x = .bl k ∧ Q k H') : tB te σ H Q := q
theorem exBl_i {Q : Bool → Prop} {b : Bool} (q : Q b) : ∃ k, V.bl b = .bl k ∧ Q k := ⟨b, rfl, q⟩
theorem tAnd_i {Q : Bool → Hp → Prop} (q : tt σ H fun c H1 => if c = true then uu σ H1 Q else Q false H1) : tAnd tt uu σ H Q := q
theorem tOr_i {Q : Bool → Hp → Prop} (q : tt σ H fun c H1 => if c = true then Q true H1 else uu σ H1 Q) : tOr tt uu σ H Q := q
theorem tNot_i {Q : Bool → Hp → Prop} (q : tt σ H fun c H1 => Q (!c) H1) : tNot tt σ H Q := q
theorem tAndV_i (q : ta σ H fun x H1 => ∃ c, x = .bl c ∧ if c = true then tb σ H1 Q else Q (.bl false) H1) : tAndV ta tb σ H Q := q
theorem tOrV_i (q : ta σ H fun x H1 => ∃ c, x = .bl c ∧ if c = true then Q (.bl true) H1 else tb σ H1 Q) : tOrV ta tb σ H Q := q
theorem tNotV_i (q : ta σ H fun x H1 => ∃ c, x = .bl c ∧ Q (.bl (!c)) H1) : tNotV ta σ H Q := q
theorem rI0_i {f : Int → Int → V} {i j : Int} (q : Q (f i j) H) : rI0 f (.int i) (.int j) H Q := ⟨i, j, rfl, rfl, q⟩
theorem rI_i {C : Int → Int → Prop} {f : Int → Int → V} {i j : Int} (c : C i j) (q : Q (f i j) H) : rI C f (.int i) (.int j) H Q := ⟨i, j, rfl, rfl, c, q⟩
theorem rU_i {f : Int → V} {i : Int} (q : Q (f i) H) : rU f (.int i) H Q := ⟨i, rfl, q⟩
theorem rEq_i (h : scal x y = true) (q : Q (.bl (decide (x = y))) H) : rEq x y H Q := ⟨h, q⟩
theorem rNe_i (h : scal x y = true) (q : Q (.bl (!decide (x = y))) H) : rNe x y H Q := ⟨h, q⟩
theorem tLst_i (q : tl σ H fun xs H1 => xs.length ≤ sizeLine ∧ ∀ p, H1 p = none → Q (.ref p) (upd H1 p (.lst xs))) : tLst tl σ H Q := q
theorem tTup_i (q : tl σ H fun xs H1 => xs.length ≤ sizeLine ∧ ∀ p, H1 p = none → Q (.ref p) (upd H1 p (.tup xs))) : tTup tl σ H Q := q
theorem tCB_i {r : List V → Hp → VK → Prop} (q : tl σ H fun vs H1 => r vs H1 Q) : tCB r tl σ H Q := q
theorem tCall_i {sp : Sp} {dvs : List V} {E : XK} (q : tl σ H fun vs H1 => sp (vs ++ dvs) H1 Q E) : tCall sp dvs E tl σ H Q := q
theorem tDGet_i {td ty : TE} (q : td σ H fun x H1 => ty σ H1 fun y H2 => ∃ a v, x = .ref a ∧ DGet H2 a y (some v) ∧ Q v H2) : tDGet td ty σ H Q := q
theorem dget_i {a : Addr} {kvs : List (Key × V)} {k : Key} (h : H a = some (.dK kvs)) (e : valV kvs k = some v) (hy : y = kV k) (q : Q v H) : ∃ a' v', V.ref a = .ref a' ∧ DGet H a' y (some v') ∧ Q v' H :=
  ⟨a, v, rfl, by rw [hy, ← e]; exact DGet.k h, q⟩
theorem sDPut_i {td ty tv : TE} (q : tv σ H fun v H1 => td σ H1 fun x H2 => ty σ H2 fun y H3 => ∃ a H4, x = .ref a ∧ DPut H3 a y v H4 ∧ D.nx σ H4) : sDPut td ty tv D σ H := q
theorem dput_i {N : L2.St → Hp → Prop} {a : Addr} {kvs : List (Key × V)} {k : Key} (h : H a = some (.dK kvs)) (hy : y = kV k) (hl : kvs.length < sizeLine) (q : N σ (upd H a (.dK (putK kvs k v)))) : ∃ a' H4, V.ref a = .ref a' ∧ DPut H a' y v H4 ∧ N σ H4 :=
  ⟨a, _, rfl, by rw [hy]; exact DPut.k h hl, q⟩
theorem tFld_i {f : Str} (q : ta σ H fun x H1 => ∃ a C dx fs v, x = .ref a ∧ H1 a = some (.ins C dx fs) ∧ Cls K C ∧ NoAttr K C f ∧ fs.lookup f = some v ∧ Q v H1) : tFld K ta f σ H Q := q
theorem fld_i {f : Str} {a C dx : Addr} {fs : List (Str × V)} (h : H a = some (.ins C dx fs)) (c : Cls K C) (n : NoAttr K C f) (e : fs.lookup f = some v) (q : Q v H) :
    ∃ a' C dx fs v, V.ref a = .ref a' ∧ H a' = some (.ins C dx fs) ∧ Cls K C ∧ NoAttr K C f ∧ fs.lookup f = some v ∧ Q v H := ⟨a, C, dx, fs, v, rfl, h, c, n, e, q⟩
theorem rIxL_i {p : Addr} {xs : List V} {i : Int} (h : H p = some (.lst xs)) (e : atI xs i = some v) (q : Q v H) : rIxL K (.ref p) (.int i) H Q := ⟨p, xs, i, v, rfl, rfl, SqL.of h, e, q⟩
theorem rIxT_i {p : Addr} {xs : List V} {i : Int} (h : H p = some (.tup xs)) (e : atI xs i = some v) (q : Q v H) : rIxT K (.ref p) (.int i) H Q := ⟨p, xs, i, v, rfl, rfl, SqT.of h, e, q⟩
theorem sz4 {n : Nat} (h : n ≤ 1000 := by decide) : n ≤ sizeLine := Nat.le_trans h (by decide)
end

end L77
namespace L77
open PySem PySem.Spec PyProof.Rows L2
variable {gd : Bool}
local macro_rules | `(tactic| walk_at "y1") => `(tactic| with_reducible first
  | refine tSeq_i ?_ | refine tAsg_i ?_ | refine tCons_i ?_ | refine tNil_i ?_ | refine tC_i ?_ | refine tOp_i ?_ | refine tIfS_i ?_ | refine tTest_i ?_ | refine exBl_i ?_ | refine tRet_i ?_ | refine tCall_i ?_
  | refine tCB_i ?_ | refine tLst_i ?_ | refine tTup_i ?_ | refine rI0_i ?_ | refine tDrop_i ?_ | refine tNext_i ?_ | refine tB_i ?_ | refine tAnd_i ?_ | refine tOr_i ?_ | refine tNot_i ?_ | refine tAndV_i ?_ | refine tOrV_i ?_ | refine tNotV_i ?_
  | refine tIf_i ?_ | refine tUn_i ?_ | refine tDGet_i ?_ | refine sDPut_i ?_ | refine tFld_i ?_ | refine tRetN_i ?_ | refine tBreak_i ?_ | refine tCont_i ?_ | refine rU_i ?_)
local macro_rules | `(tactic| walk_at "yhead") => `(tactic| dsimp only [L2.start, List.map, List.length_cons, List.length_nil, Nat.reduceAdd, Nat.reduceSub, List.replicate, List.cons_append, List.nil_append])
local macro_rules | `(tactic| walk_at "y2") => `(tactic| first
  | walk_at "y1"
  | ((with_reducible refine tVar_i (v := ?v) ?h ?q); (case h => rfl))
  | ((with_reducible refine gName_i ?_); (dsimp only [List.set]))
  | ((with_reducible refine rEq_i ?h ?q); (case h => rfl)) | ((with_reducible refine rNe_i ?h ?q); (case h => rfl)))
local macro_rules | `(tactic| walk_at "y") => `(tactic| repeat walk_at "y2")

/-! calls, with the guards of repr told -/
structure RG (gd : Bool) (n : Nat) (A : Around) : Prop where
  r : Room n A
  g : gd = true → A.guards = some []
theorem RG.mono {i n : Nat} {A : Around} (z : RG gd n A) (h : i ≤ n) : RG gd i A := ⟨z.r.mono h, z.g⟩
theorem RG.dpr {n : Nat} {A : Around} (z : RG gd (n + 1) A) (en : Env) : RG gd n (A.deeper en) := ⟨z.r.deeper en, z.g⟩
theorem RG.one {n : Nat} {A : Around} (z : RG gd (n + 1) A) : RG gd n A.in1 := ⟨z.r.in1, z.g⟩
theorem RG.mk1 {n : Nat} {A : Around} (z : RG gd (n + 1) A) (C : Addr) (us : List Value) (kw : List (Str × Value)) : RG gd n (A.under (.builtin "type.__call__" ⟨.ref C :: us, kw⟩)) :=
  ⟨z.r.make C us kw, by
    have e : (A.under (.builtin "type.__call__" ⟨.ref C :: us, kw⟩)).guards = A.guards := by
      first | rfl | simp [Around.under, Code.guards, Code.isGuard, guardIds, pushGuards]
    rw [e]; exact z.g⟩
/-- a def keeps its promise wherever nothing is being shown -/
structure FnG (gd : Bool) (P : Program) (w : World) (K : PySem.W.Frag) (mg : Str → Option Value) (base : Heap) (CX : CXT) (n : Nat) (f : Addr) (fd : FuncData) (ps : List Str) (sp : Sp) : Prop where
  len : ∀ vs H Q E, sp vs H Q E → vs.length = ps.length
  run : ∀ (A : Around) (out : List Env) (st : Shared) (H : Hp) (ag : Args) (us : List Value) (vs : List V) (Q : VK) (E : XK), RG gd n A → Env0 P w K mg base A out st H → BindsTo st fd ag (ps.zip us) → Vals vs us → sp vs H Q E →
    codeAny (model P w) A (.call (.ref f) ag) (CR CX out P w H st Q E) st
theorem FnG.mono {P : Program} {w : World} {K : PySem.W.Frag} {mg : Str → Option Value} {base : Heap} {CX : CXT} {i n : Nat} {f : Addr} {fd : FuncData} {ps : List Str} {sp : Sp} (F : FnG gd P w K mg base CX i f fd ps sp) (h : i ≤ n) :
    FnG gd P w K mg base CX n f fd ps sp := ⟨F.len, fun A out st H ag us vs Q E z => F.run A out st H ag us vs Q E (z.mono h)⟩
theorem FnG.of {P : Program} {w : World} {K : PySem.W.Frag} {mg : Str → Option Value} {base : Heap} {CX : CXT} {n : Nat} {f : Addr} {fd : FuncData} {ps : List Str} {sp : Sp} (F : FnOk P w K mg base CX n f fd ps sp) :
    FnG gd P w K mg base CX n f fd ps sp := ⟨F.len, fun A out st H ag us vs Q E z => F.run A out st H ag us vs Q E z.r⟩
theorem FnG.imp {P : Program} {w : World} {K : PySem.W.Frag} {mg : Str → Option Value} {base : Heap} {CX : CXT} {n : Nat} {f : Addr} {fd : FuncData} {ps : List Str} {sp sq : Sp} (F : FnG gd P w K mg base CX n f fd ps sp)
    (h : ∀ vs H Q E, sq vs H Q E → sp vs H Q E) : FnG gd P w K mg base CX n f fd ps sq :=
  ⟨fun vs H Q E q => F.len vs H Q E (h _ _ _ _ q), fun A out st H ag us vs Q E z he hb hv q => F.run A out st H ag us vs Q E z he hb hv (h _ _ _ _ q)⟩
/-- by the body -/
theorem FnG.body {P : Program} {w : World} {K : PySem.W.Frag} {mg : Str → Option Value} {base : Heap} {x qual : Str} {params : Arguments} {body : List Stmt} {scope : Scope} {dvs : List V} {kws : List (Str × V)} {f : Addr} {fd : FuncData}
    {CX : CXT} {N ps : List Str} {n : Nat} {sp : Sp} (F : FunD K x qual params body scope dvs kws f fd) (S : FnScope N ps scope) (len : ∀ vs H Q E, sp vs H Q E → vs.length = ps.length)
    (hb : ∀ (cdv : Value) (A : Around) (out : List Env) (st : Shared) (H : Hp) (vs : List V) (Q : VK) (E : XK), RG gd n (A.deeper (envOfC qual scope st.heap.objs.size f cdv)) → sp vs H Q E →
      ∃ t, PSs (cxOf CX P w K mg base N qual scope f cdv A out st H E) body t ∧ t { nx := fun _ H' => Q .non H', rt := Q } (start N vs) H) : FnG gd P w K mg base CX (n + 1) f fd ps sp := by
  obtain ⟨oc, od, dV, kV, doc, pm, an, cdv, ct, osl, rfl, lk, hcd, _, _⟩ := F.ex
  refine ⟨len, fun A out st H ag us vs Q E z e0 bd rv q0 => ?_⟩
  have nl := len _ _ _ _ q0
  have KX : K.In st.heap := e0.mod.kin.keeps fun b o e => (e0.bs b o e).1
  have lim : st.heap.NoLimit := e0.mod.nolimit.keeps fun b o e => (e0.bs b o e).1
  have kd : ∀ y ∈ ps.zip us, scope.names.lookup y.1 = some .local ∨ (scope.names.lookup y.1 = some .cell ∧ ((cellsFrom (st.heap.objs.size + 1) scope.names []).lookup y.1).isSome = true) := fun ⟨a, v⟩ hy =>
    (S.par a (List.of_mem_zip hy).1).elim .inl fun q => .inr ⟨q, PySem.W.cellsFrom_some _ _ _ (.inl q)⟩
  refine codeAny_call_function z.r.depth (KX _ _ lk) rfl S.co S.gen rfl (PySem.W.codeRec_of KX hcd) (bd _ _ _ _ ?_)
  refine wpAny_newFunctionEnv_cells S.kind kd fun en he st1 ic => ?_
  subst he
  refine ⟨lim.keeps ic.toInCall.keep, codeAny_func ?_⟩
  obtain ⟨t, ht, hq⟩ := hb cdv A out st H vs Q E (z.dpr _) q0
  have I := inv_start (CX := CX) (E := E) S z.r.hd e0 nl rv ic
  refine wpAny_mono (ht.run [] st1 (start N vs) H _ I hq) (fun fl sz hs => ?_) fun _ _ hs => hs
  cases fl with
  | ret u =>
    obtain ⟨v, σ', H', J, r2, q⟩ := hs
    exact ⟨v, H', J.os, J.bare, J.base, J.hok, r2, q⟩
  | next =>
    obtain ⟨σ', H', J, q⟩ := hs
    exact ⟨V.non, H', J.os, J.bare, J.base, J.hok, rfl, q⟩
  | brk => exact (let ⟨_, _, _, q⟩ := hs; False.elim q)
  | cont => exact (let ⟨_, _, _, q⟩ := hs; False.elim q)
section
variable {X : Cx} {CX : CXT} {n : Nat} {f C : Addr} {fd : FuncData} {ps : List Str} {sp : Sp} {dvs : List V} {ds : List Value} {E : XK} {x m : Str} {p pos apos : Pos} {e o : Expr} {es : List Expr} {ta : TE} {t : TA}
theorem runG {pins : List (Addr × Obj)} {σ : L2.St} {H : Hp} {st : Shared} {Q : VK} {us : List Value} {vs : List V} (F : FnG gd X.prog X.w X.K X.mg X.base CX n f fd ps sp) (z : RG gd n X.A) (bd : Binds X.K fd ps ds) (dv : Vals dvs ds) (hx : Passes CX X E)
    (I : Inv X pins σ H st) (rv : Vals vs us) (q : sp (vs ++ dvs) H Q E) : wpAny (model X.prog X.w) X.A (call (.ref f) us) (EP X pins σ Q) X.xe st := by
  have r2 : Vals (vs ++ dvs) (us ++ ds) := rv.append dv
  refine wpAny_call (codeAny_mono (F.run X.A X.stack st H ⟨us, []⟩ (us ++ ds) (vs ++ dvs) Q E z I.env0 (bd st us I.kIn (by rw [← r2.length]; exact F.len _ _ _ _ q)) r2 q) fun r sz hq => ?_)
  cases r with
  | error er => exact hx pins σ H st er sz I hq
  | ok fl => cases fl <;> first | exact I.after hq | exact False.elim hq
theorem pe_callG (F : FnG gd X.prog X.w X.K X.mg X.base CX n f fd ps sp) (z : RG gd n X.A) (hg : Gl X x) (hm : X.mg x = some (.ref f)) (hk : PySem.W.keepIn X.K (.ref f) = true) (bd : Binds X.K fd ps ds) (dv : Vals dvs ds) (hx : Passes CX X E)
    (ha : PA X (e :: es) t) (hdb : (x == ("__debug__" : Str)) = false := by decide) (he : starEach (e :: es) X.env = (false, eval e X.env) :: starEach es X.env := by rfl) (hpl : (backTo pos (starEach es X.env)).any (·.1) = false := by rfl) :
    PE X (.Call (.Name x p) (e :: es) [] pos) (tCall sp dvs E t) :=
  ⟨fun pins st σ H Q I h => wpAny_Call_Name_kw (ld_glob I hg hm (PySem.W.callWith_K (h₀ := X.base) I.ok.mod.kin hk (thn (ha.run pos pins st σ H _ I h) fun us s1 ⟨vs, H1, I1, rv, q⟩ => ⟨I1.kIn, runG F z bd dv hx I1 rv q⟩) he hpl) hdb)⟩
theorem pe_callG0 (F : FnG gd X.prog X.w X.K X.mg X.base CX n f fd ps sp) (z : RG gd n X.A) (hg : Gl X x) (hm : X.mg x = some (.ref f)) (hk : PySem.W.keepIn X.K (.ref f) = true) (bd : Binds X.K fd ps ds) (dv : Vals dvs ds) (hx : Passes CX X E)
    (hdb : (x == ("__debug__" : Str)) = false := by decide) : PE X (.Call (.Name x p) [] [] pos) (tCall sp dvs E tNil) :=
  ⟨fun pins st σ H Q I h => wpAny_Call_Name_kw (ld_glob I hg hm (PySem.W.callWith_K0 I.kIn hk (runG (us := []) F z bd dv hx I .nil h)) hdb)⟩
theorem pe_methG {pl : Sem Bool} (he : PE X o ta) (c : Cls X.K C) (hm : Meth X.K C m f) (F : FnG gd X.prog X.w X.K X.mg X.base CX n f fd ps sp) (z : RG gd n X.A) (bd : Binds X.K fd ps ds) (dv : Vals dvs ds) (hx : Passes CX X E) (ha : PA X (e :: es) t)
    (hst : starEach (e :: es) X.env = (false, eval e X.env) :: starEach es X.env := by rfl) (hpl : (backTo pos (starEach es X.env)).any (·.1) = false := by rfl)
    (ht : eval (.Call (.Attribute o m apos) (e :: es) [] pos) X.env = (eval o X.env >>= fun ov => standAt apos.atName >>= fun _ => holding [ov] (getMethod ov m pl) >>= fun fr => callWith pos fr.1 fr.2 (backTo pos (starEach (e :: es) X.env)) (backToKw pos (keywordEach [] X.env))) := by rfl) :
    PE X (.Call (.Attribute o m apos) (e :: es) [] pos) (tMeth C m sp dvs E ta t) := by
  refine ⟨fun pins st σ H Q I h => PySem.W.methodCall_KW (pl := pl) (thn (he.run pins st σ H _ I h) fun u s1 ⟨x, H1, I1, rx, a, dx, fs, ex, ea, l, q⟩ => ?_) ht⟩
  subst ex
  obtain rfl : u = Value.ref a := rx
  exact getmeth_ok I1 ea c hm l (PySem.W.callWith_K (first := [.ref a]) (h₀ := X.base) I.ok.mod.kin hm.kp (thn (ha.run pos pins s1 σ H1 _ I1 q) fun us s2 ⟨vs, H2, I2, rv, q2⟩ => ⟨I2.kIn, runG (us := .ref a :: us) (vs := .ref a :: vs) F z bd dv hx I2 (.cons rfl rv) q2⟩) hst hpl)
theorem pe_methG0 {pl : Sem Bool} (he : PE X o ta) (c : Cls X.K C) (hm : Meth X.K C m f) (F : FnG gd X.prog X.w X.K X.mg X.base CX n f fd ps sp) (z : RG gd n X.A) (bd : Binds X.K fd ps ds) (dv : Vals dvs ds) (hx : Passes CX X E)
    (ht : eval (.Call (.Attribute o m apos) [] [] pos) X.env = (eval o X.env >>= fun ov => standAt apos.atName >>= fun _ => holding [ov] (getMethod ov m pl) >>= fun fr => callWith pos fr.1 fr.2 (backTo pos (starEach [] X.env)) (backToKw pos (keywordEach [] X.env))) := by rfl) :
    PE X (.Call (.Attribute o m apos) [] [] pos) (tMeth C m sp dvs E ta tNil) := by
  refine ⟨fun pins st σ H Q I h => PySem.W.methodCall_KW (pl := pl) (thn (he.run pins st σ H _ I h) fun u s1 ⟨x, H1, I1, rx, a, dx, fs, ex, ea, l, q⟩ => ?_) ht⟩
  subst ex
  obtain rfl : u = Value.ref a := rx
  exact getmeth_ok I1 ea c hm l (PySem.W.callWith_K0 (first := [.ref a]) I1.kIn hm.kp (runG (us := [.ref a]) (vs := [.ref a]) F z bd dv hx I1 (.cons rfl .nil) q))
theorem runMakeG {pins : List (Addr × Obj)} {σ : L2.St} {H : Hp} {st : Shared} {Q : VK} {us : List Value} {vs : List V} (M : Mk X.K C f) (F : FnG gd X.prog X.w X.K X.mg X.base CX n f fd ps sp) (z : RG gd (n + 1) X.A) (bd : Binds X.K fd ps ds) (dv : Vals dvs ds)
    (hx : Passes CX X E) (I : Inv X pins σ H st) (rv : Vals vs us)
    (h : ∀ x dx, H x = none → H dx = none → dx ≠ x → sp (.ref x :: (vs ++ dvs)) (upd (upd H dx (.own x)) x (.ins C dx [])) (fun v H2 => v = .non ∧ Q (.ref x) H2) E) :
    wpAny (model X.prog X.w) X.A (call (.ref C) us) (EP X pins σ Q) X.xe st := by
  have q0 := h (st.heap.objs.size + 1) st.heap.objs.size (I.hok.fresh (Nat.le_succ _)) (I.hok.fresh (Nat.le_refl _)) (Nat.ne_of_lt (Nat.lt_succ_self _))
  have J := Inv.made (C := C) I
  have r2 : Vals (V.ref (st.heap.objs.size + 1) :: (vs ++ dvs)) (Value.ref (st.heap.objs.size + 1) :: (us ++ ds)) := .cons rfl (rv.append dv)
  have nl : (Value.ref (st.heap.objs.size + 1) :: us ++ ds).length = ps.length := (r2.length.symm.trans (F.len _ _ _ _ q0) : _)
  refine wpAny_call (make_map (f := f) I.kIn M.makes M.init (beq_iff_eq.mp M.fn) (codeAny_mono (F.run _ X.stack _ _ ⟨Value.ref (st.heap.objs.size + 1) :: us, []⟩ (Value.ref (st.heap.objs.size + 1) :: (us ++ ds)) _ _ E (z.mk1 C us [])
    (J.env0.make C us []) (bd _ (Value.ref (st.heap.objs.size + 1) :: us) J.kIn nl) r2 q0) fun r sz hq => ?_))
  cases r with
  | error er => exact hx pins σ _ _ er sz J hq
  | ok fl =>
    cases fl with
    | ret u =>
      obtain ⟨v, H', I3, r3, ev, q3⟩ := J.after hq
      subst ev
      exact ⟨r3, ⟨V.ref (st.heap.objs.size + 1), H', I3, rfl, q3⟩⟩
    | next => exact False.elim hq
    | brk => exact False.elim hq
    | cont => exact False.elim hq
theorem pe_makeG (M : Mk X.K C f) (F : FnG gd X.prog X.w X.K X.mg X.base CX n f fd ps sp) (z : RG gd (n + 1) X.A) (hg : Gl X x) (hm : X.mg x = some (.ref C)) (bd : Binds X.K fd ps ds) (dv : Vals dvs ds) (hx : Passes CX X E)
    (ha : PA X (e :: es) t) (hdb : (x == ("__debug__" : Str)) = false := by decide) (he : starEach (e :: es) X.env = (false, eval e X.env) :: starEach es X.env := by rfl) (hpl : (backTo pos (starEach es X.env)).any (·.1) = false := by rfl) :
    PE X (.Call (.Name x p) (e :: es) [] pos) (tMake C sp dvs E t) :=
  ⟨fun pins st σ H Q I h => wpAny_Call_Name_kw (ld_glob I hg hm (PySem.W.callWith_K (h₀ := X.base) I.ok.mod.kin M.kp (thn (ha.run pos pins st σ H _ I h) fun us s1 ⟨vs, H1, I1, rv, q⟩ => ⟨I1.kIn, runMakeG M F z bd dv hx I1 rv q⟩) he hpl) hdb)⟩
theorem pe_makeG0 (M : Mk X.K C f) (F : FnG gd X.prog X.w X.K X.mg X.base CX n f fd ps sp) (z : RG gd (n + 1) X.A) (hg : Gl X x) (hm : X.mg x = some (.ref C)) (bd : Binds X.K fd ps ds) (dv : Vals dvs ds) (hx : Passes CX X E)
    (hdb : (x == ("__debug__" : Str)) = false := by decide) : PE X (.Call (.Name x p) [] [] pos) (tMake C sp dvs E tNil) :=
  ⟨fun pins st σ H Q I h => wpAny_Call_Name_kw (ld_glob I hg hm (PySem.W.callWith_K0 I.kIn M.kp (runMakeG (us := []) M F z bd dv hx I .nil h)) hdb)⟩
end

/-! the end of a law over FnG -/
theorem lawG {P : Program} {w : World} {K : PySem.W.Frag} {mg mb : Str → Option Value} {CX : CXT} {n : Nat} {fa a : Addr} {fd : FuncData} {x : Str} {sp : Sp} {st : Shared} {us : List Value} {ns : List Int}
    (KX : K.In st.heap) (G1 : st.heap.Ns mainGlobals mg) (G2 : st.heap.Ns builtinsNs mb) (G3 : ∀ y : Str, y ≠ "__name__" → mb y = bootBuiltins y) (G4 : st.heap.NoLimit) (G5 : st.gens = #[])
    (ha : st.heap.get? a = some { cls := .type "list", data := .seq us.toArray }) (hi : IntsAre us ns) (hl : ns.length ≤ sizeLine) (z : RG true n callerA)
    (F : ∀ base : Heap, K.In base → base.Ns mainGlobals mg → FnG true P w K mg base CX n fa fd [x] sp) (bd : ∀ (s : Shared) (u : Value), BindsTo s fd ⟨[u], []⟩ [(x, u)])
    (hsp : ∀ H : Hp, Only H → SqL K H a (ns.map V.int) → sp [.ref a] H (fun v _ => v = .bl true) fun _ _ _ => False)
    (hCX : ∀ H e sz, CX [] H st (fun _ _ _ => False) e sz → False) :
    codeAny (model P w) callerA (.call (.ref fa) ⟨[.ref a], []⟩) (fun r sz => r = .ok (.ret (.bool true)) ∧ OldK st.heap sz.heap ∧ sz.os = st.os ∧ AllBare sz.gens) st := by
  have rv := vals_ints hi
  have ln := hi.length
  have core : ∀ H : Hp, Only H → SqL K H a (ns.map V.int) → HOk P w H st.heap → (∀ b, H b ≠ none → b = a ∧ K.lookup a = none) →
      codeAny (model P w) callerA (.call (.ref fa) ⟨[.ref a], []⟩) (fun r sz => r = .ok (.ret (.bool true)) ∧ OldK st.heap sz.heap ∧ sz.os = st.os ∧ AllBare sz.gens) st := by
    intro H hO hS ok hA
    have fr0 : ∀ {b : Addr} {o : Obj}, st.heap.get? b = some o → H b = none → (hidT st.heap H).get? b = some o := fun e k => hidT_get e k
    have out : ∀ {b : Addr} {o : Obj}, st.heap.get? b = some o → o.data ≠ .seq us.toArray 0 ∨ (∃ q, K.lookup b = some q) → H b = none := by
      intro b o e d
      cases q : H b with
      | none => rfl
      | some u =>
        obtain ⟨eb, ek⟩ := hA b (by rw [q]; exact fun y => nomatch y)
        subst eb
        rcases d with d | ⟨y, d⟩
        · rw [ha] at e; cases e; exact absurd rfl d
        · rw [ek] at d; cases d
    have ns0 : ∀ {b : Addr} {m : Str → Option Value}, st.heap.Ns b m → (hidT st.heap H).Ns b m := fun ⟨o, es, ep, e, d, r⟩ => ⟨o, es, ep, fr0 e (out e (.inl (by rw [d]; exact fun y => nomatch y))), d, r⟩
    have KB : K.In (hidT st.heap H) := fun b o e => fr0 (KX b o e) (out (KX b o e) (.inr ⟨o, e⟩))
    have MD : Mod K mg (hidT st.heap H) := ⟨KB, ns0 G1, ⟨mb, ns0 G2, G3⟩, let ⟨mc, q1, q2⟩ := G4; ⟨mc, ns0 q1, q2⟩⟩
    have e0 : Env0 P w K mg (hidT st.heap H) callerA [] st H := ⟨rfl, MD, fun b o e => of_hidT e, Nat.le_of_eq (hidT_size _ _), trivial, fun b hb => absurd (show b ∈ ([] : List Addr) from hb) List.not_mem_nil, ok, .of_eq G5⟩
    refine codeAny_mono ((F _ KB (ns0 G1)).run callerA [] st H ⟨[.ref a], []⟩ [.ref a] [.ref a] _ _ z e0 (bd st (.ref a)) (.cons rfl .nil) (hsp H hO hS)) fun r sz h => ?_
    cases r with
    | error e => exact (hCX H e sz h).elim
    | ok fl =>
      cases fl with
      | next => exact False.elim h
      | brk => exact False.elim h
      | cont => exact False.elim h
      | ret u =>
        obtain ⟨v, H', os, bare, un, ok', r2, q⟩ := h
        have qv : v = .bl true := q
        subst qv
        obtain rfl : u = Value.bool true := r2
        refine ⟨rfl, OldK.of_keep fun b o e => ?_, os, bare⟩
        rcases hO b with k | ⟨ob, xs, k⟩
        · exact un.keep b o e k (fun y => nomatch (show b ∈ ([] : List Addr) from y)) (fun y => nomatch y)
        · obtain ⟨e1, _⟩ := ok b _ k
          obtain ⟨e2, _⟩ := ok' b _ (un.frzs b ob _ k)
          rw [e] at e1; cases e1
          exact e2
  cases hk : K.lookup a with
  | some o =>
    have e := KX a o hk
    rw [ha] at e
    cases e
    exact core (fun _ => none) (fun _ => .inl rfl) (.inr ⟨_, us.toArray, _, hk, rfl, rfl, rfl, by rw [List.size_toArray, ln]; exact hl, by simpa using rv⟩) (fun b u y => nomatch (show (none : Option HO) = some u from y)) fun b y => absurd rfl y
  | none =>
    have hf : ∀ b, b ≠ a → (fun b => if b = a then some (HO.frz { cls := .type "list", data := .seq us.toArray } (.lst (ns.map V.int))) else none) b = none := fun b nb => if_neg nb
    refine core (fun b => if b = a then some (HO.frz { cls := .type "list", data := .seq us.toArray } (.lst (ns.map V.int))) else none) (fun b => ?_) (.inl (.inr ⟨{ cls := .type "list", data := .seq us.toArray }, if_pos rfl⟩)) (fun b u y => ?_) fun b y => ?_
    · by_cases hb : b = a
      · exact .inr ⟨_, _, if_pos hb⟩
      · exact .inl (if_neg hb)
    · by_cases hb : b = a
      · have y2 := (if_pos hb).symm.trans y
        cases y2
        subst hb
        exact ⟨ha, by rw [List.length_map]; exact hl, us, _, rv, ha⟩
      · exact nomatch ((hf b hb).symm.trans y)
    · by_cases hb : b = a
      · exact ⟨hb, hk⟩
      · exact absurd (hf b hb) y
theorem walkG {l : PySem.W.OpenLaw} {m n : Nat} {q : Program} {loose : List Str} {XP : (Str → Option Value) → Heap → Prop} {YP : World → Heap → Prop} {d : DefRec} {CX : World → CXT} {x : Str}
    (hm : l.most = some m) (hm2 : m ≤ sizeLine) (hdf : d.params.defaults = []) (hr : Room n callerA)
    (F : ∀ (w : World) (mg : Str → Option Value) (fa : Addr) (h : Heap), YP w h → h.Ns mainGlobals mg → mg d.name = some (.ref fa) →
      ∃ (K : PySem.W.Frag) (fd : FuncData) (sp : Sp), K.In h ∧ (∀ (s : Shared) (u : Value), BindsTo s fd ⟨[u], []⟩ [(x, u)]) ∧
        (∀ (H : Hp) (a : Addr) (ns : List Int), ns.length ≤ m → (∀ y ∈ ns, Builtin.Int.intBits y ≤ 1048576) → Only H → SqL K H a (ns.map V.int) → sp [.ref a] H (fun v _ => v = .bl true) fun _ _ _ => False) ∧
        ∀ base : Heap, K.In base → base.Ns mainGlobals mg → FnG true l.prog w K mg base (CX w) n fa fd [x] sp)
    (hCX : ∀ (w : World) (H : Hp) (s : Shared) (e : Value) (sz : Shared), CX w [] H s (fun _ _ _ => False) e sz → False) :
    PySem.W.WalkO q loose XP YP l.row.toRowW d [] (fun f vs => PySem.call f vs) := by
  refine Att.attach_callB hm hdf fun w s0 st mg mb fa o pm cd doc a us ns G Y ho hd hcd hmg hobj hints hlen hbits hg => ?_
  obtain ⟨K, fd, sp, KX, bd, hsp, hF⟩ := F w mg fa _ Y G.T.g hmg
  exact lawG KX G.T.g G.T.b G.T.builtins G.T.nolimit hg hobj hints (Nat.le_trans hlen hm2) ⟨hr, fun _ => rfl⟩ hF bd (fun H hO hS => hsp H a ns hlen hbits hO hS) fun H e sz => hCX w H st e sz

end L77
namespace L77
open PySem PySem.Spec PyProof.Rows L2
variable {gd : Bool}
local macro_rules | `(tactic| walk_at "y1") => `(tactic| with_reducible first
  | refine tSeq_i ?_ | refine tAsg_i ?_ | refine tCons_i ?_ | refine tNil_i ?_ | refine tC_i ?_ | refine tOp_i ?_ | refine tIfS_i ?_ | refine tTest_i ?_ | refine exBl_i ?_ | refine tRet_i ?_ | refine tCall_i ?_
  | refine tCB_i ?_ | refine tLst_i ?_ | refine tTup_i ?_ | refine rI0_i ?_ | refine tDrop_i ?_ | refine tNext_i ?_ | refine tB_i ?_ | refine tAnd_i ?_ | refine tOr_i ?_ | refine tNot_i ?_ | refine tAndV_i ?_ | refine tOrV_i ?_ | refine tNotV_i ?_
  | refine tIf_i ?_ | refine tUn_i ?_ | refine tDGet_i ?_ | refine sDPut_i ?_ | refine tFld_i ?_ | refine tRetN_i ?_ | refine tBreak_i ?_ | refine tCont_i ?_ | refine rU_i ?_)
local macro_rules | `(tactic| walk_at "yhead") => `(tactic| dsimp only [L2.start, List.map, List.length_cons, List.length_nil, Nat.reduceAdd, Nat.reduceSub, List.replicate, List.cons_append, List.nil_append])
local macro_rules | `(tactic| walk_at "y2") => `(tactic| first
  | walk_at "y1"
  | ((with_reducible refine tVar_i (v := ?v) ?h ?q); (case h => rfl))
  | ((with_reducible refine gName_i ?_); (dsimp only [List.set]))
  | ((with_reducible refine rEq_i ?h ?q); (case h => rfl)) | ((with_reducible refine rNe_i ?h ?q); (case h => rfl)))
local macro_rules | `(tactic| walk_at "y") => `(tactic| repeat walk_at "y2")

/-! operations, whatever the kinds of the values -/
section
variable {X : Cx}
def rIxDct : R2 := fun x y H Q => ∃ a v, x = .ref a ∧ DGet H a y (some v) ∧ Q v H
theorem ix_dct (hu : X.A.units + 1 < cLine) : IxR X rIxDct := by
  intro value slice pins st σ H x y v u Q I rx ry q hs
  obtain ⟨a, w, rfl, g, q⟩ := q
  obtain rfl : v = Value.ref a := rx
  have hT := dict_typeIs I g
  unfold subscriptTail
  refine wpAny_bind ?_
  rw [getitemInPython_of_ne hT.not_modules]
  refine wpAny_bind (wpAny_specialOf hT PySem.F.slot_dict_getitem.lookup ?_)
  have fin : wpAny (model X.prog X.w) X.A (subscripted slice false (.ref a) u) (fun r s3 => wpAny (model X.prog X.w) X.A (letTemporaryGo value (.ref a) r >>= fun _ => pure r) (EP X pins σ Q) X.xe s3) X.xe st := by
    rw [hs]
    exact wpAny_operating (d_getItem hu I g ry fun w2 s3 I3 r3 => wpAny_bind (wpAny_letTemporaryGo (wpAny_pure ⟨w, H, I3, r3, q⟩)))
  first
    | exact wpAny_pure (wpAny_bind fin)
    | exact wpAny_bind (wpAny_pure (wpAny_bind fin))
    | exact wpAny_bind fin
def rGet (K : PySem.W.Frag) : R2 := fun x y H Q => rIx K x y H Q ∨ rIxDct x y H Q
theorem ix_get (hu : X.A.units + 1 < cLine) : IxR X (rGet X.K) := ix_seq.or (ix_dct hu)
def rStrCat : R2 := fun x y H Q => ∃ i j, x = .str i ∧ y = .str j ∧ i.length + j.length ≤ sizeLine ∧ Q (.str (i ++ j)) H
/-- two lists, the left or the right one perhaps the script -/
def rAdd2 (K : PySem.W.Frag) : R2 := fun x y H Q => rI0 (fun i j => .int (i + j)) x y H Q ∨ rStrCat x y H Q ∨ rCat x y H Q ∨ rCatA K x y H Q
theorem op_add2 : OpR X (binaryOp .Add) (rAdd2 X.K) := op_add.or (op_add_str.or (op_cat.or op_catA))
def rMul2 (K : PySem.W.Frag) : R2 := fun x y H Q => rI CMul (fun i j => .int (i * j)) x y H Q ∨ rRep x y H Q
theorem op_mul2 : OpR X (binaryOp .Mult) (rMul2 X.K) := op_mul.or op_rep
def rEq2 (K : PySem.W.Frag) : R2 := fun x y H Q => rEq x y H Q ∨ rEqD K x y H Q
theorem op_eq2 (hu : X.A.units + 64 < cLine) : OpR X (compareOp .Eq) (rEq2 X.K) := op_eq.or (op_eqD hu)
def rNe2 (K : PySem.W.Frag) : R2 := fun x y H Q => rNe x y H Q ∨ rNeD K x y H Q
theorem op_ne2 (hu : X.A.units + 64 < cLine) : OpR X (compareOp .NotEq) (rNe2 X.K) := op_ne.or (op_neD hu)
def rDIn : R2 := fun y x H Q => ∃ a o, x = .ref a ∧ DGet H a y o ∧ Q (.bl o.isSome) H
theorem op_din (hu : X.A.units + 1 < cLine) : OpR X (compareOp .In) rDIn := by
  intro pins st σ H y x u v Q I ry rx q
  obtain ⟨a, o, rfl, g, q⟩ := q
  obtain rfl : v = Value.ref a := rx
  exact d_in hu I g ry fun s3 I3 => ⟨.bl o.isSome, H, I3, rfl, q⟩
def rDNotIn : R2 := fun y x H Q => ∃ a o, x = .ref a ∧ DGet H a y o ∧ Q (.bl (!o.isSome)) H
theorem op_dnotin (hu : X.A.units + 1 < cLine) : OpR X (compareOp .NotIn) rDNotIn := by
  intro pins st σ H y x u v Q I ry rx q
  obtain ⟨a, o, rfl, g, q⟩ := q
  obtain rfl : v = Value.ref a := rx
  exact d_notIn hu I g ry fun s3 I3 => ⟨.bl (!o.isSome), H, I3, rfl, q⟩
def rIn2 (K : PySem.W.Frag) : R2 := fun x y H Q => rIn K false x y H Q ∨ rInD K x y H Q ∨ rDIn x y H Q
theorem op_in2 (hu : X.A.units + 65 < cLine) : OpR X (compareOp .In) (rIn2 X.K) := op_in_seq.or ((op_inD hu).or (op_din (by omega)))
def rNotIn2 (K : PySem.W.Frag) : R2 := fun x y H Q => rIn K true x y H Q ∨ rNotInD K x y H Q ∨ rDNotIn x y H Q
theorem op_notIn2 (hu : X.A.units + 65 < cLine) : OpR X (compareOp .NotIn) (rNotIn2 X.K) := op_notIn_seq.or ((op_notInD hu).or (op_dnotin (by omega)))
def rSl2 (K : PySem.W.Frag) : V → Option Int → Option Int → Hp → VK → Prop := fun x lo hi H Q => rSlL K x lo hi H Q ∨ rSlA K x lo hi H Q
theorem sl_2 : SlR X (rSl2 X.K) := sl_list.or sl_tupA
def rIsi2 (K : PySem.W.Frag) : List V → Hp → VK → Prop := fun xs H Q => rIsi K xs H Q ∨ rIsiT K xs H Q
theorem call_isi2 : CallR X (.builtin "isinstance") (rIsi2 X.K) := call_isi.or call_isiT
end

end L77
namespace L77
open PySem PySem.Spec PyProof.Rows L2
variable {gd : Bool}
local macro_rules | `(tactic| walk_at "y1") => `(tactic| with_reducible first
  | refine tSeq_i ?_ | refine tAsg_i ?_ | refine tCons_i ?_ | refine tNil_i ?_ | refine tC_i ?_ | refine tOp_i ?_ | refine tIfS_i ?_ | refine tTest_i ?_ | refine exBl_i ?_ | refine tRet_i ?_ | refine tCall_i ?_
  | refine tCB_i ?_ | refine tLst_i ?_ | refine tTup_i ?_ | refine rI0_i ?_ | refine tDrop_i ?_ | refine tNext_i ?_ | refine tB_i ?_ | refine tAnd_i ?_ | refine tOr_i ?_ | refine tNot_i ?_ | refine tAndV_i ?_ | refine tOrV_i ?_ | refine tNotV_i ?_
  | refine tIf_i ?_ | refine tUn_i ?_ | refine tDGet_i ?_ | refine sDPut_i ?_ | refine tFld_i ?_ | refine tRetN_i ?_ | refine tBreak_i ?_ | refine tCont_i ?_ | refine rU_i ?_)
local macro_rules | `(tactic| walk_at "yhead") => `(tactic| dsimp only [L2.start, List.map, List.length_cons, List.length_nil, Nat.reduceAdd, Nat.reduceSub, List.replicate, List.cons_append, List.nil_append])
local macro_rules | `(tactic| walk_at "y2") => `(tactic| first
  | walk_at "y1"
  | ((with_reducible refine tVar_i (v := ?v) ?h ?q); (case h => rfl))
  | ((with_reducible refine gName_i ?_); (dsimp only [List.set]))
  | ((with_reducible refine rEq_i ?h ?q); (case h => rfl)) | ((with_reducible refine rNe_i ?h ?q); (case h => rfl)))
local macro_rules | `(tactic| walk_at "y") => `(tactic| repeat walk_at "y2")

/-! a, *b = a tuple -/
section
variable {X : Cx}
theorem pgs_star {t : Expr} {p : Pos} {es : List Expr} {g : TG} {u : TGs} (h1 : PG X t g) (h2 : PGs X es u) : PGs X (.Starred t p :: es) (gCons g u) := by
  refine ⟨fun pins st σ H vs us Q I r h => ?_⟩
  obtain ⟨v, vr, rfl, h⟩ := h
  cases r with
  | cons r rr => exact assignInOrder_cons (thn (h1.run pins st σ H _ _ _ I r h) fun _ s1 ⟨σ1, H1, I1, q1⟩ => h2.run pins s1 σ1 H1 _ _ Q I1 rr q1)
/-- n targets, the one at i starred -/
def gStar (K : PySem.W.Frag) (n i : Nat) (t : TGs) : TG := fun v σ H Q => ∃ a xs, v = .ref a ∧ SqT K H a xs ∧ n ≤ xs.length + 1 ∧
  ∀ d, H d = none → t (xs.take i ++ V.ref d :: (xs.drop i).drop (xs.length + 1 - n)) σ (upd H d (.lst ((xs.drop i).take (xs.length + 1 - n)))) Q
theorem pg_star {es : List Expr} {k : Nat} {pos : Pos} {n i : Nat} {t : TGs} (hc : X.calm = true) (h : PGs X es t) (hn : (assignEach es X.env).length = n := by rfl) (hst : (assignEach es X.env).findIdx? (·.1) = some i := by rfl) (hi : i < n := by decide) :
    PG X (.Tuple es k pos) (gStar X.K n i t) := by
  refine ⟨fun pins st σ H v u Q I r hw => ?_⟩
  obtain ⟨a, xs, rfl, hq, hl, hw⟩ := hw
  obtain rfl : u = Value.ref a := r
  have hh := I.ok.hd hc
  obtain ⟨its, rv, ht, hz⟩ := I.tuple hq
  have len := rv.length
  have sz : its.toArray.size = xs.length := by rw [List.size_toArray, len]
  have alt : a ≠ st.heap.objs.size := by obtain ⟨o, ho, _⟩ := ht; exact Nat.ne_of_lt (Heap.lt_size ho)
  rw [assign_Tuple]
  refine wpAny_bind (wpAny_standAt ?_)
  unfold unpack
  rw [hn, hst]
  refine wpAny_bind (wpAny_holding ?_)
  unfold unpackItems notIterableAtAll
  refine wpAny_bind (wpAny_bind (wpAny_specialOf ht.typeIs slot_tuple_iter.lookup (wpAny_pure ?_)))
  simp only [Bool.false_eq_true, if_false]
  refine wpAny_bind (wpAny_holding (iter_tuple ht ?_))
  refine wpAny_bind (wpAny_holding (draw_tuple alt i 0 _ _ ⟨_, Heap.get?_push_size _ rfl, rfl, rfl⟩ (ht.push _) (by omega) fun h1 it1 hs1 => ?_))
  rw [Nat.zero_add] at it1
  have t1 : IsTup h1 a its.toArray := (ht.push _).extBut hs1.extBut alt
  obtain ⟨oi, hoi, _⟩ := id it1
  obtain ⟨ol, hol, _⟩ := id t1
  rw [List.drop_zero]
  have fl : (its.toArray.toList.take i).length = i := by rw [List.length_take, Array.length_toList]; omega
  rw [if_neg (show ¬ ((its.toArray.toList.take i).length < i) by rw [fl]; omega)]
  refine wpAny_bind (wpAny_holding (PySem.W.kun_collect (s := { st with heap := h1 }) (T := "tuple_iterator") (.inr (.inr (.inr rfl))) (Walks.tuple (A := X.A.in1) hh st.heap.objs.size a alt its.toArray) (fun j u z => z.1.typeIs) (k := i) (by omega) ⟨it1, t1⟩ (Heap.lt_size hoi) (Heap.lt_size hol) (fun h2 tk hk => ?_) (by rw [sz]; exact hz)))
  have rl : (its.toArray.toList.drop i).length = xs.length - i := by rw [List.length_drop, Array.length_toList, sz]
  show wpAny _ _ (if (its.toArray.toList.drop i).length < n - 1 - i then _ else _) _ _ _
  rw [if_neg (by rw [rl]; omega)]
  have md : (its.toArray.toList.drop i).length - (n - 1 - i) = xs.length + 1 - n := by rw [rl]; omega
  show wpAny _ _ (newList ((its.toArray.toList.drop i).take ((its.toArray.toList.drop i).length - (n - 1 - i))) >>= fun d => pure (its.toArray.toList.take i ++ [d] ++ (its.toArray.toList.drop i).drop ((its.toArray.toList.drop i).length - (n - 1 - i)))) _ _ _
  rw [md]
  have kp : ∀ b o, st.heap.get? b = some o → h2.get? b = some o := fun b o e => by
    have nb : b ≠ st.heap.objs.size := Nat.ne_of_lt (Heap.lt_size e)
    exact hk b o nb (hs1.extBut b o nb (Heap.get?_push_of_some _ e))
  have I2 : Inv X pins σ H { st with heap := h2, toks := tk } := I.kept kp
  refine wpAny_bind (wpAny_newObj_type (wpAny_pure ?_) (by show (List.toArray _).size ≤ sizeLine; rw [List.size_toArray, List.length_take, rl]; omega))
  have rm : Vals ((xs.drop i).take (xs.length + 1 - n)) ((its.toArray.toList.drop i).take (xs.length + 1 - n)) := (rv.drop i).take _
  have ol2 : ((xs.drop i).take (xs.length + 1 - n)).length ≤ sizeLine := by rw [List.length_take, List.length_drop]; omega
  have I3 : Inv X pins σ (upd H h2.objs.size (.lst ((xs.drop i).take (xs.length + 1 - n)))) { st with heap := h2.push { cls := .type "list", data := .seq ((its.toArray.toList.drop i).take (xs.length + 1 - n)).toArray }, toks := tk } :=
    I2.laid (t' := tk) (fun b o e => Heap.get?_push_of_some _ e) (Nat.le_refl _) ⟨ol2, _, 0, rm, Heap.get?_push_size _ rfl⟩
  have q3 := h.run pins _ σ _ _ (its.toArray.toList.take i ++ Value.ref h2.objs.size :: (its.toArray.toList.drop i).drop (xs.length + 1 - n)) Q I3 ((rv.take i).append (.cons (show L2.RelV (V.ref h2.objs.size) (Value.ref h2.objs.size) from rfl) ((rv.drop i).drop _))) (hw h2.objs.size (I2.hok.fresh (Nat.le_refl _)))
  simpa using q3
end

end L77
namespace L77
open PySem PySem.Spec PyProof.Rows L2
variable {gd : Bool}
local macro_rules | `(tactic| walk_at "y1") => `(tactic| with_reducible first
  | refine tSeq_i ?_ | refine tAsg_i ?_ | refine tCons_i ?_ | refine tNil_i ?_ | refine tC_i ?_ | refine tOp_i ?_ | refine tIfS_i ?_ | refine tTest_i ?_ | refine exBl_i ?_ | refine tRet_i ?_ | refine tCall_i ?_
  | refine tCB_i ?_ | refine tLst_i ?_ | refine tTup_i ?_ | refine rI0_i ?_ | refine tDrop_i ?_ | refine tNext_i ?_ | refine tB_i ?_ | refine tAnd_i ?_ | refine tOr_i ?_ | refine tNot_i ?_ | refine tAndV_i ?_ | refine tOrV_i ?_ | refine tNotV_i ?_
  | refine tIf_i ?_ | refine tUn_i ?_ | refine tDGet_i ?_ | refine sDPut_i ?_ | refine tFld_i ?_ | refine tRetN_i ?_ | refine tBreak_i ?_ | refine tCont_i ?_ | refine rU_i ?_)
local macro_rules | `(tactic| walk_at "yhead") => `(tactic| dsimp only [L2.start, List.map, List.length_cons, List.length_nil, Nat.reduceAdd, Nat.reduceSub, List.replicate, List.cons_append, List.nil_append])
local macro_rules | `(tactic| walk_at "y2") => `(tactic| first
  | walk_at "y1"
  | ((with_reducible refine tVar_i (v := ?v) ?h ?q); (case h => rfl))
  | ((with_reducible refine gName_i ?_); (dsimp only [List.set]))
  | ((with_reducible refine rEq_i ?h ?q); (case h => rfl)) | ((with_reducible refine rNe_i ?h ?q); (case h => rfl)))
local macro_rules | `(tactic| walk_at "y") => `(tactic| repeat walk_at "y2")

/-! defs, methods and classes by their promises -/
/-- a def of the module, called by its name -/
structure Cal (gd : Bool) (P : Program) (w : World) (K : PySem.W.Frag) (mg : Str → Option Value) (base : Heap) (CX : CXT) (k : Nat) (x : Str) (sp : Sp) : Prop where
  ex : ∃ (f : Addr) (fd : FuncData) (ps : List Str), FnG gd P w K mg base CX k f fd ps sp ∧ mg x = some (.ref f) ∧ PySem.W.keepIn K (.ref f) = true ∧ Binds K fd ps []
/-- a class made by its name; sp: its __init__'s promise -/
structure Mak (gd : Bool) (P : Program) (w : World) (K : PySem.W.Frag) (mg : Str → Option Value) (base : Heap) (CX : CXT) (k : Nat) (x : Str) (sp : Sp) : Prop where
  ex : ∃ (f : Addr) (fd : FuncData) (ps : List Str), Mk K (He.ga K x) f ∧ FnG gd P w K mg base CX k f fd ps sp ∧ mg x = some (.ref (He.ga K x)) ∧ Binds K fd ps []
def sp1 (p : V → Hp → VK → XK → Prop) : Sp := fun vs H Q E => ∃ x, vs = [x] ∧ p x H Q E
def sp2 (p : V → V → Hp → VK → XK → Prop) : Sp := fun vs H Q E => ∃ x y, vs = [x, y] ∧ p x y H Q E
def sp3 (p : V → V → V → Hp → VK → XK → Prop) : Sp := fun vs H Q E => ∃ x y u, vs = [x, y, u] ∧ p x y u H Q E
theorem sp1_len {p : V → Hp → VK → XK → Prop} {a : Str} : ∀ vs H Q E, sp1 p vs H Q E → vs.length = [a].length := fun vs H Q E h => by obtain ⟨x, rfl, _⟩ := h; rfl
theorem sp2_len {p : V → V → Hp → VK → XK → Prop} {a b : Str} : ∀ vs H Q E, sp2 p vs H Q E → vs.length = [a, b].length := fun vs H Q E h => by obtain ⟨x, y, rfl, _⟩ := h; rfl
theorem sp3_len {p : V → V → V → Hp → VK → XK → Prop} {a b c : Str} : ∀ vs H Q E, sp3 p vs H Q E → vs.length = [a, b, c].length := fun vs H Q E h => by obtain ⟨x, y, u, rfl, _⟩ := h; rfl
section
variable {X : Cx} {k j : Nat} {c x m : Str} {sp : Sp} {p pos apos : Pos} {e o : Expr} {es : List Expr} {ta te : TE} {t : TA} {CX : CXT} {E : XK}
theorem hu_1 {A : Around} (z : RG gd k A) : A.units + 64 < cLine := by have := z.r.un; omega
theorem hu_2 {A : Around} (z : RG gd k A) : A.units + 65 < cLine := by have := z.r.un; omega
theorem hu_3 {A : Around} (z : RG gd k A) : A.units + 1 < cLine := by have := z.r.un; omega
theorem pe_c (c : Cal gd X.prog X.w X.K X.mg X.base CX0 k x sp) (z : RG gd j X.A) (ha : PA X (e :: es) t) (hk : k ≤ j := by decide) (hg : Gl X x := by rfl)
    (hdb : (x == ("__debug__" : Str)) = false := by decide) (he : starEach (e :: es) X.env = (false, eval e X.env) :: starEach es X.env := by rfl) (hpl : (backTo pos (starEach es X.env)).any (·.1) = false := by rfl) :
    PE X (.Call (.Name x p) (e :: es) [] pos) (tCall sp [] E0 t) := by
  obtain ⟨f, fd, ps, F, hm, kp, b⟩ := c.ex
  exact pe_callG F (z.mono hk) hg hm kp b .nil pass0 ha hdb he hpl
theorem pe_cX (c : Cal gd X.prog X.w X.K X.mg X.base CX k x sp) (z : RG gd j X.A) (hx : Passes CX X E) (ha : PA X (e :: es) t) (hk : k ≤ j := by decide) (hg : Gl X x := by rfl)
    (hdb : (x == ("__debug__" : Str)) = false := by decide) (he : starEach (e :: es) X.env = (false, eval e X.env) :: starEach es X.env := by rfl) (hpl : (backTo pos (starEach es X.env)).any (·.1) = false := by rfl) :
    PE X (.Call (.Name x p) (e :: es) [] pos) (tCall sp [] E t) := by
  obtain ⟨f, fd, ps, F, hm, kp, b⟩ := c.ex
  exact pe_callG F (z.mono hk) hg hm kp b .nil hx ha hdb he hpl
theorem pe_mk0 (c : Mak gd X.prog X.w X.K X.mg X.base CX0 k x sp) (z : RG gd j X.A) (hk : k + 1 ≤ j := by decide) (hg : Gl X x := by rfl)
    (hdb : (x == ("__debug__" : Str)) = false := by decide) :
    PE X (.Call (.Name x p) [] [] pos) (tMake (He.ga X.K x) sp [] E0 tNil) := by
  obtain ⟨f, fd, ps, M, F, hm, b⟩ := c.ex
  exact pe_makeG0 M F (z.mono hk) hg hm b .nil pass0 hdb
/-- a whole number of the module by its name -/
theorem pe_gi {i : Int} (h : ∃ t, X.mg x = some (.int i t)) (hg : Gl X x := by rfl) (hd : (x == ("__debug__" : Str)) = false := by decide) : PE X (.Name x pos) (tC (.int i)) := by
  obtain ⟨t, h⟩ := h
  exact pe_glob hg h ⟨t, rfl⟩ hd
/-- a def or a class of the module as a value -/
theorem pe_gl {a : Addr} (h : X.mg x = some (.ref a)) (hg : Gl X x := by rfl) (hd : (x == ("__debug__" : Str)) = false := by decide) : PE X (.Name x pos) (tC (.ref a)) := pe_glob hg h rfl hd
end
section
variable {P : Program} {w : World} {K : PySem.W.Frag} {mg : Str → Option Value} {base : Heap}
/-- a def that raises nothing -/
theorem Sy.cal (T : Sy K mg) {x : Str} {j : Nat} {N ps : List Str} {k : Nat} {sp : Sp} (F0 : FDx K (dG x j))
    (S : FnScope N ps (defScope (top j))) (len : ∀ vs H Q E, sp vs H Q E → vs.length = ps.length)
    (hbody : ∀ (cdv : Value) (f : Addr) (A : Around) (outer : List Env) (s : Shared) (H : Hp) (vs : List V) (Q : VK) (E : XK), RG gd k (A.deeper (envOfC x (defScope (top j)) s.heap.objs.size f cdv)) → sp vs H Q E →
      ∃ t, PSs (cxOf CX0 P w K mg base N x (defScope (top j)) f cdv A outer s H E).nox (defBody (top j)) t ∧ t { nx := fun _ H' => Q .non H', rt := Q } (start N vs) H)
    (hb : ∀ (kV doc pm : Value) (an : Option Addr) (cdv ct : Value) (us : List Value), us.length = ps.length → bindArgs (PySem.W.fnOf x x (defArgs (top j)) (defBody (top j)) (defScope (top j)) .none kV doc pm an cdv ct) ⟨us, []⟩ = pure (ps.zip us))
    (hg : fa.any (isGlo x) = true := by decide +kernel) : Cal gd P w K mg base CX0 (k + 1) x sp := by
  obtain ⟨fd, F⟩ := F0
  refine ⟨_, fd, ps, FnG.body F S len fun cdv A outer s H vs Q E hr h => ?_, T.glo x hg, F.kp, F.bindsN hb⟩
  obtain ⟨t, h1, h2⟩ := hbody cdv _ A outer s H vs Q E hr h
  exact ⟨t, h1.nox, h2⟩
end
section
variable {P : Program} {w : World} {K : PySem.W.Frag} {mg : Str → Option Value} {base : Heap}
/-- a class by its __init__ that raises nothing -/
theorem Sy.mak (T : Sy K mg) {c q : Str} {i j : Nat} {N ps : List Str} {k : Nat} {sp : Sp} (F0 : FDx K (dM c "__init__" q i j))
    (S : FnScope N ps (defScope (inClass (top i) j))) (len : ∀ vs H Q E, sp vs H Q E → vs.length = ps.length)
    (hbody : ∀ (cdv : Value) (f : Addr) (A : Around) (outer : List Env) (s : Shared) (H : Hp) (vs : List V) (Q : VK) (E : XK), RG gd k (A.deeper (envOfC q (defScope (inClass (top i) j)) s.heap.objs.size f cdv)) → sp vs H Q E →
      ∃ t, PSs (cxOf CX0 P w K mg base N q (defScope (inClass (top i) j)) f cdv A outer s H E).nox (defBody (inClass (top i) j)) t ∧ t { nx := fun _ H' => Q .non H', rt := Q } (start N vs) H)
    (hb : ∀ (kV doc pm : Value) (an : Option Addr) (cdv ct : Value) (us : List Value), us.length = ps.length → bindArgs (PySem.W.fnOf "__init__" q (defArgs (inClass (top i) j)) (defBody (inClass (top i) j)) (defScope (inClass (top i) j)) .none kV doc pm an cdv ct) ⟨us, []⟩ = pure (ps.zip us))
    (hg : fa.any (isGlo c) = true := by decide +kernel) (hk : fa.any (isMkr c) = true := by decide +kernel) : Mak gd P w K mg base CX0 (k + 1) c sp := by
  obtain ⟨fd, F⟩ := F0
  refine ⟨_, fd, ps, T.mkr c hk, FnG.body F S len fun cdv A outer s H vs Q E hr h => ?_, T.glo c hg, F.bindsN hb⟩
  obtain ⟨t, h1, h2⟩ := hbody cdv _ A outer s H vs Q E hr h
  exact ⟨t, h1.nox, h2⟩
end
/-! more operations by their kinds, and walks over any of them -/
section
variable {X : Cx}
def rLe2 : R2 := fun x y H Q => rI0 (fun i j => .bl (decide (i ≤ j))) x y H Q ∨ ∃ i j, x = .str i ∧ y = .str j ∧ Q (.bl (!decide (j.cps.toList < i.cps.toList))) H
theorem op_le2 : OpR X (compareOp .LtE) rLe2 := op_le.or op_le_str
/-- small data: what == and repr ask of it -/
structure Sm (n b : Nat) (d : PyData) : Prop where
  lay : d.canLay0 = true
  dep : d.depth ≤ n
  shw : PyData.showable d = true
  lvs : d.leavesShort 16 = true
  blk : d.bulk ≤ b
theorem Sm.mono {n b n' b' : Nat} {d : PyData} (h : Sm n b d) (hn : n ≤ n') (hb : b ≤ b') : Sm n' b' d := ⟨h.lay, Nat.le_trans h.dep hn, h.shw, h.lvs, Nat.le_trans h.blk hb⟩
theorem Sm.shaped {n b : Nat} {d : PyData} (h : Sm n b d) (hn : n ≤ 64 := by decide) : SeqAt.shaped d = true := by
  unfold SeqAt.shaped
  rw [h.lay, Bool.true_and]
  exact decide_eq_true (Nat.le_trans h.dep hn)
theorem Sm.none : Sm 0 0 .none := ⟨by decide, by decide, by decide, by decide, by decide⟩
theorem Sm.bl (c : Bool) : Sm 0 0 (.bool c) := by cases c <;> exact ⟨by decide, by decide, by decide, by decide, by decide⟩
theorem Sm.int {i : Int} (h1 : -999999999999 ≤ i) (h2 : i ≤ 999999999999) : Sm 0 0 (.int i) := by
  refine ⟨by simp only [PyData.canLay0], by simp [PyData.depth], ?_, ?_, by simp [PyData.bulk]⟩
  · simp only [PyData.showable, decide_eq_true_eq]
    by_cases h0 : i.natAbs = 0
    · rw [h0]; decide
    · exact Nat.lt_of_lt_of_le ((Nat.log2_lt h0).mpr (show i.natAbs < 2 ^ 40 by omega)) (by decide)
  · simp only [PyData.leavesShort, decide_eq_true_eq]
    exact Nat.le_trans (PyData.shown_int_le2 h1 h2) (by decide)
theorem Sm.all {n b : Nat} : ∀ {ds : List PyData}, (∀ d ∈ ds, Sm n b d) → PyData.canLayAll0 ds = true ∧ PyData.depthAll ds ≤ n ∧ PyData.showableAll ds = true ∧ PyData.leavesShortAll 16 ds = true ∧ PyData.bulkAll ds ≤ ds.length * (b + 1)
  | [], _ => ⟨by simp [PyData.canLayAll0], by simp [PyData.depthAll], by simp [PyData.showableAll], by simp [PyData.leavesShortAll], by simp [PyData.bulkAll]⟩
  | d :: ds, h => by
    obtain ⟨h1, h2, h3, h4, h5⟩ := Sm.all (ds := ds) fun x hx => h x (List.mem_cons_of_mem _ hx)
    have g := h d (List.mem_cons_self ..)
    refine ⟨by simp [PyData.canLayAll0, g.lay, h1], ?_, by simp [PyData.showableAll, g.shw, h3], by simp [PyData.leavesShortAll, g.lvs, h4], ?_⟩
    · simp only [PyData.depthAll]
      exact Nat.max_le.mpr ⟨g.dep, h2⟩
    · simp only [PyData.bulkAll, List.length_cons, Nat.add_mul]
      have := g.blk
      omega
theorem Sm.list {n b : Nat} {ds : List PyData} (h : ∀ d ∈ ds, Sm n b d) : Sm (n + 1) (ds.length * (b + 1)) (.list ds) := by
  obtain ⟨h1, h2, h3, h4, h5⟩ := Sm.all h
  exact ⟨by simpa only [PyData.canLay0] using h1, by simp only [PyData.depth]; omega, by simpa only [PyData.showable] using h3, by simpa only [PyData.leavesShort] using h4, by simpa only [PyData.bulk] using h5⟩
theorem Sm.tup {n b : Nat} {ds : List PyData} (h : ∀ d ∈ ds, Sm n b d) : Sm (n + 1) (ds.length * (b + 1)) (.tuple ds) := by
  obtain ⟨h1, h2, h3, h4, h5⟩ := Sm.all h
  exact ⟨by simpa only [PyData.canLay0] using h1, by simp only [PyData.depth]; omega, by simpa only [PyData.showable] using h3, by simpa only [PyData.leavesShort] using h4, by simpa only [PyData.bulk] using h5⟩
def rRepr (K : PySem.W.Frag) : List V → Hp → VK → Prop := fun xs H Q => ∃ x d, xs = [x] ∧ Dp K H x d ∧ Sm 50 100000 d ∧ Q (.str (PyData.shown d)) H
theorem call_repr {k : Nat} (z : RG true k X.A) : CallR X (.builtin "repr") (rRepr X.K) := by
  intro pins s σ H xs us Q I rx h
  obtain ⟨x, d, rfl, hd, hs, q⟩ := h
  obtain ⟨u, rfl, ru⟩ := Vals.one rx
  have hsz : d.shown.length ≤ sizeLine := by
    have h1 := PyData.shown_le_bulk 16 (by decide) d hs.lvs
    have h2 := hs.blk
    rw [sizeLine_eq]
    omega
  have fin : ∀ h' t tk, (∀ b o, s.heap.get? b = some o → h'.get? b = some o) → EP X pins σ Q (.str d.shown t) { s with heap := h', toks := tk } := fun h' t tk hk => ⟨.str d.shown, H, I.kept hk, ⟨_, rfl⟩, q⟩
  have fin0 : EP X pins σ Q (.str d.shown s.toks) { s with toks := s.toks + 1 } := fin s.heap s.toks (s.toks + 1) fun _ _ e => e
  have rr : ∀ a, u = Value.ref a → wpAny (model X.prog X.w) X.A (call (.builtin "repr") [.ref a]) (EP X pins σ Q) X.xe s := fun a e => by
    obtain ⟨as, r⟩ := Dp.reads I d x u hd ru
    rw [e] at r
    refine repr_of_reads' r hs.shw (PyData.noDict_hsm (PyData.hasDict_of_canLay d hs.lay)) (z.g rfl) ?_ (fun b o e => e) fin hsz
    have h1 := hs.dep
    have h2 := z.r.un
    omega
  cases hd with
  | non => cases (show u = Value.none from ru); exact P.repr_of_none fin0
  | bl b => cases (show u = Value.bool b from ru); exact P.repr_of_bool fin0
  | int i =>
    obtain ⟨t, e⟩ := (show ∃ t, u = Value.int i t from ru)
    subst e
    exact P.repr_of_int (by simpa [PyData.showable] using hs.shw) fin0
  | str y =>
    obtain ⟨t, e⟩ := (show ∃ t, u = Value.str y t from ru)
    subst e
    exact P.repr_of_str fin0 hsz
  | lst h1 h2 => cases (show u = Value.ref _ from ru); exact rr _ rfl
  | tup h1 h2 => cases (show u = Value.ref _ from ru); exact rr _ rfl
theorem mt_append2 : MtR X "list.append" rAppend := mt_append
theorem mt_extend2 : MtR X "list.extend" rExtend := mt_extend
theorem mt_index2 : MtR X "list.index" (rIndex X.K) := mt_index
def iAny (K : PySem.W.Frag) (te : TE) : TI := fun σ H R => iList K te σ H R ∨ iTup K te σ H R ∨ iStr te σ H R
theorem pi_any {tg e : Expr} {te : TE} (he : PE X e te) : PI X tg e (iAny X.K te) :=
  ⟨fun pins s σ H R I h => h.elim (fun h => (pi_list he).run pins s σ H R I h) fun h => h.elim (fun h => (pi_tup he).run pins s σ H R I h) fun h => (pi_str he).run pins s σ H R I h⟩
end

end L77
namespace L77
open PySem PySem.Spec PyProof.Rows L2
variable {gd : Bool}
local macro_rules | `(tactic| walk_at "y1") => `(tactic| with_reducible first
  | refine tSeq_i ?_ | refine tAsg_i ?_ | refine tCons_i ?_ | refine tNil_i ?_ | refine tC_i ?_ | refine tOp_i ?_ | refine tIfS_i ?_ | refine tTest_i ?_ | refine exBl_i ?_ | refine tRet_i ?_ | refine tCall_i ?_
  | refine tCB_i ?_ | refine tLst_i ?_ | refine tTup_i ?_ | refine rI0_i ?_ | refine tDrop_i ?_ | refine tNext_i ?_ | refine tB_i ?_ | refine tAnd_i ?_ | refine tOr_i ?_ | refine tNot_i ?_ | refine tAndV_i ?_ | refine tOrV_i ?_ | refine tNotV_i ?_
  | refine tIf_i ?_ | refine tUn_i ?_ | refine tDGet_i ?_ | refine sDPut_i ?_ | refine tFld_i ?_ | refine tRetN_i ?_ | refine tBreak_i ?_ | refine tCont_i ?_ | refine rU_i ?_)
local macro_rules | `(tactic| walk_at "yhead") => `(tactic| dsimp only [L2.start, List.map, List.length_cons, List.length_nil, Nat.reduceAdd, Nat.reduceSub, List.replicate, List.cons_append, List.nil_append])
local macro_rules | `(tactic| walk_at "y2") => `(tactic| first
  | walk_at "y1"
  | ((with_reducible refine tVar_i (v := ?v) ?h ?q); (case h => rfl))
  | ((with_reducible refine gName_i ?_); (dsimp only [List.set]))
  | ((with_reducible refine rEq_i ?h ?q); (case h => rfl)) | ((with_reducible refine rNe_i ?h ?q); (case h => rfl)))
local macro_rules | `(tactic| walk_at "y") => `(tactic| repeat walk_at "y2")

/-! enumerate(a tuple) -/
set_option maxHeartbeats 4000000 in
theorem meets_enumB {v : Value} {o : Obj} {Hh : Heap → Prop} (B : Begins v o Hh) :
    Meets (Builtin.«enumerate.__new__» ⟨[.type "enumerate", v], []⟩) (fun _ R s => Hh s.heap ∧
      R (.ok (.ret (.ref (s.heap.push o).objs.size))) { s with heap := (s.heap.push o).push { cls := .type "enumerate", data := .fields #[.none, .bool false, .ref s.heap.objs.size, rawInt 0, .none, .none] } }) :=
  .of_wp fun prog w A R s h => by
    obtain ⟨hp, g, d, tk, os⟩ := s; obtain ⟨h1, h⟩ := h
    have hsub := sub_enumerate
    have q1 : ∀ {A' : Around} {E : Value → Shared → Prop} {Q : Value → Shared → Prop}, Q (.ref hp.objs.size) ⟨hp.push o, g, d, tk, os⟩ → wpAny (model prog w) A' (pyIter v) Q E ⟨hp, g, d, tk, os⟩ :=
      fun q => B.iter prog w _ _ ⟨hp, g, d, tk, os⟩ _ h1 q
    wp_walk using q1
    refine wpAny_stack_any fun st => wpAny_pure ?_
    split
    · rename_i c _ _ _ _ _
      cases (c == Value.type "enumerate")
      · wp_walk using q1
        exact ⟨_, rfl, h⟩
      · wp_walk using q1
        exact ⟨_, rfl, h⟩
    · wp_walk using q1
      exact ⟨_, rfl, h⟩
theorem call_enumB {prog : Program} {w : World} {A : Around} {E : Value → Shared → Prop} {s : Shared} {v : Value} {o : Obj} {Hh : Heap → Prop} {Q : Value → Shared → Prop} (B : Begins v o Hh) (h1 : Hh s.heap)
    (h : ∀ h', IsEnum h' (s.heap.objs.size + 1) s.heap.objs.size 0 .none → h'.get? s.heap.objs.size = some o → h'.objs.size = s.heap.objs.size + 2 →
      (∀ b u, s.heap.get? b = some u → h'.get? b = some u) → Q (.ref (s.heap.objs.size + 1)) { s with heap := h' }) :
    wpAny (model prog w) A (call (.type "enumerate") [v]) Q E s := by
  refine callType_new F.called_enumerate (by decide) (F.typeCall_enumerate_1 _) (F.newCall_enumerate_1 _) (fun obj => F.args_object_init_2 obj _) F.entry_enumerate_new
    (meets_enumB B) ⟨h1, ?_⟩
  have hz : (s.heap.push o).objs.size = s.heap.objs.size + 1 := Heap.size_push ..
  show _ ∧ _
  rw [hz]
  have he : IsEnum ((s.heap.push o).push { cls := .type "enumerate", data := .fields #[.none, .bool false, .ref s.heap.objs.size, rawInt 0, .none, .none] }) (s.heap.objs.size + 1) s.heap.objs.size 0 .none := by
    have := Heap.get?_push_size (s.heap.push o) (o := { cls := .type "enumerate", data := .fields #[.none, .bool false, .ref s.heap.objs.size, rawInt 0, .none, .none] }) rfl
    rw [hz] at this; exact this
  exact ⟨⟨_, he, rfl⟩, h _ he (Heap.get?_push_of_some _ (Heap.get?_push_size _ B.free)) (by rw [Heap.size_push, hz]) fun b u x => Heap.get?_push_of_some _ (Heap.get?_push_of_some _ x)⟩
def IteT (K : PySem.W.Frag) (a : Addr) : It :=
  ⟨fun i H => ∃ xs x, SqT K H a xs ∧ xs[i]? = some x, fun i H v H' => ∃ T x, v = .ref T ∧ H T = none ∧ H' = upd H T (.tup [.int (i : Nat), x]) ∧ ∀ xs, SqT K H a xs → xs[i]? = some x, fun i H => ∃ xs, SqT K H a xs ∧ xs.length ≤ i⟩
theorem turn_enumT {P : Program} {w : World} {K : PySem.W.Frag} {elts : List Expr} {kk : Nat} {tpos : Pos} (a e it : Addr) (hai : a ≠ it) (hae : a ≠ e) :
    Turn P w K (.Tuple elts kk tpos) (IteT K a) [e, it] e (fun i h => (∃ old, IsEnum h e it ((i : Nat) : Int) old) ∧ h.IsTupleIter it a i ∧ e ≠ it) where
  mem := by simp
  obj := fun i h st b hb => by
    obtain ⟨⟨old, he⟩, ⟨o, ho, hc, hd⟩, _⟩ := st
    have e' : b = e ∨ b = it := by simpa using hb
    rcases e' with z | z
    · rw [z]; exact ⟨_, he, fun v q => nomatch q⟩
    · rw [z]; exact ⟨o, ho, fun v q => by rw [hd] at q; cases q⟩
  keep := fun i h h' st k => let ⟨⟨old, he⟩, hi, hne⟩ := st; ⟨⟨old, k e (by simp) _ he⟩, hi.at fun o q => k it (by simp) o q, hne⟩
  item := by
    intro X hP hw hK hc i pins s σ H E I hf st hg
    subst hP hw hK
    obtain ⟨⟨old, he⟩, hit, hne⟩ := st
    obtain ⟨xs, x, hq, hx⟩ := hg
    obtain ⟨its, rv, p, hz⟩ := I.tuple hq
    obtain ⟨u, hu, ru⟩ := rv.get hx
    have hel : e < s.heap.objs.size := Heap.lt_size he
    have hil : it < s.heap.objs.size := by obtain ⟨_, q, _⟩ := hit; exact Heap.lt_size q
    have hlt : i < its.toArray.size := by
      have h1 := (List.getElem?_eq_some_iff.mp hu).1
      simpa using h1
    refine wpAny_pyNext_enum_itemD (Draws.tuple (A := X.A.in1) (I.ok.hd hc) it a hai its.toArray) he ⟨hit, p⟩ hlt hne (by simp [hne, Ne.symm hae]) fun x' h' tk hx' ho hst hT hsz hk => ?_
    have ex : x' = u := by
      rw [List.getElem?_toArray, hu] at hx'
      exact (Option.some.inj hx').symm
    subst ex
    refine ⟨_, rfl, wpAny_letOwnedTupleGo_enum (s := { s with heap := h', toks := tk + 1 }) ho fun h'' he' sb => ?_⟩
    have hT2 : h''.get? s.heap.objs.size = some { cls := .type "tuple", data := .seq #[.int i tk, x'] } := (sb.2 _ (Nat.ne_of_gt hel)).trans hT
    have new : ObjOk X.prog X.w (upd H s.heap.objs.size (.tup [.int (i : Nat), x])) h'' s.heap.objs.size (.tup [.int (i : Nat), x]) :=
      ⟨by show 2 ≤ sizeLine; decide, [.int i tk, x'], .cons ⟨_, rfl⟩ (.cons ru .nil), ⟨_, hT2, rfl, _, rfl⟩⟩
    have I1 : Inv X pins σ (upd H s.heap.objs.size (.tup [.int (i : Nat), x])) { s with heap := h'', toks := tk + 1 } :=
      I.turnedNew (ch := [e, it]) (fun b ob hb q => (sb.2 b (fun z => hb (by simp [z]))).trans (hk b ob (fun z => hb (by simp [z])) (fun z => hb (by simp [z])) q)) hf (Nat.le_refl _) new
    refine ⟨.ref s.heap.objs.size, _, I1, rfl, ⟨_, x, rfl, I.hok.fresh (Nat.le_refl _), rfl, fun ys hy => by rw [I.tuple_inj hy hq]; exact hx⟩, ⟨⟨x', ?_⟩, hst.1.at fun o q => (sb.2 it (Ne.symm hne)).trans q, hne⟩, fun b hb => ?_⟩
    · have e1 : ((i + 1 : Nat) : Int) = (i : Int) + 1 := by omega
      rw [e1]; exact he'
    · have hb' : b < s.heap.objs.size := by
        have e' : b = e ∨ b = it := by simpa using hb
        rcases e' with z | z
        · rw [z]; exact hel
        · rw [z]; exact hil
      rw [upd_ne (Nat.ne_of_lt hb')]
      exact (hf b hb).1
  done := by
    intro X hP hw hK hc i pins s σ H E I hf st hg
    subst hP hw hK
    obtain ⟨⟨old, he⟩, hit, hne⟩ := st
    obtain ⟨xs, hq, hx⟩ := hg
    obtain ⟨its, rv, p, hz⟩ := I.tuple hq
    obtain ⟨f0, f1, f2, f3, f4, f5⟩ := hf it (by simp)
    have hl := rv.length
    have hT : s.TypeIs (.ref e) "enumerate" := ⟨_, he, rfl⟩
    unfold pyNext
    refine wpAny_bind (wpAny_attempt (wpAny_callSpecial?_slot (name := Str.ofString "__next__") hT F.slot_enumerate_next
      (wpAny_call_entry F.slot_enumerate_next hT F.entry_enumerate_next ?_ (F.args_enumerate_next_1 _))))
    show wpAny _ _ (field (.ref e) 2 >>= _) _ _ _
    refine wpAny_bind (wpAny_field he rfl (x := .ref it) rfl ?_)
    refine wpAny_bind (wpAny_nextOf_tuple_end (A := X.A.in1) (I.ok.hd hc) hit p (by simp; omega) fun h' x eb hx' => ?_)
    obtain ⟨o, ho, hcl⟩ := hx'
    refine wpAny_bind (wpAny_isInstance (T := "StopIteration") (b := true) ⟨o, ho, hcl⟩ isSubtype_stop ?_)
    exact wpAny_pure ⟨rfl, I.turned (t' := s.toks) (fun b o hb q => eb b o hb q) f0 f1 f3 f4 f5⟩
  self := fun A i s Q E st h => let ⟨⟨_, he⟩, _⟩ := st; wpAny_pyIter_enum he h
def iEnumT (K : PySem.W.Frag) (te : TE) : TI := fun σ H R => tCons te tNil σ H fun vs H1 => ∃ a xs, vs = [.ref a] ∧ SqT K H1 a xs ∧ R (IteT K a) H1
theorem pi_enumT {X : Cx} {e : Expr} {te : TE} {p pos tpos : Pos} {elts : List Expr} {kk : Nat} (hg : Gl X "enumerate") (hm : X.mg "enumerate" = none) (he : PE X e te) (ha : starEach [e] X.env = [(false, eval e X.env)] := by rfl) :
    PI X (.Tuple elts kk tpos) (.Call (.Name "enumerate" p) [e] [] pos) (iEnumT X.K te) := by
  refine ⟨fun pins s σ H R I h => ?_⟩
  refine Call_ (ld_blt I hg hm boot_enumerate (PyProof.Rows.callWith_type1 (thn ((pa_cons he pa_nil (hs := ha)).run pos pins s σ H _ I h) fun us s1 ⟨vs, H1, I1, r1, q1⟩ => ?_) ha rfl))
  obtain ⟨a, xs, ex, hq, q⟩ := q1
  subst ex
  cases r1 with
  | cons r rr =>
    cases rr
    cases r
    obtain ⟨its, rv, p', hz⟩ := I1.tuple hq
    have hal : a < s1.heap.objs.size := by obtain ⟨_, q, _⟩ := p'; exact Heap.lt_size q
    refine call_enumB (begins_tuple a its.toArray) p' fun h' he hit hsz hk => wpAny_pyIter_enum he ?_
    have I2 : Inv X pins σ H1 { s1 with heap := h' } := I1.kept (t' := s1.toks) hk
    refine ⟨s1.heap.objs.size + 1, [s1.heap.objs.size + 1, s1.heap.objs.size], _, _, H1, rfl, I2, turn_enumT a (s1.heap.objs.size + 1) s1.heap.objs.size (Nat.ne_of_lt hal) (Nat.ne_of_lt (Nat.lt_succ_of_lt hal)), ⟨⟨.none, he⟩, ⟨_, hit, rfl, rfl⟩, Nat.succ_ne_self _⟩, fun b hb => ?_, q⟩
    have e' : b = s1.heap.objs.size + 1 ∨ b = s1.heap.objs.size := by simpa using hb
    have hle : s1.heap.objs.size ≤ b := by
      rcases e' with z | z
      · rw [z]; exact Nat.le_add_right _ _
      · rw [z]; exact Nat.le_refl _
    exact I1.fpOk hle (I1.hok.fresh hle)
def iEnum2 (K : PySem.W.Frag) (te : TE) : TI := fun σ H R => iEnum K (tCons te tNil) σ H R ∨ iEnumT K te σ H R
theorem pi_enum2 {X : Cx} {e : Expr} {te : TE} {p pos tpos : Pos} {elts : List Expr} {kk : Nat} (hg : Gl X "enumerate") (hm : X.mg "enumerate" = none) (he : PE X e te) (ha : starEach [e] X.env = [(false, eval e X.env)] := by rfl) :
    PI X (.Tuple elts kk tpos) (.Call (.Name "enumerate" p) [e] [] pos) (iEnum2 X.K te) :=
  ⟨fun pins s σ H R I h => h.elim (fun h => (pi_enum hg hm (pa_cons he pa_nil (hs := ha)) (hs := ha)).run pins s σ H R I h) fun h => (pi_enumT hg hm he ha).run pins s σ H R I h⟩
theorem walk_enumT {K : PySem.W.Frag} {a : Addr} {xs : List V} : Walk (IteT K a) xs.length (fun H => SqT K H a xs) (YPair (fun i => some (.int (i : Nat))) (fun i => xs[i]?)) := by
  refine ⟨fun i _ hi q => ⟨xs, xs[i], q, by simp [hi]⟩, fun _ q => ⟨xs, q, Nat.le_refl _⟩, fun i H v H' _ q y => ?_⟩
  obtain ⟨T, x, h1, h2, h3, h4⟩ := y
  exact ⟨T, .int (i : Nat), x, h1, h2, h3, rfl, h4 xs q⟩
/-! sorted, remove, index, len; instances called; properties -/
section
variable {X : Cx} {CX : CXT} {n : Nat} {C g p : Addr} {fd : FuncData} {ps : List Str} {sp : Sp} {dvs : List V} {ds : List Value} {E : XK} {e fe : Expr} {es : List Expr} {ta tf : TE} {t : TA} {pos : Pos} {f : Str}
def rSorted2 (K : PySem.W.Frag) : List V → Hp → VK → Prop := fun xs H Q => rSortedI K xs H Q ∨ rSortedPO K xs H Q
theorem call_sorted2 : CallR X (.builtin "sorted") (rSorted2 X.K) := cr_sortedI.or cr_sortedPO
theorem mt_remove2 : MtR X "list.remove" rRemI := mt_remove
def rLen2 (K : PySem.W.Frag) : List V → Hp → VK → Prop := fun xs H Q => ∃ x n, xs = [x] ∧ LenV K x H n ∧ Q (.int n) H
theorem call_len2 : CallR X (.builtin "len") (rLen2 X.K) := call_len
def rTIdx (K : PySem.W.Frag) : V → List V → Hp → VK → Prop := fun x xs H Q => ∃ (p : Addr) (ns : List Int) (k : Int), x = .ref p ∧ xs = [.int k] ∧ SqT K H p (ns.map V.int) ∧ k ∈ ns ∧ Q (.int (ns.idxOf k : Nat)) H
theorem mt_tindex : MtR X "tuple.index" (rTIdx X.K) := by
  intro pins s σ H x xs v us Q I rx rs h
  obtain ⟨p, ns, k, rfl, rfl, hq, hk, q⟩ := h
  cases (show v = Value.ref p from rx)
  obtain ⟨u, rfl, t, rfl⟩ := vals1 rs
  obtain ⟨its, r, pl, hz⟩ := I.tuple hq
  exact PySem.SeqAt.tuple_index_ints pl r.ints hk ⟨.int (ns.idxOf k : Nat), H, I.tok _, ⟨_, rfl⟩, q⟩
theorem codeG {pins : List (Addr × Obj)} {σ : L2.St} {H : Hp} {st : Shared} {Q : VK} {us : List Value} {vs : List V} {fa : Addr} (F : FnG gd X.prog X.w X.K X.mg X.base CX n fa fd ps sp) (z : RG gd n X.A) (bd : Binds X.K fd ps []) (hx : Passes CX X E)
    (I : Inv X pins σ H st) (rv : Vals vs us) (q : sp vs H Q E) : codeAny (model X.prog X.w) X.A (.call (.ref fa) ⟨us, []⟩) (fun r s' => match r with | .ok (.ret v) => EP X pins σ Q v s' | .ok _ => False | .error e => X.xe e s') st := by
  have bd0 := bd st us I.kIn (by rw [List.append_nil, ← rv.length]; exact F.len _ _ _ _ q)
  rw [List.append_nil] at bd0
  refine codeAny_mono (F.run X.A X.stack st H ⟨us, []⟩ us vs Q E z I.env0 bd0 rv q) fun r sz hq => ?_
  cases r with
  | error er => exact hx pins σ H st er sz I hq
  | ok fl => cases fl <;> first | exact I.after hq | exact False.elim hq
/-- f(e, ..), f an expression that gives an instance of C -/
def tCallOG (C : Addr) (sp : Sp) (E : XK) (tf : TE) (t : TA) : TE := fun σ H Q => tf σ H fun y H1 => ∃ a, y = V.ref a ∧ t σ H1 fun vs H2 => (∃ dx fs, H2 a = some (.ins C dx fs)) ∧ sp (V.ref a :: vs) H2 Q E
theorem pe_callOG (hf : PE X fe tf) (c : StX.CallO X.K C g) (F : FnG gd X.prog X.w X.K X.mg X.base CX n g fd ps sp) (z : RG gd n X.A) (bd : Binds X.K fd ps []) (hx : Passes CX X E) (ha : PA X (e :: es) t)
    (ht : eval (.Call fe (e :: es) [] pos) X.env = (do callWith pos (← eval fe X.env) [] (backTo pos (starEach (e :: es) X.env)) (backToKw pos (keywordEach [] X.env))) := by rfl)
    (he : starEach (e :: es) X.env = (false, eval e X.env) :: starEach es X.env := by rfl) (hpl : (backTo pos (starEach es X.env)).any (·.1) = false := by rfl) : PE X (.Call fe (e :: es) [] pos) (tCallOG C sp E tf t) := by
  refine ⟨fun pins s σ H Q I h => ?_⟩
  refine Call_ (thn (hf.run pins s σ H _ I h) fun u s1 ⟨y, H1, I1, ry, a, ey, q⟩ => ?_) ht
  subst ey
  obtain rfl : u = Value.ref a := ry
  refine StX.callO_with (thn (ha.run pos pins s1 σ H1 _ I1 q) fun us s2 ⟨vs, H2, I2, r, hi, q2⟩ => ?_) he hpl
  obtain ⟨ox, od, J, hd⟩ := StX.insC_at I2 (.inr hi)
  exact ⟨⟨C, ox, od, J, hd⟩, wpAny_call (PySem.W.kco_code I2.kIn J hd c.at_ c.fn c.fi (codeG (us := .ref a :: us) (vs := .ref a :: vs) F z bd hx I2 (.cons rfl r) q2))⟩
/-- e.f, a property -/
theorem pe_propG (he : PE X e ta) (c : Cls X.K C) (hp : PropOf X.K C f p g) (F : FnG gd X.prog X.w X.K X.mg X.base CX n g fd ps sp) (z : RG gd (n + 1) X.A) (hb : Binds X.K fd ps ds) (hd : Vals dvs ds) (hx : Passes CX X.nox E)
    (hab : attributeBase e f X.env (eval e X.env) = eval e X.env := by rfl) : PE X (.Attribute e f pos) (tProp C sp dvs E ta) := by
  refine ⟨fun pins s σ H Q I h => ?_⟩
  refine attr_of hab (thn (he.run pins s σ H _ I h) fun u s1 ⟨x, H1, I1, rx, a, dx, fs, ex, ea, q⟩ => ?_)
  subst ex
  obtain rfl : u = Value.ref a := rx
  obtain ⟨mA, O, _, _, _, _⟩ := ins_get I1.hok ea
  obtain ⟨od, J, _⟩ := O.look
  obtain ⟨rest, hrec⟩ := hp.rec_
  have I2 := I1.tok (s1.toks + 1)
  have hl : ([Value.ref a] ++ ds).length = ps.length := by
    rw [← F.len _ _ _ _ q]
    show ds.length + 1 = dvs.length + 1
    rw [hd.length]
  have hc : (PySem.W.clsIn X.K C).isSome = true := by
    obtain ⟨cd, hc, _⟩ := PySem.W.any_some c.hd
    rw [hc]
    rfl
  refine PySem.W.get_bind I1.kIn J (PySem.W.plainGet_of (c.get f)).1 (PySem.W.findObj_data hc hp.at_ hp.get hp.tak) (PySem.W.plainGet_of (c.get f)).2 (wpAny_call (PySem.W.prop_get (s := { s1 with toks := s1.toks + 1 }) I1.kIn hrec ?_))
  refine codeAny_mono (F.run X.A.in1 X.stack { s1 with toks := s1.toks + 1 } H1 ⟨[.ref a], []⟩ (.ref a :: ds) (.ref a :: dvs) Q E z.one I2.env0.in1 (hb _ [.ref a] I2.kIn hl) (.cons rfl hd) q) fun r s' hq => ?_
  cases r with
  | error er => exact False.elim (hx pins σ H1 { s1 with toks := s1.toks + 1 } er s' (I2.wish _) hq)
  | ok fl =>
    cases fl with
    | ret u =>
      obtain ⟨v, H', I3, rv, q3⟩ := I2.after hq
      show wpAny _ _ (handedOut u) _ _ _
      rw [PySem.W.handedOut_of (handed_of rv)]
      exact wpAny_pure ⟨v, H', I3, rv, q3⟩
    | next => exact False.elim hq
    | brk => exact False.elim hq
    | cont => exact False.elim hq
end

end L77
namespace L77
open PySem PySem.Spec PyProof.Rows L2
variable {gd : Bool}
local macro_rules | `(tactic| walk_at "y1") => `(tactic| with_reducible first
  | refine tSeq_i ?_ | refine tAsg_i ?_ | refine tCons_i ?_ | refine tNil_i ?_ | refine tC_i ?_ | refine tOp_i ?_ | refine tIfS_i ?_ | refine tTest_i ?_ | refine exBl_i ?_ | refine tRet_i ?_ | refine tCall_i ?_
  | refine tCB_i ?_ | refine tLst_i ?_ | refine tTup_i ?_ | refine rI0_i ?_ | refine tDrop_i ?_ | refine tNext_i ?_ | refine tB_i ?_ | refine tAnd_i ?_ | refine tOr_i ?_ | refine tNot_i ?_ | refine tAndV_i ?_ | refine tOrV_i ?_ | refine tNotV_i ?_
  | refine tIf_i ?_ | refine tUn_i ?_ | refine tDGet_i ?_ | refine sDPut_i ?_ | refine tFld_i ?_ | refine tRetN_i ?_ | refine tBreak_i ?_ | refine tCont_i ?_ | refine rU_i ?_)
local macro_rules | `(tactic| walk_at "yhead") => `(tactic| dsimp only [L2.start, List.map, List.length_cons, List.length_nil, Nat.reduceAdd, Nat.reduceSub, List.replicate, List.cons_append, List.nil_append])
local macro_rules | `(tactic| walk_at "y2") => `(tactic| first
  | walk_at "y1"
  | ((with_reducible refine tVar_i (v := ?v) ?h ?q); (case h => rfl))
  | ((with_reducible refine gName_i ?_); (dsimp only [List.set]))
  | ((with_reducible refine rEq_i ?h ?q); (case h => rfl)) | ((with_reducible refine rNe_i ?h ?q); (case h => rfl)))
local macro_rules | `(tactic| walk_at "y") => `(tactic| repeat walk_at "y2")

/-! readings of walks -/
/-- the object of a list (true) or a tuple (false) -/
def sq : Bool → List V → HO | true, xs => .lst xs | false, xs => .tup xs
def SqB (K : PySem.W.Frag) : Bool → Hp → Addr → List V → Prop | true, H, a, xs => SqL K H a xs | false, H, a, xs => SqT K H a xs
theorem SqB.of {K : PySem.W.Frag} : ∀ {b : Bool} {H : Hp} {a : Addr} {xs : List V}, H a = some (sq b xs) → SqB K b H a xs
  | true, _, _, _, h => SqL.of h
  | false, _, _, _, h => SqT.of h
def itB (K : PySem.W.Frag) : Bool → Addr → It | true, a => Itl K a | false, a => Itt K a
def iteB (K : PySem.W.Frag) : Bool → Addr → It | true, a => Ite K a | false, a => IteT K a
theorem walk_b {K : PySem.W.Frag} {a : Addr} {xs : List V} : ∀ {b : Bool}, Walk (itB K b a) xs.length (fun H => H a = some (sq b xs)) (YAt xs)
  | true => walk_list.mono (fun _ h => SqL.of h) fun _ _ _ _ _ _ y => y
  | false => walk_tup.mono (fun _ h => SqT.of h) fun _ _ _ _ _ _ y => y
theorem walk_eb {K : PySem.W.Frag} {a : Addr} {xs : List V} : ∀ {b : Bool}, Walk (iteB K b a) xs.length (fun H => H a = some (sq b xs)) (YPair (fun i => some (.int (i : Nat))) (fun i => xs[i]?))
  | true => walk_enum.mono (fun _ h => SqL.of h) fun _ _ _ _ _ _ y => y
  | false => walk_enumT.mono (fun _ h => SqT.of h) fun _ _ _ _ _ _ y => y
theorem same_upd {H : Hp} {p : Addr} {o : HO} (h : H p = none) : Same H (upd H p o) := fun b u e => by
  rw [upd_ne (ne_of_none e h)]; exact e
theorem same_pair {xs ys : Nat → Option V} {i : Nat} {H H' : Hp} {v : V} (y : YPair xs ys i H v H') : Same H H' := by
  obtain ⟨T, x, z, _, h, rfl, _⟩ := y
  exact same_upd h
section
variable {K : PySem.W.Frag} {σ : L2.St} {H : Hp} {D : Ends} {g : TG} {tb : TS} {te : TE} {ta : TA} {tt : TT} {vs : List Nat} {Q : VK} {J : It} {n : Nat} {G : Hp → Prop} {Y : Nat → Hp → V → Hp → Prop} {el : TE}
/-- what a for asks of its walk -/
abbrev ForR (J : It) (g : TG) (tb : TS) (D : Ends) (σ : L2.St) (H1 : Hp) : Prop := ∃ W : Nat → Nat → L2.St → Hp → Prop, (∃ m, W 0 m σ H1) ∧ ∀ i m σ H, W i m σ H →
  (J.stop i H ∧ D.nx σ H) ∨ (J.go i H ∧ ∃ N : L2.St → Hp → Prop, (∀ σ' H', N σ' H' → ∃ m', m' < m ∧ W (i + 1) m' σ' H') ∧ ∀ x H', J.yld i H x H' → g x σ H' fun σ2 H2 => tb { D with nx := N, ct := N, bk := D.nx } σ2 H2)
/-- what a comprehension asks of its walk -/
abbrev LcR (J : It) (g : TG) (tt : TT) (el : TE) (vs : List Nat) (σ : L2.St) (H1 : Hp) (Q : VK) : Prop := ∀ D, H1 D = none → ∃ W : Nat → Nat → Hp → Prop, (∃ m, W 0 m (upd H1 D (.lst []))) ∧ ∀ i m H, W i m H →
  (J.stop i H ∧ Q (.ref D) H) ∨ (J.go i H ∧ ∃ Nx : Hp → Prop, (∀ H', Nx H' → ∃ m', m' < m ∧ W (i + 1) m' H') ∧ ∀ x H', J.yld i H x H' → g x (wipe σ vs) H' fun σ2 H2 => wipe σ2 vs = wipe σ vs ∧ tt σ2 H2 fun b H3 =>
    if b = true then el σ2 H3 fun y H4 => ∃ acc, H4 D = some (.lst acc) ∧ acc.length < sizeLine ∧ Nx (upd H4 D (.lst (acc ++ [y]))) else Nx H3)
theorem for_b (b : Bool) (q : te σ H fun x H1 => ∃ a, x = .ref a ∧ (∃ xs, SqB K b H1 a xs) ∧ ForR (itB K b a) g tb D σ H1) : tFor (iAny K te) g tb D σ H := by
  cases b
  · exact .inr (.inl q)
  · exact .inl q
theorem for_eb (b : Bool) (q : te σ H fun x H1 => ∃ a xs, [x] = [.ref a] ∧ SqB K b H1 a xs ∧ ForR (iteB K b a) g tb D σ H1) : tFor (iEnum2 K te) g tb D σ H := by
  cases b
  · exact .inr q
  · exact .inl q
theorem for_s (q : te σ H fun x H1 => ∃ z, x = .str z ∧ ForR (Its z) g tb D σ H1) : tFor (iAny K te) g tb D σ H := .inr (.inr q)
theorem for_r1 (q : ta σ H fun us H1 => ∃ j : Int, us = [.int j] ∧ -(2 ^ 62) ≤ j ∧ j < 2 ^ 62 ∧ ForR (Itr 0 j.toNat) g tb D σ H1) : tFor (iRng1 ta) g tb D σ H := q
theorem lc_b (b : Bool) (q : te σ H fun x H1 => ∃ a, x = .ref a ∧ (∃ xs, SqB K b H1 a xs) ∧ LcR (itB K b a) g tt el vs σ H1 Q) : tLc (iAny K te) g tt el vs σ H Q := by
  cases b
  · exact .inr (.inl q)
  · exact .inl q
theorem lc_eb (b : Bool) (q : te σ H fun x H1 => ∃ a xs, [x] = [.ref a] ∧ SqB K b H1 a xs ∧ LcR (iteB K b a) g tt el vs σ H1 Q) : tLc (iEnum2 K te) g tt el vs σ H Q := by
  cases b
  · exact .inr q
  · exact .inl q
theorem lc_s (q : te σ H fun x H1 => ∃ z, x = .str z ∧ LcR (Its z) g tt el vs σ H1 Q) : tLc (iAny K te) g tt el vs σ H Q := .inr (.inr q)
theorem lc_r1 (q : ta σ H fun us H1 => ∃ j : Int, us = [.int j] ∧ -(2 ^ 62) ≤ j ∧ j < 2 ^ 62 ∧ LcR (Itr 0 j.toNat) g tt el vs σ H1 Q) : tLc (iRng1 ta) g tt el vs σ H Q := q
theorem lc_r2 (q : ta σ H fun us H1 => ∃ i j : Int, us = [.int i, .int j] ∧ (-(2 ^ 62) ≤ i ∧ i < 2 ^ 62 ∧ -(2 ^ 62) ≤ j ∧ j < 2 ^ 62) ∧ LcR (Itr i (j - i).toNat) g tt el vs σ H1 Q) : tLc (iRng2 ta) g tt el vs σ H Q := q
theorem paired_append {α β : Type} {F : α → β → Prop} : ∀ {xs : List α} {ys : List β} {us : List α} {ws : List β}, Paired F xs ys → Paired F us ws → Paired F (xs ++ us) (ys ++ ws)
  | _, _, _, _, .nil, s => s
  | _, _, _, _, .cons r t, s => .cons r (paired_append t s)
/-- all but the lists stays -/
def SameT (H H' : Hp) : Prop := ∀ b o, H b = some o → (∀ xs, o ≠ .lst xs) → H' b = some o
theorem sT {H H' : Hp} (s : Same H H') : SameT H H' := fun b o e _ => s b o e
theorem sameT_upd {H : Hp} {p : Addr} {xs : List V} {o : HO} (h : H p = some (.lst xs)) : SameT H (upd H p o) := fun b u e n => by
  rw [upd_ne (fun z => by rw [z, h] at e; exact n xs (Option.some.inj e).symm)]; exact e
/-- a reading of a value that leans on no list -/
def Firm {α : Type} (ρ : Hp → V → α → Prop) : Prop := ∀ H H' v a, SameT H H' → ρ H v a → ρ H' v a
theorem Firm.all {α : Type} {ρ : Hp → V → α → Prop} (f : Firm ρ) {H H' : Hp} (s : SameT H H') {vs : List V} {as : List α} (h : Paired (ρ H) vs as) : Paired (ρ H') vs as := h.mono fun v a r => f _ _ _ _ s r
/-- a comprehension whose turns leave all that stands: what it gives is told by f and ρ -/
theorem lc_pure {α : Type} (w : Walk J n G Y) (hn : n ≤ sizeLine) (f : Nat → Option α) {ρ : Hp → V → α → Prop} (hρ : Firm ρ) (hG : ∀ H', Same H H' → G H') (hY : ∀ i H x H', Y i H x H' → Same H H')
    (hs : ∀ i x H0 H', i < n → Same H H0 → Same H H' → Y i H0 x H' → ∀ (N : Hp → Prop) (C : VK), (∀ y H4 a, Same H' H4 → f i = some a → ρ H4 y a → C y H4) → (f i = none → ∀ H3, Same H' H3 → N H3) →
      g x (wipe σ vs) H' fun σ2 H2 => wipe σ2 vs = wipe σ vs ∧ tt σ2 H2 fun b H3 => if b = true then el σ2 H3 C else N H3)
    (hd : ∀ D H' vs, H D = none → Same H H' → H' D = some (.lst vs) → Paired (ρ H') vs ((List.range n).filterMap f) → Q (.ref D) H') :
    LcR J g tt el vs σ H Q := by
  intro D hD
  have up : ∀ {H' : Hp} {o : HO}, Same H H' → Same H (upd H' D o) := fun s b o e => by rw [upd_ne (ne_of_none e hD)]; exact s b o e
  refine lc_it w (Pv := fun i H' => Same H H' ∧ ∃ us, H' D = some (.lst us) ∧ Paired (ρ H') us ((List.range i).filterMap f)) ⟨up (Same.refl H), [], upd_same, .nil⟩ (fun i H' _ p => hG H' p.1) (fun i x H0 H' hi p y => ?_) fun H' p => ?_
  · obtain ⟨s0, us, hu, pr⟩ := p
    have sY := hY i H0 x H' y
    have s1 := s0.trans sY
    have lenU : us.length ≤ i := by
      rw [pr.length]
      exact Nat.le_trans (List.length_filterMap_le ..) (by simp)
    refine hs i x H0 H' hi s0 s1 y _ _ (fun v H4 a s4 fa ra => ?_) fun fn H3 s3 => ?_
    · have hu4 := s4 _ _ (sY _ _ hu)
      have sD : SameT H4 (upd H4 D (.lst (us ++ [v]))) := sameT_upd hu4
      refine ⟨us, hu4, by omega, up (s1.trans s4), us ++ [v], upd_same, ?_⟩
      rw [List.range_succ, List.filterMap_append]
      simp only [List.filterMap_cons, fa, List.filterMap_nil]
      exact paired_append (hρ.all sD (hρ.all (sT (sY.trans s4)) pr)) (.cons (hρ _ _ _ _ sD ra) .nil)
    · refine ⟨s1.trans s3, us, s3 _ _ (sY _ _ hu), ?_⟩
      rw [List.range_succ, List.filterMap_append]
      simp only [List.filterMap_cons, fn, List.filterMap_nil, List.append_nil]
      exact hρ.all (sT (sY.trans s3)) pr
  · obtain ⟨s0, us, hu, pr⟩ := p
    exact hd D H' us hD s0 hu pr
end
/-- the value itself -/
def FR {α : Type} (f : α → V) : Hp → V → α → Prop := fun _ v a => v = f a
theorem firm_FR {α : Type} (f : α → V) : Firm (FR f) := fun _ _ _ _ _ h => h
/-- a tuple that stands -/
def TR {α : Type} (f : α → List V) : Hp → V → α → Prop := fun H v a => ∃ p, v = .ref p ∧ H p = some (.tup (f a))
theorem firm_TR {α : Type} (f : α → List V) : Firm (TR f) := fun _ _ _ _ s h => let ⟨p, e, k⟩ := h; ⟨p, e, s _ _ k fun _ z => nomatch z⟩
theorem paired_FR {α : Type} {f : α → V} {H : Hp} : ∀ {vs : List V} {as : List α}, Paired (FR f H) vs as → vs = as.map f
  | _, _, .nil => rfl
  | _, _, .cons h t => by rw [paired_FR t, h]; rfl
theorem FR_paired {α : Type} {f : α → V} {H : Hp} : ∀ {as : List α}, Paired (FR f H) (as.map f) as
  | [] => .nil
  | _ :: _ => .cons rfl FR_paired
theorem paired_at {α β : Type} {F : α → β → Prop} : ∀ {xs : List α} {ys : List β}, Paired F xs ys → ∀ {i : Nat} {y : β}, ys[i]? = some y → ∃ x, xs[i]? = some x ∧ F x y
  | _, _, .nil, _, _, h => by simp at h
  | _, _, .cons r _, 0, _, h => by simp at h; subst h; exact ⟨_, rfl, r⟩
  | _, _, .cons _ t, i + 1, _, h => by
    obtain ⟨x, h1, h2⟩ := paired_at t (i := i) (by simpa using h)
    exact ⟨x, by simpa using h1, h2⟩
theorem paired_of {α β : Type} {F : α → β → Prop} {xs : List α} {ys : List β} (h : Paired F xs ys) {i : Nat} {x : α} (e : xs[i]? = some x) : ∃ y, ys[i]? = some y ∧ F x y := by
  have hl := h.length
  obtain ⟨hi, _⟩ := List.getElem?_eq_some_iff.mp e
  have h1 : i < ys.length := by omega
  obtain ⟨x', h2, h3⟩ := paired_at h (i := i) (y := ys[i]) (List.getElem?_eq_getElem h1)
  rw [e] at h2
  exact ⟨_, List.getElem?_eq_getElem h1, by rw [Option.some.inj h2]; exact h3⟩

end L77
namespace L77
open PySem PySem.Spec PyProof.Rows L2
variable {gd : Bool}
local macro_rules | `(tactic| walk_at "y1") => `(tactic| with_reducible first
  | refine tSeq_i ?_ | refine tAsg_i ?_ | refine tCons_i ?_ | refine tNil_i ?_ | refine tC_i ?_ | refine tOp_i ?_ | refine tIfS_i ?_ | refine tTest_i ?_ | refine exBl_i ?_ | refine tRet_i ?_ | refine tCall_i ?_
  | refine tCB_i ?_ | refine tLst_i ?_ | refine tTup_i ?_ | refine rI0_i ?_ | refine tDrop_i ?_ | refine tNext_i ?_ | refine tB_i ?_ | refine tAnd_i ?_ | refine tOr_i ?_ | refine tNot_i ?_ | refine tAndV_i ?_ | refine tOrV_i ?_ | refine tNotV_i ?_
  | refine tIf_i ?_ | refine tUn_i ?_ | refine tDGet_i ?_ | refine sDPut_i ?_ | refine tFld_i ?_ | refine tRetN_i ?_ | refine tBreak_i ?_ | refine tCont_i ?_ | refine rU_i ?_)
local macro_rules | `(tactic| walk_at "yhead") => `(tactic| dsimp only [L2.start, List.map, List.length_cons, List.length_nil, Nat.reduceAdd, Nat.reduceSub, List.replicate, List.cons_append, List.nil_append])
local macro_rules | `(tactic| walk_at "y2") => `(tactic| first
  | walk_at "y1"
  | ((with_reducible refine tVar_i (v := ?v) ?h ?q); (case h => rfl))
  | ((with_reducible refine gName_i ?_); (dsimp only [List.set]))
  | ((with_reducible refine rEq_i ?h ?q); (case h => rfl)) | ((with_reducible refine rNe_i ?h ?q); (case h => rfl)))
local macro_rules | `(tactic| walk_at "y") => `(tactic| repeat walk_at "y2")

/-! the readings of the operations by kinds -/
section
variable {K : PySem.W.Frag} {σ : L2.St} {H : Hp} {Q : VK} {x y v : V} {i j : Int} {p a : Addr} {xs ys : List V}
theorem rAdd2_i (q : Q (.int (i + j)) H) : rAdd2 K (.int i) (.int j) H Q := .inl ⟨i, j, rfl, rfl, q⟩
theorem rAdd2_l {zs : List V} {b : Addr} (h1 : H a = some (.lst xs)) (h2 : H b = some (.lst zs)) (hz : xs.length + zs.length ≤ sizeLine) (q : ∀ p, H p = none → Q (.ref p) (upd H p (.lst (xs ++ zs)))) : rAdd2 K (.ref a) (.ref b) H Q :=
  .inr (.inr (.inl ⟨a, b, xs, zs, rfl, rfl, h1, h2, hz, q⟩))
theorem rMul2_i (c : CMul i j) (q : Q (.int (i * j)) H) : rMul2 K (.int i) (.int j) H Q := .inl ⟨i, j, rfl, rfl, c, q⟩
theorem rEq2_s (h : scal x y = true) (q : Q (.bl (decide (x = y))) H) : rEq2 K x y H Q := .inl ⟨h, q⟩
theorem rNe2_s (h : scal x y = true) (q : Q (.bl (!decide (x = y))) H) : rNe2 K x y H Q := .inl ⟨h, q⟩
theorem rEq2_d {d e : PyData} (h1 : Dp K H x d) (h2 : Dp K H y e) (s1 : SeqAt.shaped d = true) (s2 : SeqAt.shaped e = true) (q : Q (.bl (PyData.eqv d e)) H) : rEq2 K x y H Q := .inr ⟨d, e, h1, h2, s1, s2, q⟩
theorem rNe2_d {d e : PyData} (h1 : Dp K H x d) (h2 : Dp K H y e) (s1 : SeqAt.shaped d = true) (s2 : SeqAt.shaped e = true) (q : Q (.bl (!PyData.eqv d e)) H) : rNe2 K x y H Q := .inr ⟨d, e, h1, h2, s1, s2, q⟩
theorem rEq2_i (q : Q (.bl (decide (i = j))) H) : rEq2 K (.int i) (.int j) H Q := .inl ⟨rfl, by rw [show decide (V.int i = V.int j) = decide (i = j) by simp]; exact q⟩
theorem rEq2_ss {s t : Str} (q : Q (.bl (decide (s = t))) H) : rEq2 K (.str s) (.str t) H Q := .inl ⟨rfl, by rw [show decide (V.str s = V.str t) = decide (s = t) by simp]; exact q⟩
theorem rNe2_i (q : Q (.bl (!decide (i = j))) H) : rNe2 K (.int i) (.int j) H Q := .inl ⟨rfl, by rw [show decide (V.int i = V.int j) = decide (i = j) by simp]; exact q⟩
theorem rNe2_ss {s t : Str} (q : Q (.bl (!decide (s = t))) H) : rNe2 K (.str s) (.str t) H Q := .inl ⟨rfl, by rw [show decide (V.str s = V.str t) = decide (s = t) by simp]; exact q⟩
def rIsN : R2 := fun x y H Q => y = .non ∧ Q (.bl (decide (x = .non))) H
def rNotN : R2 := fun x y H Q => y = .non ∧ Q (.bl (!decide (x = .non))) H
theorem rIsN_i (q : Q (.bl (decide (x = .non))) H) : rIsN x .non H Q := ⟨rfl, q⟩
theorem rNotN_i (q : Q (.bl (!decide (x = .non))) H) : rNotN x .non H Q := ⟨rfl, q⟩
theorem rLe2_i (q : Q (.bl (decide (i ≤ j))) H) : rLe2 (.int i) (.int j) H Q := .inl ⟨i, j, rfl, rfl, q⟩
theorem rLe2_s {s t : Str} (q : Q (.bl (!decide (t.cps.toList < s.cps.toList))) H) : rLe2 (.str s) (.str t) H Q := .inr ⟨s, t, rfl, rfl, q⟩
theorem iteNT {A B : Prop} (h : B) : if (!true) = true then A else B := by rw [if_neg (by decide)]; exact h
theorem iteNF {A B : Prop} (h : A) : if (!false) = true then A else B := by rw [if_pos (by decide)]; exact h
theorem iteDT {p A B : Prop} [Decidable p] (h : p) (q : A) : if decide p = true then A else B := by rw [if_pos (decide_eq_true h)]; exact q
theorem iteDF {p A B : Prop} [Decidable p] (h : ¬ p) (q : B) : if decide p = true then A else B := by rw [if_neg (by rw [decide_eq_false h]; decide)]; exact q
theorem iteNDT {p A B : Prop} [Decidable p] (h : p) (q : B) : if (!decide p) = true then A else B := by rw [if_neg (by rw [decide_eq_true h]; decide)]; exact q
theorem iteNDF {p A B : Prop} [Decidable p] (h : ¬ p) (q : A) : if (!decide p) = true then A else B := by rw [if_pos (by rw [decide_eq_false h]; rfl)]; exact q
theorem le1 {a b : Nat} : (!decide (([b] : List Nat) < [a])) = decide (a ≤ b) := by
  by_cases h : a ≤ b
  · rw [decide_eq_true h]
    have : ¬ (([b] : List Nat) < [a]) := by simp [List.cons_lt_cons_iff]; omega
    simp [this]
  · rw [decide_eq_false h]
    have : (([b] : List Nat) < [a]) := by simp [List.cons_lt_cons_iff]; omega
    simp [this]
theorem rLe2_c1 {s : Str} {n c : Nat} (h : s.cps.toList = [n]) (q : Q (.bl (decide (n ≤ c))) H) : rLe2 (.str s) (.str ⟨#[c]⟩) H Q := rLe2_s (by rw [h]; rw [← le1] at q; exact q)
theorem rLe2_c2 {s : Str} {n c : Nat} (h : s.cps.toList = [n]) (q : Q (.bl (decide (c ≤ n))) H) : rLe2 (.str ⟨#[c]⟩) (.str s) H Q := rLe2_s (by rw [h]; rw [← le1] at q; exact q)
theorem rGet_l {n : Nat} {k : Int} (h : SqL K H a xs) (e : xs[n]? = some v) (q : Q v H) (hk : k = n := by rfl) : rGet K (.ref a) (.int k) H Q := by
  subst hk
  exact .inl (.inl ⟨a, xs, n, v, rfl, rfl, h, atI_nat e, q⟩)
theorem rGet_t {n : Nat} {k : Int} (h : SqT K H a xs) (e : xs[n]? = some v) (q : Q v H) (hk : k = n := by rfl) : rGet K (.ref a) (.int k) H Q := by
  subst hk
  exact .inl (.inr (.inl ⟨a, xs, n, v, rfl, rfl, h, atI_nat e, q⟩))
theorem rGet_b {b : Bool} {n : Nat} {k : Int} (h : SqB K b H a xs) (e : xs[n]? = some v) (q : Q v H) (hk : k = n := by rfl) : rGet K (.ref a) (.int k) H Q := by
  cases b
  · exact rGet_t h e q hk
  · exact rGet_l h e q hk
theorem rGet_at {k : Int} (h : SqL K H a xs) (e : atI xs k = some v) (q : Q v H) : rGet K (.ref a) (.int k) H Q := .inl (.inl ⟨a, xs, k, v, rfl, rfl, h, e, q⟩)
theorem rGet_s {s : Str} {n : Nat} {k : Int} {c : Nat} (hz : s.length ≤ sizeLine) (e : s.cps.toList[n]? = some c) (q : Q (.str ⟨#[c]⟩) H) (hk : k = n := by rfl) : rGet K (.str s) (.int k) H Q := by
  subst hk
  exact .inl (.inr (.inr ⟨s, n, c, rfl, rfl, hz, atI_nat e, q⟩))
theorem rGet_d {kvs : List (Key × V)} {k : Key} (h : H a = some (.dK kvs)) (e : valV kvs k = some v) (q : Q v H) (hy : y = kV k := by rfl) : rGet K (.ref a) y H Q :=
  .inr ⟨a, v, rfl, by rw [hy, ← e]; exact DGet.k h, q⟩
theorem rIn2_f {b : Bool} (h : SqB K b H p xs) (fx : flatV x = true) (f : xs.all flatV = true) (q : Q (.bl (inV x xs)) H) : rIn2 K x (.ref p) H Q :=
  .inl ⟨p, xs, rfl, by cases b; exact .inr h; exact .inl h, fx, f, q⟩
theorem rNotIn2_f {b : Bool} (h : SqB K b H p xs) (fx : flatV x = true) (f : xs.all flatV = true) (q : Q (.bl (!inV x xs)) H) : rNotIn2 K x (.ref p) H Q :=
  .inl ⟨p, xs, rfl, by cases b; exact .inr h; exact .inl h, fx, f, q⟩
theorem rNotIn2_d {d : PyData} {ds : List PyData} (h1 : Dp K H x d) (h2 : Dp K H y (.list ds)) (s1 : SeqAt.shaped d = true) (s2 : SeqAt.shaped (.list ds) = true) (q : Q (.bl (!ds.any fun z => PyData.eqv z d)) H) : rNotIn2 K x y H Q :=
  .inr (.inl ⟨d, ds, h1, h2, s1, s2, q⟩)
theorem rLen2_b {b : Bool} (h : SqB K b H p xs) (q : Q (.int xs.length) H) : rLen2 K [.ref p] H Q :=
  ⟨.ref p, xs.length, rfl, by cases b; exact .inr ⟨xs, h, rfl⟩; exact .inl ⟨xs, h, rfl⟩, q⟩
theorem rLen2_l {n : Nat} (h : SqL K H p xs) (q : Q (.int n) H) (hn : xs.length = n := by rfl) : rLen2 K [.ref p] H Q := by subst hn; exact rLen2_b (b := true) h q
theorem rLen2_t {n : Nat} (h : SqT K H p xs) (q : Q (.int n) H) (hn : xs.length = n := by rfl) : rLen2 K [.ref p] H Q := by subst hn; exact rLen2_b (b := false) h q
theorem rLen2_s {s : Str} (hz : s.length ≤ sizeLine) (q : Q (.int s.length) H) : rLen2 K [.str s] H Q := ⟨.str s, s.length, rfl, ⟨hz, rfl⟩, q⟩
/-- isinstance of a value of a built-in type -/
theorem rIsi2_1 {T U : String} {b : Bool} (ty : TyX K H x (.type T)) (h : kitB T U = some b) (q : Q (.bl b) H) : rIsi2 K [x, .ty U] H Q := .inl ⟨x, .ty U, .type T, .type U, b, rfl, .ty U, ty, kit_ty h, q⟩
theorem rIsi2_2 {T U U2 : String} {b b2 : Bool} (ty : TyX K H x (.type T)) (hp : H p = some (.tup [.ty U, .ty U2])) (h : kitB T U = some b) (h2 : kitB T U2 = some b2) (q : Q (.bl (b || b2)) H) : rIsi2 K [x, .ref p] H Q :=
  .inr ⟨x, p, [.ty U, .ty U2], .type T, [.type U, .type U2], b || b2, rfl, hp, .cons (.ty U) (.cons (.ty U2) .nil), ty,
    kitAny_cons (kit_ty h) (fun e => by rw [e, Bool.false_or]; exact kitAny_cons (kit_ty h2) (fun e2 => by rw [e2]; exact kitAny_nil) (fun e2 => e2)) (fun e => by rw [e, Bool.true_or]), q⟩
theorem ty_str {s : Str} : TyX K H (.str s) (.type "str") := .base (.str s)
theorem ty_int {i : Int} : TyX K H (.int i) (.type "int") := .base (.int i)
theorem ty_bl {b : Bool} : TyX K H (.bl b) (.type "bool") := .base (.bl b)
theorem ty_non : TyX K H .non (.type "NoneType") := .base .non
theorem ty_lst (h : H a = some (.lst xs)) : TyX K H (.ref a) (.type "list") := .base (.lst h)
theorem ty_tup (h : H a = some (.tup xs)) : TyX K H (.ref a) (.type "tuple") := .base (.tup h)
theorem tTup_i2 {tl : TA} (q : tl σ H fun xs H1 => xs.length ≤ sizeLine ∧ ∀ p, H1 p = none → Q (.ref p) (upd H1 p (.tup xs))) : tTup tl σ H Q := q
/-- a chain of two comparisons -/
theorem gCons_i {t : TG} {u : TGs} {r : List V} {Q : L2.St → Hp → Prop} (q : t v σ H fun σ' H' => u r σ' H' Q) : gCons t u (v :: r) σ H Q := ⟨v, r, rfl, q⟩
theorem gNil_i {Q : L2.St → Hp → Prop} (q : Q σ H) : gNil [] σ H Q := ⟨rfl, q⟩
theorem gTup_i {n : Nat} {t : TGs} {Q : L2.St → Hp → Prop} (h : SqT K H a xs) (q : t xs σ H Q) (hn : xs.length = n := by rfl) : gTup K n t (.ref a) σ H Q := ⟨a, xs, rfl, h, hn, q⟩
theorem gStar_i {n i : Nat} {t : TGs} {Q : L2.St → Hp → Prop} (h : SqT K H a xs) (hn : n ≤ xs.length + 1) (q : ∀ d, H d = none → t (xs.take i ++ V.ref d :: (xs.drop i).drop (xs.length + 1 - n)) σ (upd H d (.lst ((xs.drop i).take (xs.length + 1 - n)))) Q) : gStar K n i t (.ref a) σ H Q := ⟨a, xs, rfl, h, hn, q⟩
theorem gStar_2 {x : V} {r : List V} {t : TGs} {Q : L2.St → Hp → Prop} (h : SqT K H a (x :: r)) (q : ∀ d, H d = none → t [x, .ref d] σ (upd H d (.lst r)) Q) : gStar K 2 1 t (.ref a) σ H Q :=
  ⟨a, _, rfl, h, by simp, fun d hd => by simpa using q d hd⟩
theorem gStar_3 {x y : V} {r : List V} {t : TGs} {Q : L2.St → Hp → Prop} (h : SqT K H a (x :: y :: r)) (q : ∀ d, H d = none → t [x, y, .ref d] σ (upd H d (.lst r)) Q) : gStar K 3 2 t (.ref a) σ H Q :=
  ⟨a, _, rfl, h, by simp, fun d hd => by simpa using q d hd⟩
theorem nv1 {i : Int} : ¬ (V.int i = V.non) := fun z => nomatch z
theorem nv2 {i : Str} : ¬ (V.str i = V.non) := fun z => nomatch z
theorem nv3 {i : Addr} : ¬ (V.ref i = V.non) := fun z => nomatch z
theorem nv4 {i : Bool} : ¬ (V.bl i = V.non) := fun z => nomatch z
theorem ltB {n m : Nat} (h : Nat.blt n m = true) : n < m := Nat.blt_eq.mp h
theorem sFld_i {tv ta : TE} {f : Str} {D : Ends} (q : tv σ H fun y H1 => ta σ H1 fun x H2 => ∃ a C dx fs, x = .ref a ∧ H2 a = some (.ins C dx fs) ∧ Cls K C ∧ NoAttr K C f ∧ fs.length < 1000 ∧ D.nx σ (upd H2 a (.ins C dx (putF f y fs)))) : sFld K ta tv f D σ H := q
theorem fst_i {N : L2.St → Hp → Prop} {f : Str} {C dx : Addr} {fs : List (Str × V)} (h : H a = some (.ins C dx fs)) (c : Cls K C) (n : NoAttr K C f) (hl : fs.length < 1000) (q : N σ (upd H a (.ins C dx (putF f y fs)))) :
    ∃ a' C dx fs, V.ref a = .ref a' ∧ H a' = some (.ins C dx fs) ∧ Cls K C ∧ NoAttr K C f ∧ fs.length < 1000 ∧ N σ (upd H a' (.ins C dx (putF f y fs))) := ⟨a, C, dx, fs, rfl, h, c, n, hl, q⟩
theorem fldaug_i {ta tv : TE} {f : Str} {D : Ends} {rd : V → V → Hp → VK → Prop} (q : ta σ H fun x H1 => ∃ a C dx fs v, x = .ref a ∧ H1 a = some (.ins C dx fs) ∧ Cls K C ∧ NoAttr K C f ∧ fs.lookup f = some v ∧
  tv σ H1 fun y H2 => rd v y H2 fun z H3 => ∃ dx' fs', H3 a = some (.ins C dx' fs') ∧ fs'.length < 1000 ∧ D.nx σ (upd H3 a (.ins C dx' (putF f z fs')))) : sFldAug K ta tv rd f D σ H := q
/-- e.f += an int, the field an int -/
theorem faug_i {N : L2.St → Hp → Prop} {tv : TE} {f : Str} {C dx : Addr} {fs : List (Str × V)} {k : Int} (h : H a = some (.ins C dx fs)) (c : Cls K C) (n : NoAttr K C f) (hl : fs.length < 1000) (e : fs.lookup f = some (.int k)) (q : tv σ H fun y H2 => ∃ j, y = .int j ∧ H2 = H ∧ N σ (upd H a (.ins C dx (putF f (.int (k + j)) fs))))
    (mono : ∀ {A B : VK}, (∀ v H, A v H → B v H) → tv σ H A → tv σ H B) :
    ∃ a' C dx fs v, V.ref a = .ref a' ∧ H a' = some (.ins C dx fs) ∧ Cls K C ∧ NoAttr K C f ∧ fs.lookup f = some v ∧ tv σ H fun y H2 => rAdd v y H2 fun z H3 => ∃ dx' fs', H3 a' = some (.ins C dx' fs') ∧ fs'.length < 1000 ∧ N σ (upd H3 a' (.ins C dx' (putF f z fs'))) :=
  ⟨a, C, dx, fs, _, rfl, h, c, n, e, mono (fun y H2 ⟨j, ey, eH, q⟩ => by subst ey eH; exact ⟨k, j, rfl, rfl, dx, fs, h, hl, q⟩) q⟩
/-- e.f += a written int -/
theorem faugC_i {N : L2.St → Hp → Prop} {f : Str} {C dx : Addr} {fs : List (Str × V)} {k : Int} (h : H a = some (.ins C dx fs)) (c : Cls K C) (n : NoAttr K C f) (hl : fs.length < 1000) (e : fs.lookup f = some (.int k)) (q : N σ (upd H a (.ins C dx (putF f (.int (k + j)) fs)))) :
    ∃ a' C dx fs v, V.ref a = .ref a' ∧ H a' = some (.ins C dx fs) ∧ Cls K C ∧ NoAttr K C f ∧ fs.lookup f = some v ∧ tC (.int j) σ H fun y H2 => rAdd v y H2 fun z H3 => ∃ dx' fs', H3 a' = some (.ins C dx' fs') ∧ fs'.length < 1000 ∧ N σ (upd H3 a' (.ins C dx' (putF f z fs'))) :=
  ⟨a, C, dx, fs, _, rfl, h, c, n, e, k, j, rfl, rfl, dx, fs, h, hl, q⟩
/-- the same, the heap behind it told by what stands there -/
theorem fld_j {N : V → Prop} {f : Str} {C dx : Addr} {fs : List (Str × V)} (h : H a = some (.ins C dx fs)) (c : Cls K C) (n : NoAttr K C f) (e : fs.lookup f = some v) (q : N v) :
    ∃ (a' C dx : Addr) (fs : List (Str × V)) (v : V), V.ref a = .ref a' ∧ H a' = some (.ins C dx fs) ∧ Cls K C ∧ NoAttr K C f ∧ fs.lookup f = some v ∧ N v := ⟨a, C, dx, fs, v, rfl, h, c, n, e, q⟩
theorem fstU_i {N : L2.St → Hp → Prop} {f : Str} {C dx : Addr} {fs fs' : List (Str × V)} (h : H a = some (.ins C dx fs)) (c : Cls K C) (n : NoAttr K C f) (hl : fs.length < 1000) (e : putF f y fs = fs') (q : ∀ H2, H2 a = some (.ins C dx fs') → (∀ b, b ≠ a → H2 b = H b) → N σ H2) :
    ∃ a' C dx fs, V.ref a = .ref a' ∧ H a' = some (.ins C dx fs) ∧ Cls K C ∧ NoAttr K C f ∧ fs.length < 1000 ∧ N σ (upd H a' (.ins C dx (putF f y fs))) := ⟨a, C, dx, fs, rfl, h, c, n, hl, q _ (by rw [upd_same, e]) fun b nb => upd_ne nb⟩
theorem faugU_i {N : L2.St → Hp → Prop} {f : Str} {C dx : Addr} {fs fs' : List (Str × V)} {k : Int} (h : H a = some (.ins C dx fs)) (c : Cls K C) (n : NoAttr K C f) (hl : fs.length < 1000) (e : fs.lookup f = some (.int k)) (e2 : putF f (.int (k + j)) fs = fs') (q : ∀ H2, H2 a = some (.ins C dx fs') → (∀ b, b ≠ a → H2 b = H b) → N σ H2) :
    ∃ a' C dx fs v, V.ref a = .ref a' ∧ H a' = some (.ins C dx fs) ∧ Cls K C ∧ NoAttr K C f ∧ fs.lookup f = some v ∧ tC (.int j) σ H fun y H2 => rAdd v y H2 fun z H3 => ∃ dx' fs', H3 a' = some (.ins C dx' fs') ∧ fs'.length < 1000 ∧ N σ (upd H3 a' (.ins C dx' (putF f z fs'))) :=
  ⟨a, C, dx, fs, _, rfl, h, c, n, e, k, j, rfl, rfl, dx, fs, h, hl, q _ (by rw [upd_same, e2]) fun b nb => upd_ne nb⟩
theorem gStar_2U {x : V} {r : List V} {t : TGs} {Q : L2.St → Hp → Prop} (h : SqT K H a (x :: r)) (q : ∀ d H2, H d = none → H2 d = some (.lst r) → Same H H2 → t [x, .ref d] σ H2 Q) : gStar K 2 1 t (.ref a) σ H Q :=
  gStar_2 h fun d hd => q d _ hd upd_same (same_upd hd)
theorem gStar_3U {x y : V} {r : List V} {t : TGs} {Q : L2.St → Hp → Prop} (h : SqT K H a (x :: y :: r)) (q : ∀ d H2, H d = none → H2 d = some (.lst r) → Same H H2 → t [x, y, .ref d] σ H2 Q) : gStar K 3 2 t (.ref a) σ H Q :=
  gStar_3 h fun d hd => q d _ hd upd_same (same_upd hd)
/-- something new -/
theorem newU {n : Nat} {o : HO} (q : ∀ d H2, H d = none → H2 d = some o → Same H H2 → Q (.ref d) H2) (hn : n ≤ 1000 := by decide) : n ≤ sizeLine ∧ ∀ p, H p = none → Q (.ref p) (upd H p o) := ⟨sz4 hn, fun p hp => q p _ hp upd_same (same_upd hp)⟩
theorem tMake_i {C : Addr} {sp : Sp} {dvs : List V} {E : XK} {t : TA} (q : t σ H fun vs H1 => ∀ x dx, H1 x = none → H1 dx = none → dx ≠ x → sp (.ref x :: (vs ++ dvs)) (upd (upd H1 dx (.own x)) x (.ins C dx [])) (fun v H2 => v = .non ∧ Q (.ref x) H2) E) : tMake C sp dvs E t σ H Q := q
theorem tProp_i {C : Addr} {sp : Sp} {dvs : List V} {E : XK} {ta : TE} (q : ta σ H fun x H1 => ∃ a dx fs, x = .ref a ∧ H1 a = some (.ins C dx fs) ∧ sp (.ref a :: dvs) H1 Q E) : tProp C sp dvs E ta σ H Q := q
theorem tCallOG_i {C : Addr} {sp : Sp} {E : XK} {tf : TE} {t : TA} (q : tf σ H fun y H1 => ∃ a, y = V.ref a ∧ t σ H1 fun vs H2 => (∃ dx fs, H2 a = some (.ins C dx fs)) ∧ sp (V.ref a :: vs) H2 Q E) : tCallOG C sp E tf t σ H Q := q
theorem tYes_i {Q : Bool → Hp → Prop} (q : Q true H) : tYes σ H Q := q
theorem tChain_i {r r' : R2} {ta tb tc : TE} (q : ta σ H fun x H1 => tb σ H1 fun y H2 => r x y H2 fun z H3 => ∃ k, z = .bl k ∧ if k = true then tc σ H3 fun u H4 => r' y u H4 Q else Q (.bl false) H3) : tChain r r' ta tb tc σ H Q := q
theorem tBM_i {T : String} {r : V → List V → Hp → VK → Prop} {to : TE} {t : TA} (q : to σ H fun x H1 => tyV K T x H1 ∧ t σ H1 fun xs H2 => r x xs H2 Q) : tBM K T r to t σ H Q := q
theorem app_i (h : H a = some (.lst xs)) (hz : xs.length < sizeLine) (q : Q .non (upd H a (.lst (xs ++ [y])))) : rAppend (.ref a) [y] H Q := ⟨a, xs, y, rfl, rfl, h, hz, q⟩
theorem appU_i (h : H a = some (.lst xs)) (hz : xs.length < sizeLine) (q : ∀ H2, H2 a = some (.lst (xs ++ [y])) → (∀ b, b ≠ a → H2 b = H b) → Q .non H2) : rAppend (.ref a) [y] H Q := app_i h hz (q _ upd_same fun b nb => upd_ne nb)
theorem tyL (h : H a = some (.lst xs)) : tyV K "list" (.ref a) H := .inl ⟨rfl, _, SqL.of h⟩
theorem SqB.same {b : Bool} {H' : Hp} (h : SqB K b H p xs) (s : Same H H') : SqB K b H' p xs := by
  cases b
  · rcases (show SqT K H p xs from h) with (h | ⟨o, h⟩) | h
    · exact .inl (.inl (s _ _ h))
    · exact .inl (.inr ⟨o, s _ _ h⟩)
    · exact .inr h
  · exact Same.seq s (show SqL K H p xs from h)
theorem SqT.frz {o : Obj} (h : H p = some (.frz o (.tup xs))) : SqT K H p xs := .inl (.inr ⟨o, h⟩)
/-- tuple(a list): the new one's object told -/
def rTupF (K : PySem.W.Frag) : List V → Hp → VK → Prop := fun xs H Q => ∃ p ys, xs = [.ref p] ∧ SqL K H p ys ∧ ∀ l o, H l = none → o.cls = .type "tuple" → o.dict = none → Q (.ref l) (upd H l (.frz o (.tup ys)))
end
section
variable {X : Cx}
theorem call_tupF : CallR X (.type "tuple") (rTupF X.K) := by
  intro pins s σ H xs us Q I r h
  obtain ⟨p, ys, rfl, hq, q⟩ := h
  obtain ⟨u, rfl, rx⟩ := vals1 r
  cases rx
  obtain ⟨its, r', pl, hz⟩ := I.list hq
  have hlen := r'.length
  refine call_tuple_list pl.isList (fun h' kp => ?_) (by simp only [List.size_toArray] <;> omega)
  have I1 : Inv X pins σ H { s with heap := h' } := I.kept (t' := s.toks) kp
  have I2 : Inv X pins σ (upd H h'.objs.size (.frz { cls := .type "tuple", data := .seq its.toArray } (.tup ys))) { s with heap := h'.push { cls := .type "tuple", data := .seq its.toArray } } :=
    I1.laid (t' := s.toks) (fun b o e => Heap.get?_push_of_some _ e) (Nat.le_refl _) (show ObjOk X.prog X.w _ _ _ (.frz _ (.tup ys)) from ⟨Heap.get?_push_size _ rfl, hz, its, r', IsTup.new _ _⟩)
  exact ⟨.ref h'.objs.size, _, I2, rfl, q _ _ (I1.hok.fresh (Nat.le_refl _)) rfl rfl⟩
/-- t.m(e), t a tuple whose object is told -/
def tTM (K : PySem.W.Frag) (r : V → List V → Hp → VK → Prop) (to : TE) (t : TA) : TE := fun σ H Q => to σ H fun x H1 => (∃ a o xs, x = .ref a ∧ H1 a = some (.frz o (.tup xs)) ∧ o.cls = .type "tuple" ∧ o.dict = none) ∧ t σ H1 fun xs H2 => r x xs H2 Q
theorem pe_tm {o e : Expr} {es : List Expr} {to : TE} {t : TA} {name : Str} {apos cpos : Pos} {id : String} {r : V → List V → Hp → VK → Prop} (slot : Slot "tuple" name id) (hty : typeOf (.builtin id) = pure (.type "method_descriptor")) (hm : MtR X id r) (ho : PE X o to) (ha : PA X (e :: es) t)
    (hbase : attributeBase o name X.env (eval o X.env) = eval o X.env := by rfl)
    (hfew : ((backTo cpos (starEach (e :: es) X.env)).all (fun x => !x.1) && (backToKw cpos (keywordEach [] X.env)).all (fun x => x.1.isSome)
      && decide ((e :: es).length + ([] : List Keyword).length + (if ([] : List Keyword).isEmpty then 0 else 1) < 30)) = true := by rfl)
    (hline : (apos.endLine == cpos.line) = true := by rfl) (hs : starEach (e :: es) X.env = (false, eval e X.env) :: starEach es X.env := by rfl) (hplain : (backTo cpos (starEach es X.env)).any (·.1) = false := by rfl) :
    PE X (.Call (.Attribute o name apos) (e :: es) [] cpos) (tTM X.K r to t) := by
  refine ⟨fun pins s σ H Q I h => ?_⟩
  refine wpAny_Call_method_late hbase hfew hline rfl (thn (ho.run pins s σ H _ I h) fun v s1 ⟨x, H1, I1, r1, ty, q1⟩ => ?_)
  obtain ⟨a, ob, ys, rfl, hx, hc, hd⟩ := ty
  cases (show v = Value.ref a from r1)
  obtain ⟨hg, _⟩ := (show ObjOk X.prog X.w H1 s1.heap a (.frz ob (.tup ys)) from I1.hok a _ hx)
  refine ⟨"tuple", id, PySem.F.plainAttrs_tuple, slot, hty, ⟨ob, hg, hc⟩, fun b e => by cases e; exact ⟨ob, hg, hd⟩, ?_⟩
  have hA := ha.run cpos pins s1 σ H1 _ I1 q1
  rw [hs] at hA ⊢
  refine Calls.callWith_builtin (by show (false || (backTo cpos (starEach es X.env)).any (·.1)) = false; rw [hplain] <;> rfl) (Calls.evalArgs_plain ?_)
  exact thn hA fun us s2 ⟨vs, H2, I2, r2, q2⟩ => hm pins s2 σ H2 (.ref a) vs (.ref a) us Q I2 rfl r2 q2
end
/-! the rules with the written part named -/
section
variable {X : Cx} {K : PySem.W.Frag} {e o : Expr} {es : List Expr} {ta to te : TE} {t : TA} {f : Str} {pos p tpos : Pos} {tg : Expr} {elts : List Expr} {kk : Nat}
theorem pe_fldK (hK : X.K = K) (he : PE X e ta) (hb : attributeBase e f X.env (eval e X.env) = eval e X.env := by rfl) : PE X (.Attribute e f pos) (tFld K ta f) := by subst hK; exact pe_fld he hb
theorem pi_anyK (hK : X.K = K) (he : PE X e te) : PI X tg e (iAny K te) := by subst hK; exact pi_any he
theorem pi_enum2K (hK : X.K = K) (hg : Gl X "enumerate") (hm : X.mg "enumerate" = none) (he : PE X e te) (ha : starEach [e] X.env = [(false, eval e X.env)] := by rfl) :
    PI X (.Tuple elts kk tpos) (.Call (.Name "enumerate" p) [e] [] pos) (iEnum2 K te) := by subst hK; exact pi_enum2 hg hm he ha
theorem pg_tupK {es : List Expr} {k : Nat} {t : TGs} {n : Nat} (hK : X.K = K) (hc : X.calm = true) (h : PGs X es t) (hn : (assignEach es X.env).length = n := by rfl) (hst : (assignEach es X.env).findIdx? (·.1) = none := by rfl) : PG X (.Tuple es k pos) (gTup K n t) := by
  subst hK
  exact pg_tup hc h hn hst
theorem pg_starK {es : List Expr} {k : Nat} {n i : Nat} {t : TGs} (hK : X.K = K) (hc : X.calm = true) (h : PGs X es t) (hn : (assignEach es X.env).length = n) (hst : (assignEach es X.env).findIdx? (·.1) = some i) (hi : i < n) : PG X (.Tuple es k pos) (gStar K n i t) := by
  subst hK
  exact pg_star hc h hn hst hi
theorem ps_fldK {value : Expr} {pos' : Pos} {tv : TE} (hK : X.K = K) (ha : PE X o ta) (hv : PE X value tv) (hs : swapsWith value (some (.Attribute o f pos')) pos.line X.env = pure false := by rfl) : PS X (.Assign [.Attribute o f pos'] value pos) (sFld K ta tv f) := by
  subst hK
  exact ps_fld ha hv hs
theorem ps_fldaugK {value : Expr} {tv : TE} (hK : X.K = K) (ha : PE X o ta) (hv : PE X value tv) : PS X (.AugAssign (.Attribute o f tpos) .Add value pos) (sFldAug K ta tv rAdd f) := by
  subst hK
  exact ps_fldaug ha hv in_add
theorem pe_bmK {name : Str} {apos cpos : Pos} {T id : String} {r : V → List V → Hp → VK → Prop} (hK : X.K = K) (pa : PlainAttrs T) (slot : Slot T name id) (hty : typeOf (.builtin id) = pure (.type "method_descriptor")) (hm : MtR X id r) (ho : PE X o to) (ha : PA X (e :: es) t)
    (hbase : attributeBase o name X.env (eval o X.env) = eval o X.env := by rfl)
    (hfew : ((backTo cpos (starEach (e :: es) X.env)).all (fun x => !x.1) && (backToKw cpos (keywordEach [] X.env)).all (fun x => x.1.isSome)
      && decide ((e :: es).length + ([] : List Keyword).length + (if ([] : List Keyword).isEmpty then 0 else 1) < 30)) = true := by rfl)
    (hline : (apos.endLine == cpos.line) = true := by rfl) (hs : starEach (e :: es) X.env = (false, eval e X.env) :: starEach es X.env := by rfl) (hplain : (backTo cpos (starEach es X.env)).any (·.1) = false := by rfl) :
    PE X (.Call (.Attribute o name apos) (e :: es) [] cpos) (tBM K T r to t) := by
  subst hK
  exact pe_bm pa slot hty hm ho ha hbase hfew hline hs hplain
def rListOf (K : PySem.W.Frag) : List V → Hp → VK → Prop := fun xs H Q => ∃ p ys, xs = [.ref p] ∧ (SqL K H p ys ∨ SqT K H p ys) ∧ ∀ l, H l = none → Q (.ref l) (upd H l (.lst ys))
theorem call_listOf : CallR X (.type "list") (rListOf X.K) := call_list_of
end

end L77
namespace L77
open PySem PySem.Spec PyProof.Rows L2
variable {gd : Bool}
local macro_rules | `(tactic| walk_at "y1") => `(tactic| with_reducible first
  | refine tSeq_i ?_ | refine tAsg_i ?_ | refine tCons_i ?_ | refine tNil_i ?_ | refine tC_i ?_ | refine tOp_i ?_ | refine tIfS_i ?_ | refine tTest_i ?_ | refine exBl_i ?_ | refine tRet_i ?_ | refine tCall_i ?_
  | refine tCB_i ?_ | refine tLst_i ?_ | refine tTup_i ?_ | refine rI0_i ?_ | refine tDrop_i ?_ | refine tNext_i ?_ | refine tB_i ?_ | refine tAnd_i ?_ | refine tOr_i ?_ | refine tNot_i ?_ | refine tAndV_i ?_ | refine tOrV_i ?_ | refine tNotV_i ?_
  | refine tIf_i ?_ | refine tUn_i ?_ | refine tDGet_i ?_ | refine sDPut_i ?_ | refine tFld_i ?_ | refine tRetN_i ?_ | refine tBreak_i ?_ | refine tCont_i ?_ | refine rU_i ?_)
local macro_rules | `(tactic| walk_at "yhead") => `(tactic| dsimp only [L2.start, List.map, List.length_cons, List.length_nil, Nat.reduceAdd, Nat.reduceSub, List.replicate, List.cons_append, List.nil_append])
local macro_rules | `(tactic| walk_at "y2") => `(tactic| first
  | walk_at "y1"
  | ((with_reducible refine tVar_i (v := ?v) ?h ?q); (case h => rfl))
  | ((with_reducible refine gName_i ?_); (dsimp only [List.set]))
  | ((with_reducible refine rEq_i ?h ?q); (case h => rfl)) | ((with_reducible refine rNe_i ?h ?q); (case h => rfl)))
local macro_rules | `(tactic| walk_at "y") => `(tactic| repeat walk_at "y2")

/-! flat values as data -/
def vD : V → PyData | .bl b => .bool b | .int i => .int i | .str s => .str s | _ => .none
def plV : V → Bool | .non => true | .bl _ => true | .int _ => true | .str _ => true | _ => false
/-- a flat value of small size -/
def smV : V → Bool | .non => true | .bl _ => true | .int i => decide (-999999999999 ≤ i ∧ i ≤ 999999999999) | .str s => PyData.canLay0 (.str s) && PyData.leavesShort 16 (.str s) && decide (s.cps.size ≤ 20) | _ => false
theorem smV_pl {v : V} (h : smV v = true) : plV v = true := by cases v <;> first | rfl | exact h
theorem smV_sm {v : V} (h : smV v = true) : Sm 0 20 (vD v) := by
  cases v with
  | non => exact Sm.none.mono (Nat.le_refl _) (Nat.zero_le _)
  | bl b => exact (Sm.bl b).mono (Nat.le_refl _) (Nat.zero_le _)
  | int i => exact (Sm.int (of_decide_eq_true h).1 (of_decide_eq_true h).2).mono (Nat.le_refl _) (Nat.zero_le _)
  | str s =>
    have h1 : (PyData.canLay0 (.str s) && PyData.leavesShort 16 (.str s) && decide (s.cps.size ≤ 20)) = true := h
    rw [Bool.and_eq_true, Bool.and_eq_true] at h1
    refine ⟨h1.1.1, by show PyData.depth (.str s) ≤ 0; simp [PyData.depth], by show PyData.showable (.str s) = true; simp [PyData.showable], h1.1.2, ?_⟩
    show PyData.bulk (.str s) ≤ 20
    simp only [PyData.bulk]
    exact of_decide_eq_true h1.2
  | _ => exact nomatch h
theorem dp_fl {K : PySem.W.Frag} {H : Hp} : ∀ {v : V}, plV v = true → Dp K H v (vD v)
  | .non, _ => .non
  | .bl b, _ => .bl b
  | .int i, _ => .int i
  | .str s, _ => .str s
theorem dp_fls {K : PySem.W.Frag} {H : Hp} : ∀ {xs : List V}, xs.all plV = true → DpAll K H xs (xs.map vD)
  | [], _ => .nil
  | x :: xs, h => by
    rw [List.all_cons, Bool.and_eq_true] at h
    exact .cons (dp_fl h.1) (dp_fls h.2)
/-- a tuple of flat values -/
theorem dp_tup {K : PySem.W.Frag} {H : Hp} {p : Addr} {xs : List V} (h : SqT K H p xs) (f : xs.all plV = true) : Dp K H (.ref p) (.tuple (xs.map vD)) := .tup h (dp_fls f)
theorem dp_lst {K : PySem.W.Frag} {H : Hp} {p : Addr} {xs : List V} (h : SqL K H p xs) (f : xs.all plV = true) : Dp K H (.ref p) (.list (xs.map vD)) := .lst h (dp_fls f)
theorem sm_tup {xs : List V} (f : xs.all smV = true) : Sm 1 (xs.length * 21) (.tuple (xs.map vD)) := by
  have := Sm.tup (n := 0) (b := 20) (ds := xs.map vD) fun d hd => by
    obtain ⟨v, hv, rfl⟩ := List.mem_map.mp hd
    exact smV_sm (List.all_eq_true.mp f v hv)
  simpa using this
theorem sm_lst {xs : List V} (f : xs.all smV = true) : Sm 1 (xs.length * 21) (.list (xs.map vD)) := by
  have := Sm.list (n := 0) (b := 20) (ds := xs.map vD) fun d hd => by
    obtain ⟨v, hv, rfl⟩ := List.mem_map.mp hd
    exact smV_sm (List.all_eq_true.mp f v hv)
  simpa using this
theorem all_pl {xs : List V} (f : xs.all smV = true) : xs.all plV = true := List.all_eq_true.mpr fun v hv => smV_pl (List.all_eq_true.mp f v hv)
/-- a list or tuple whose items are tuples of flat values -/
theorem dp_TR {α : Type} {f : α → List V} {K : PySem.W.Frag} {H : Hp} (hf : ∀ a, (f a).all plV = true) : ∀ {vs : List V} {as : List α}, Paired (TR f H) vs as → DpAll K H vs (as.map fun a => .tuple ((f a).map vD))
  | _, _, .nil => .nil
  | _, _, .cons ⟨p, e, h⟩ t => by subst e; exact .cons (dp_tup (SqT.of h) (hf _)) (dp_TR hf t)
theorem dp_TRm {α : Type} {f : α → List V} {K : PySem.W.Frag} {H : Hp} : ∀ {vs : List V} {as : List α}, (∀ a ∈ as, (f a).all plV = true) → Paired (TR f H) vs as → DpAll K H vs (as.map fun a => .tuple ((f a).map vD))
  | _, _, _, .nil => .nil
  | _, _, hf, .cons ⟨p, e, h⟩ t => by subst e; exact .cons (dp_tup (SqT.of h) (hf _ (List.mem_cons_self ..))) (dp_TRm (fun a ha => hf a (List.mem_cons_of_mem _ ha)) t)
theorem dp_sq {K : PySem.W.Frag} {H : Hp} {p : Addr} {vs : List V} {ds : List PyData} : ∀ {b : Bool}, SqB K b H p vs → DpAll K H vs ds → Dp K H (.ref p) (if b then .list ds else .tuple ds)
  | true, h, d => .lst h d
  | false, h, d => .tup h d
theorem sm_TR {α : Type} {f : α → List V} {n : Nat} {as : List α} (hf : ∀ a ∈ as, (f a).all smV = true ∧ (f a).length ≤ n) : ∀ d ∈ as.map fun a => PyData.tuple ((f a).map vD), Sm 1 (n * 21) d := fun d hd => by
  obtain ⟨a, ha, rfl⟩ := List.mem_map.mp hd
  exact (sm_tup (hf a ha).1).mono (Nat.le_refl _) (Nat.mul_le_mul_right _ (hf a ha).2)
theorem flat_ints (ns : List Int) : (ns.map V.int).all flatV = true := by
  rw [List.all_map]
  exact List.all_eq_true.mpr fun _ _ => rfl
theorem inV_ints {n : Int} : ∀ {ns : List Int}, inV (.int n) (ns.map V.int) = decide (n ∈ ns)
  | [] => by simp [inV]
  | m :: ns => by
    have ih := inV_ints (n := n) (ns := ns)
    unfold inV at ih ⊢
    rw [List.map_cons, List.any_cons, ih]
    have e : eqV (.int m) (.int n) = decide (n = m) := by
      show decide (m = n) = _
      simp [eq_comm]
    rw [e]
    simp [List.mem_cons]
theorem filterMap_ix {α β : Type} (g : α → Option β) : ∀ xs : List α, ((List.range xs.length).filterMap fun i => (xs[i]?).bind g) = xs.filterMap g
  | [] => rfl
  | x :: xs => by
    have ih := filterMap_ix g xs
    rw [List.length_cons, List.range_succ_eq_map, List.filterMap_cons, List.filterMap_map]
    have e : (List.filterMap ((fun i => ((x :: xs)[i]?).bind g) ∘ Nat.succ) (List.range xs.length)) = xs.filterMap g := by
      rw [← ih]
      rfl
    rw [e]
    cases q : g x with
    | none => simp [q]
    | some y => simp [q]
theorem filterMap_ne (n : Int) (xs : List Int) : (xs.filterMap fun m => if m = n then none else some m) = xs.filter fun m => decide (m ≠ n) := by
  induction xs with
  | nil => rfl
  | cons x xs ih =>
    by_cases h : x = n
    · simp [h, ih]
    · simp [h, ih]
theorem str_beq (a b : Str) : (a == b) = decide (a = b) := by
  by_cases h : a = b
  · rw [h]; simp
  · rw [decide_eq_false h]; exact beq_eq_false_iff_ne.mpr h
theorem eqv_nil {ds : List PyData} : PyData.eqv (.list ds) (.list []) = ds.isEmpty := by
  cases ds with
  | nil => rfl
  | cons d ds => rfl

end L77
namespace L77
open PySem PySem.Spec PyProof.Rows L2
variable {gd : Bool}
local macro_rules | `(tactic| walk_at "y1") => `(tactic| with_reducible first
  | refine tSeq_i ?_ | refine tAsg_i ?_ | refine tCons_i ?_ | refine tNil_i ?_ | refine tC_i ?_ | refine tOp_i ?_ | refine tIfS_i ?_ | refine tTest_i ?_ | refine exBl_i ?_ | refine tRet_i ?_ | refine tCall_i ?_
  | refine tCB_i ?_ | refine tLst_i ?_ | refine tTup_i ?_ | refine rI0_i ?_ | refine tDrop_i ?_ | refine tNext_i ?_ | refine tB_i ?_ | refine tAnd_i ?_ | refine tOr_i ?_ | refine tNot_i ?_ | refine tAndV_i ?_ | refine tOrV_i ?_ | refine tNotV_i ?_
  | refine tIf_i ?_ | refine tUn_i ?_ | refine tDGet_i ?_ | refine sDPut_i ?_ | refine tFld_i ?_ | refine tRetN_i ?_ | refine tBreak_i ?_ | refine tCont_i ?_ | refine rU_i ?_)
local macro_rules | `(tactic| walk_at "yhead") => `(tactic| dsimp only [L2.start, List.map, List.length_cons, List.length_nil, Nat.reduceAdd, Nat.reduceSub, List.replicate, List.cons_append, List.nil_append])
local macro_rules | `(tactic| walk_at "y2") => `(tactic| first
  | walk_at "y1"
  | ((with_reducible refine tVar_i (v := ?v) ?h ?q); (case h => rfl))
  | ((with_reducible refine gName_i ?_); (dsimp only [List.set]))
  | ((with_reducible refine rEq_i ?h ?q); (case h => rfl)) | ((with_reducible refine rNe_i ?h ?q); (case h => rfl)))
local macro_rules | `(tactic| walk_at "y") => `(tactic| repeat walk_at "y2")

section
variable {X : Cx} {m : Str} {e : Expr} {es : List Expr} {ta : TA} {p1 p2 pos : Pos}
/-- M.__init__(self, ..), M a class of the module over ValueError -/
theorem pe_vinit {pl : Sem Bool} (V : ViC X.K m) (hg : Gl X m) (hm : X.mg m = some (.ref (He.ga X.K m))) (ha : PA X (e :: es) ta)
    (hc : eval (.Call (.Attribute (.Name m p1) "__init__" p2) (e :: es) [] pos) X.env = (do
      let ov ← eval (.Name m p1) X.env
      standAt p2.atName
      let (f, first) ← holding [ov] (getMethod ov "__init__" pl)
      callWith pos f first (backTo pos (starEach (e :: es) X.env)) (backToKw pos (keywordEach [] X.env))) := by rfl)
    (he : starEach (e :: es) X.env = (false, eval e X.env) :: starEach es X.env := by rfl) (hpl : (backTo pos (starEach es X.env)).any (·.1) = false := by rfl) (hdb : (m == ("__debug__" : Str)) = false := by decide) :
    PE X (.Call (.Attribute (.Name m p1) "__init__" p2) (e :: es) [] pos) (tVeI X.K ta) := by
  refine ⟨fun pins s σ H Q I h => ?_⟩
  refine PySem.W.methodCall_KW (ld_glob I hg hm ?_ hdb) hc
  refine PySem.W.method_cls I.kIn V.g (PySem.W.cls_value I.kIn V.r V.f (by decide +kernel) ?_)
  show wpAny _ _ (callWith pos (Value.builtin "ValueError.__init__") [] (backTo pos (starEach (e :: es) X.env)) []) _ _ _
  refine PyProof.Rows.callWith_method1 (thn (ha.run pos pins _ σ H _ (I.tok _) h) fun us s1 ⟨vs, H1, I1, r1, a, C, ws, ev, hl, T, ea, q⟩ => ?_) he hpl
  subst ev
  cases r1 with
  | @cons _ u0 _ ur ra rw' =>
    obtain rfl : u0 = Value.ref a := ra
    exact oinit_ok T I1 ea (by rw [← rw'.length, sizeLine_eq]; omega) fun s' J => ⟨.non, H1, J, rfl, q⟩
end
/-- __init__ of such a class: f is the one attribute it lays -/
def spExI (K : PySem.W.Frag) (c f : Str) : Sp := sp2 fun x v H Q _ => ∃ a, x = .ref a ∧ H a = some (exo a (He.ga K c) none) ∧ ∀ dx, H dx = none → dx ≠ a → Q .non (upd (upd H dx (exd dx [(f, v)])) a (exo a (He.ga K c) (some dx)))
section
variable {P : Program} {w : World} {K : PySem.W.Frag} {mg : Str → Option Value} {base : Heap}
/-- a class by an __init__ of this kind, that it may be raised -/
structure Exm (P : Program) (w : World) (K : PySem.W.Frag) (mg : Str → Option Value) (base : Heap) (k : Nat) (c : Str) (sp : Sp) (f : Str) : Prop where
  ex : ∃ (fd : FuncData) (ps : List Str), FnOk P w K mg base CX0 k (He.ma K (He.ga K c) "__init__") fd ps sp ∧ Binds K fd ps []
  x : ExC K c f
  g : mg c = some (.ref (He.ga K c))
theorem Sy.exm (T : Sy K mg) {c q f : Str} {i j : Nat} {N ps : List Str} {k : Nat} {sp : Sp} (E : ExC K c f) (F0 : FDx K (dM c "__init__" q i j))
    (S : FnScope N ps (defScope (inClass (top i) j))) (len : ∀ vs H Q E, sp vs H Q E → vs.length = ps.length)
    (hbody : ∀ (cdv : Value) (f : Addr) (A : Around) (outer : List Env) (s : Shared) (H : Hp) (vs : List V) (Q : VK) (E : XK), Room k (A.deeper (envOfC q (defScope (inClass (top i) j)) s.heap.objs.size f cdv)) → sp vs H Q E →
      ∃ t, PSs (cxOf CX0 P w K mg base N q (defScope (inClass (top i) j)) f cdv A outer s H E).nox (defBody (inClass (top i) j)) t ∧ t { nx := fun _ H' => Q .non H', rt := Q } (start N vs) H)
    (hb : ∀ (kV doc pm : Value) (an : Option Addr) (cdv ct : Value) (us : List Value), us.length = ps.length → bindArgs (PySem.W.fnOf "__init__" q (defArgs (inClass (top i) j)) (defBody (inClass (top i) j)) (defScope (inClass (top i) j)) .none kV doc pm an cdv ct) ⟨us, []⟩ = pure (ps.zip us))
    (hg : fa.any (isGlo c) = true := by decide +kernel) : Exm P w K mg base (k + 1) c sp f := by
  obtain ⟨fd, F⟩ := F0
  refine ⟨⟨fd, ps, F.ok S len fun cdv A outer s H vs Q E hr h => ?_, F.bindsN hb⟩, E, T.glo c hg⟩
  obtain ⟨t, h1, h2⟩ := hbody cdv _ A outer s H vs Q E hr h
  exact ⟨t, h1.nox, h2⟩
theorem pmk_x {X : Cx} {k j : Nat} {c f : Str} {sp : Sp} {e : Expr} {es : List Expr} {ta : TA} {p pos : Pos} (m : Exm X.prog X.w X.K X.mg X.base k c sp f) (hr : Room j X.A) (ha : PA X (e :: es) ta) (hk : k + 1 ≤ j := by decide) (hg : Gl X c := by rfl)
    (hdb : (c == ("__debug__" : Str)) = false := by decide) (he : starEach (e :: es) X.env = (false, eval e X.env) :: starEach es X.env := by rfl) (hpl : (backTo pos (starEach es X.env)).any (·.1) = false := by rfl) :
    PMk X (.Call (.Name c p) (e :: es) [] pos) (tMkO (He.ga X.K c) sp [] ta) := by
  obtain ⟨fd, ps, F, b⟩ := m.ex
  exact pmk_oex m.x.o m.x.i m.x.t F (hr.mono hk) b .nil pass0 hg m.g ha hdb he hpl
end
section
variable {K : PySem.W.Frag} {σ : L2.St} {H : Hp} {Q : VK} {D : Ends} {ta : TA} {to te : TE} {f : Str} {C : Addr} {sp : Sp} {dvs : List V}
theorem tVeI_i (q : ta σ H fun vs H1 => ∃ (a C : Addr) (ws : List V), vs = .ref a :: ws ∧ ws.length ≤ 1000 ∧ OexC K C ∧ H1 a = some (exo a C none) ∧ Q .non H1) : tVeI K ta σ H Q := q
theorem tOst_i (q : te σ H fun y H1 => to σ H1 fun x H2 => ∃ a C : Addr, x = .ref a ∧ OexC K C ∧ PySem.W.findIn K (.ref C) f = some none ∧
  ((H2 a = some (exo a C none) ∧ ∀ dx, H2 dx = none → dx ≠ a → D.nx σ (upd (upd H2 dx (exd dx [(f, y)])) a (exo a C (some dx)))) ∨
    ∃ (dx : Addr) (fs : List (Str × V)), H2 a = some (exo a C (some dx)) ∧ H2 dx = some (exd dx fs) ∧ fs.length ≤ 900 ∧ D.nx σ (upd H2 dx (exd dx ((f, y) :: fs))))) : tOst K f to te D σ H := q
theorem tMkO_i {Q : XK} (q : ta σ H fun vs H1 => vs.length ≤ 1000 ∧ ∀ a, H1 a = none → sp (.ref a :: (vs ++ dvs)) (upd H1 a (exo a C none))
  (fun v H2 => v = .non ∧ ∃ (d : Addr) (fs : List (Str × V)), H2 a = some (exo a C (some d)) ∧ H2 d = some (exd d fs) ∧ H1 d = none ∧ Q (.ref C) (some d) (upd (del H2 a) d (.xd fs))) (fun _ _ _ => False)) : tMkO C sp dvs ta σ H Q := q
/-- raise C(v), C's own __init__ as spExI -/
theorem mkx_i {c : Str} {v : V} {Q : XK} (q : ∀ d H', H d = none → Same H H' → H' d = some (.xd [(f, v)]) → Q (.ref (He.ga K c)) (some d) H') :
    ([v] : List V).length ≤ 1000 ∧ ∀ a, H a = none → spExI K c f (.ref a :: ([v] ++ [])) (upd H a (exo a (He.ga K c) none))
      (fun u H2 => u = .non ∧ ∃ (d : Addr) (fs : List (Str × V)), H2 a = some (exo a (He.ga K c) (some d)) ∧ H2 d = some (exd d fs) ∧ H d = none ∧ Q (.ref (He.ga K c)) (some d) (upd (del H2 a) d (.xd fs))) (fun _ _ _ => False) := by
  refine ⟨by show 1 ≤ 1000; decide, fun a ha => ⟨_, _, rfl, a, rfl, upd_same, fun dx hdx ne => ⟨rfl, dx, [(f, v)], upd_same, (upd_ne ne).trans upd_same, ?_, ?_⟩⟩⟩
  · rwa [upd_ne ne] at hdx
  · rw [upd_ne ne] at hdx
    refine q dx _ hdx (fun b o e => ?_) upd_same
    have nb : b ≠ dx := ne_of_none e hdx
    have na : b ≠ a := ne_of_none e ha
    rw [upd_ne nb, L2.del_ne na, upd_ne na, upd_ne nb, upd_ne na]
    exact e
end

end L77
namespace L77
open PySem PySem.Spec PyProof.Rows L2
variable {gd : Bool}
local macro_rules | `(tactic| walk_at "y1") => `(tactic| with_reducible first
  | refine tSeq_i ?_ | refine tAsg_i ?_ | refine tCons_i ?_ | refine tNil_i ?_ | refine tC_i ?_ | refine tOp_i ?_ | refine tIfS_i ?_ | refine tTest_i ?_ | refine exBl_i ?_ | refine tRet_i ?_ | refine tCall_i ?_
  | refine tCB_i ?_ | refine tLst_i ?_ | refine tTup_i ?_ | refine rI0_i ?_ | refine tDrop_i ?_ | refine tNext_i ?_ | refine tB_i ?_ | refine tAnd_i ?_ | refine tOr_i ?_ | refine tNot_i ?_ | refine tAndV_i ?_ | refine tOrV_i ?_ | refine tNotV_i ?_
  | refine tIf_i ?_ | refine tUn_i ?_ | refine tDGet_i ?_ | refine sDPut_i ?_ | refine tFld_i ?_ | refine tRetN_i ?_ | refine tBreak_i ?_ | refine tCont_i ?_ | refine rU_i ?_)
local macro_rules | `(tactic| walk_at "yhead") => `(tactic| dsimp only [L2.start, List.map, List.length_cons, List.length_nil, Nat.reduceAdd, Nat.reduceSub, List.replicate, List.cons_append, List.nil_append])
local macro_rules | `(tactic| walk_at "y2") => `(tactic| first
  | walk_at "y1"
  | ((with_reducible refine tVar_i (v := ?v) ?h ?q); (case h => rfl))
  | ((with_reducible refine gName_i ?_); (dsimp only [List.set]))
  | ((with_reducible refine rEq_i ?h ?q); (case h => rfl)) | ((with_reducible refine rNe_i ?h ?q); (case h => rfl)))
local macro_rules | `(tactic| walk_at "y") => `(tactic| repeat walk_at "y2")

/-! sorted(a tuple of ints) -/
section
open PyProof.Rows
theorem sortedT_raw {prog : Program} {w : World} {A : Around} {E : Value → Shared → Prop} {s : Shared} {l : Addr} {vs : List Value} {ltv : Value → Value → Bool} {Q : Value → Shared → Prop} {o : Obj} {n : Nat} (O : SrtO.Swo ltv)
    (ho : s.heap.get? l = some o) (hc : o.cls = .type "tuple") (hd : o.data = .seq vs.toArray n) (hz : vs.length ≤ sizeLine)
    (hS : 2 ≤ vs.length → ∀ (h₁ : Heap) (a : Addr), SrtO.SortableO prog w A.in1.in1 { s with heap := h₁ } a vs ltv)
    (h : ∀ (out : List Value) (h1 h' : Heap), SrtO.Srtd ltv out → SrtO.Stb ltv out vs → (∀ b u, s.heap.get? b = some u → h1.get? b = some u) → (∀ b u, h1.get? b = some u → h'.get? b = some u) → (∃ e, h'.get? h1.objs.size = some (seqObj "list" out.toArray e)) → Q (.ref h1.objs.size) { s with heap := h' }) :
    wpAny (model prog w) A (call (.builtin "sorted") [.ref l]) Q E s := by
  refine Calls.call_function_entry kind_sorted plain_sorted entry_sorted (args_sorted1 _) ?_
  unfold Builtin.«sorted»
  refine wpAny_bind (m := checkCount "sorted" 1 1 _) (wpAny_pure ?_)
  refine wpAny_bind (wpAny_collect_seq l (.inr rfl) ho hc hd (fun h1 k1 => ?_) (by simpa using hz))
  rw [show (vs.toArray : Array Value).toList = vs by simp]
  refine wpAny_bind (wpAny_newList ?_ hz)
  have hoL : (h1.push (seqObj "list" vs.toArray 0)).get? h1.objs.size = some (seqObj "list" vs.toArray 0) := Heap.get?_push_size _ rfl
  show wpAny _ _ _ _ _ { s with heap := h1.push (seqObj "list" vs.toArray 0) }
  refine wpAny_bind (wpAny_holding (wpAny_call_entry slot_list_sort ⟨_, hoL, rfl⟩ entry_list_sort (SrtO.list_sort_ord O hoL hz (fun h2 => hS h2 _ _) fun out hs hb => ⟨_, rfl, ?_⟩) (args_list_sort _)))
  refine wpAny_pure ⟨_, rfl, h out h1 _ hs hb k1 (fun b u e => ?_) (sortedHeap_at hoL)⟩
  have lt := Heap.lt_size e
  rw [sortedHeap_old (Nat.ne_of_lt lt) (by rw [size_push']; exact Nat.lt_succ_of_lt lt)]
  exact Heap.get?_push_of_some _ e
end
def rSortedT (K : PySem.W.Frag) : List V → Hp → VK → Prop := fun vs H Q => ∃ (a : Addr) (ns : List Int), vs = [V.ref a] ∧ SqT K H a (ns.map V.int) ∧
  ∀ (ns' : List Int) (p : Addr), ns'.Perm ns → ns'.Pairwise (· ≤ ·) → H p = none → Q (.ref p) (upd H p (.lst (ns'.map V.int)))
theorem cr_sortedT2 {X : Cx} : CallR X (.builtin "sorted") (rSortedT X.K) := by
  intro pins s σ H vs us Q I r h
  obtain ⟨a, ns, rfl, hs, q⟩ := h
  obtain ⟨its, rv, hl, hz⟩ := I.tuple hs
  obtain ⟨o, ho, hc, n, hd⟩ := hl
  rw [Vals.ref1 r]
  have hi := rv.ints
  refine sortedT_raw SrtO.swo_int ho hc hd (by rw [← rv.length]; exact hz) (fun h2 h₁ a' => SrtO.ints_sortable hi h2) fun out h1 h' k1 k2 a1 a2 a3 => ?_
  obtain ⟨b1, b2, b3⟩ := SrtO.ints_out hi k1 k2
  obtain ⟨e, he⟩ := a3
  have I1 : Inv X pins σ H { s with heap := h1 } := I.kept (t' := s.toks) a1
  have hlen : ((out.map SrtO.iv).map V.int).length ≤ sizeLine := by
    rw [List.length_map, b2.length_eq]
    rw [List.length_map] at hz
    exact hz
  exact ⟨.ref h1.objs.size, _, I1.laid (t' := s.toks) a2 (Nat.le_refl _) (show ObjOk X.prog X.w _ h' _ (.lst _) from ⟨hlen, out, e, vals_of_ints b1, he⟩), rfl, q _ _ b2 b3 (I1.hok.fresh (Nat.le_refl _))⟩
theorem sorted_uniq {α : Type} {le : α → α → Prop} (anti : ∀ a b, le a b → le b a → a = b) : ∀ {l1 l2 : List α}, l1.Pairwise le → l2.Pairwise le → l1.Perm l2 → l1 = l2
  | [], l2, _, _, p => by rw [List.nil_perm.mp p]
  | a :: l1, [], _, _, p => by have := p.length_eq; simp at this
  | a :: l1, b :: l2, h1, h2, p => by
    have e : a = b := by
      rcases List.mem_cons.mp (p.mem_iff.mp (List.mem_cons_self ..)) with e | m
      · exact e
      · rcases List.mem_cons.mp (p.mem_iff.mpr (List.mem_cons_self ..)) with e | m2
        · exact e.symm
        · exact anti a b ((List.pairwise_cons.mp h1).1 b m2) ((List.pairwise_cons.mp h2).1 a m)
    subst e
    rw [sorted_uniq anti (List.pairwise_cons.mp h1).2 (List.pairwise_cons.mp h2).2 (List.perm_cons a |>.mp p)]
def srt (ns : List Int) : List Int := ns.mergeSort fun a b => decide (a ≤ b)
theorem srt_perm (ns : List Int) : (srt ns).Perm ns := List.mergeSort_perm ..
theorem srt_le (ns : List Int) : (srt ns).Pairwise (· ≤ ·) := by
  have h := List.pairwise_mergeSort (le := fun a b : Int => decide (a ≤ b)) (fun a b c h1 h2 => by have := of_decide_eq_true h1; have := of_decide_eq_true h2; exact decide_eq_true (by omega))
    (fun a b => by rcases Int.le_total a b with h | h <;> simp [h]) ns
  exact h.imp fun h => of_decide_eq_true h
theorem srt_eq {ns ns' : List Int} (p : ns'.Perm ns) (s : ns'.Pairwise (· ≤ ·)) : ns' = srt ns := sorted_uniq (fun _ _ h1 h2 => Int.le_antisymm h1 h2) s (srt_le ns) (p.trans (srt_perm ns).symm)
section
variable {K : PySem.W.Frag} {σ : L2.St} {H : Hp} {Q : VK} {D : Ends} {a b p : Addr} {xs zs : List V}
theorem tTM_i {r : V → List V → Hp → VK → Prop} {to : TE} {t : TA} (q : to σ H fun x H1 => (∃ a o xs, x = .ref a ∧ H1 a = some (.frz o (.tup xs)) ∧ o.cls = .type "tuple" ∧ o.dict = none) ∧ t σ H1 fun xs H2 => r x xs H2 Q) : tTM K r to t σ H Q := q
theorem tPar_i {i j : Nat} {ta : TA} (q : ta σ H fun vs H1 => ∃ v w, vs = [v, w] ∧ D.nx ((σ.set i (some v)).set j (some w)) H1) : tPar i j ta D σ H := q
theorem ext_i (h : H a = some (.lst xs)) (h2 : H b = some (.lst zs)) (hz : xs.length + zs.length ≤ sizeLine) (q : Q .non (upd H a (.lst (xs ++ zs)))) : rExtend (.ref a) [.ref b] H Q := ⟨a, b, xs, zs, rfl, rfl, h, h2, hz, q⟩
theorem tSl_i {r : V → Option Int → Option Int → Hp → VK → Prop} {te : TE} {tl th : TO} (q : te σ H fun x H1 => tl σ H1 fun l H2 => th σ H2 fun u H3 => r x l u H3 Q) : tSl r te tl th σ H Q := q
theorem tNoPart_i {Q : Option Int → Hp → Prop} (q : Q none H) : tNoPart σ H Q := q
theorem tPart_i {t : TE} {Q : Option Int → Hp → Prop} (q : t σ H fun x H1 => ∃ i, x = .int i ∧ Q (some i) H1) : tPart t σ H Q := q
theorem part_i {i : Int} {Q : Option Int → Prop} (q : Q (some i)) : ∃ j, V.int i = .int j ∧ Q (some j) := ⟨i, rfl, q⟩
theorem rSl2_l {lo hi : Option Int} {N : Addr → Hp → Prop} (h : SqL K H a xs) (q : ∀ p, H p = none → Q (.ref p) (upd H p (.lst (cutV xs lo hi)))) : rSl2 K (.ref a) lo hi H Q := .inl ⟨a, xs, rfl, h, q⟩
theorem cut_all {lo hi : Option Int} (h : HT.sIx xs.length 0 lo = 0 ∧ HT.sIx xs.length xs.length hi = xs.length) : cutV xs lo hi = xs := by
  unfold cutV
  rw [h.1, h.2]
  simp
theorem cut_from (k : Nat) : cutV xs (some (k : Int)) none = xs.drop k := by
  unfold cutV
  rw [HT.sIx_nat, HT.sIx_none]
  by_cases h : k ≤ xs.length
  · rw [Nat.min_eq_left h, List.take_of_length_le (by simp)]
  · rw [Nat.min_eq_right (by omega)]
    simp [List.drop_of_length_le (show xs.length ≤ k by omega)]
theorem cut_to (k : Nat) : cutV xs none (some (k : Int)) = xs.take k := by
  unfold cutV
  rw [HT.sIx_nat, HT.sIx_none]
  by_cases h : k ≤ xs.length
  · rw [Nat.min_eq_left h]; simp
  · rw [Nat.min_eq_right (by omega), List.take_of_length_le (show xs.length ≤ k by omega)]; simp
theorem rSl2_t {lo hi : Option Int} (h : SqT K H a xs) (q : ∀ p H', SqT K H' p (cutV xs lo hi) → Same H H' → Q (.ref p) H') : rSl2 K (.ref a) lo hi H Q :=
  .inr ⟨a, xs, rfl, h, fun w => q a H (by rw [cut_all w]; exact h) (Same.refl _), fun _ p hp => q p _ (SqT.of upd_same) (same_upd hp)⟩
end
section
variable {X : Cx} {K : PySem.W.Frag}
theorem pe_tmK {o e : Expr} {es : List Expr} {to : TE} {t : TA} {name : Str} {apos cpos : Pos} {id : String} {r : V → List V → Hp → VK → Prop} (hK : X.K = K) (slot : Slot "tuple" name id) (hty : typeOf (.builtin id) = pure (.type "method_descriptor")) (hm : MtR X id r) (ho : PE X o to) (ha : PA X (e :: es) t)
    (hbase : attributeBase o name X.env (eval o X.env) = eval o X.env := by rfl)
    (hfew : ((backTo cpos (starEach (e :: es) X.env)).all (fun x => !x.1) && (backToKw cpos (keywordEach [] X.env)).all (fun x => x.1.isSome)
      && decide ((e :: es).length + ([] : List Keyword).length + (if ([] : List Keyword).isEmpty then 0 else 1) < 30)) = true := by rfl)
    (hline : (apos.endLine == cpos.line) = true := by rfl) (hs : starEach (e :: es) X.env = (false, eval e X.env) :: starEach es X.env := by rfl) (hplain : (backTo cpos (starEach es X.env)).any (·.1) = false := by rfl) :
    PE X (.Call (.Attribute o name apos) (e :: es) [] cpos) (tTM K r to t) := by
  subst hK
  exact pe_tm slot hty hm ho ha hbase hfew hline hs hplain
end

end L77
namespace L77
open PySem PySem.Spec PyProof.Rows L2
variable {gd : Bool}
local macro_rules | `(tactic| walk_at "y1") => `(tactic| with_reducible first
  | refine tSeq_i ?_ | refine tAsg_i ?_ | refine tCons_i ?_ | refine tNil_i ?_ | refine tC_i ?_ | refine tOp_i ?_ | refine tIfS_i ?_ | refine tTest_i ?_ | refine exBl_i ?_ | refine tRet_i ?_ | refine tCall_i ?_
  | refine tCB_i ?_ | refine tLst_i ?_ | refine tTup_i ?_ | refine rI0_i ?_ | refine tDrop_i ?_ | refine tNext_i ?_ | refine tB_i ?_ | refine tAnd_i ?_ | refine tOr_i ?_ | refine tNot_i ?_ | refine tAndV_i ?_ | refine tOrV_i ?_ | refine tNotV_i ?_
  | refine tIf_i ?_ | refine tUn_i ?_ | refine tDGet_i ?_ | refine sDPut_i ?_ | refine tFld_i ?_ | refine tRetN_i ?_ | refine tBreak_i ?_ | refine tCont_i ?_ | refine rU_i ?_)
local macro_rules | `(tactic| walk_at "yhead") => `(tactic| dsimp only [L2.start, List.map, List.length_cons, List.length_nil, Nat.reduceAdd, Nat.reduceSub, List.replicate, List.cons_append, List.nil_append])
local macro_rules | `(tactic| walk_at "y2") => `(tactic| first
  | walk_at "y1"
  | ((with_reducible refine tVar_i (v := ?v) ?h ?q); (case h => rfl))
  | ((with_reducible refine gName_i ?_); (dsimp only [List.set]))
  | ((with_reducible refine rEq_i ?h ?q); (case h => rfl)) | ((with_reducible refine rNe_i ?h ?q); (case h => rfl)))
local macro_rules | `(tactic| walk_at "y") => `(tactic| repeat walk_at "y2")

/-! a caught exception kept by a name behind the try -/
/-- at a: an exception of the class at C, its dict at dd -/
def exk (a C dd : Addr) : HO := .ext fun h => ∃ (oe : Obj) (vs : Array Value), h.get? a = some oe ∧ oe.cls = .ref C ∧ oe.dict = some dd ∧ oe.data = .fields vs
theorem exk_ok {P : Program} {w : World} {H : Hp} {h : Heap} {a C dd : Addr} {oe : Obj} {vs : Array Value} (e : h.get? a = some oe) (c : oe.cls = .ref C) (d : oe.dict = some dd) (f : oe.data = .fields vs) : ObjOk P w H h a (exk a C dd) :=
  ⟨⟨oe, vs, e, c, d, f⟩, ⟨oe, e⟩, fun h1 h2 ⟨u, us, k1, k2, k3, k4⟩ k => ⟨u, us, k u k1, k2, k3, k4⟩⟩
theorem exk_at {P : Program} {w : World} {H : Hp} {h : Heap} {a C dd : Addr} (hok : HOk P w H h) (e : H a = some (exk a C dd)) : ∃ (oe : Obj) (vs : Array Value), h.get? a = some oe ∧ oe.cls = .ref C ∧ oe.dict = some dd ∧ oe.data = .fields vs :=
  (show ObjOk P w H h a (exk a C dd) from hok a _ e).1
section
variable {X : Cx} {pins : List (Addr × Obj)} {σ : L2.St} {H : Hp} {s : Shared}
/-- an object that nobody follows is followed from here on -/
theorem inv_adopt {a : Addr} {oe : Obj} {vs : Array Value} {o : HO} (I : Inv X pins σ H s) (hn : H a = none) (he : s.heap.get? a = some oe) (hd : oe.data = .fields vs) (h0 : X.s_0.heap.get? a = none) (nL : a ≠ X.env.locals) (np : ∀ p ∈ X.pn ++ pins, p.1 ≠ a)
    (new : ObjOk X.prog X.w (upd H a o) s.heap a o) : Inv X pins σ (upd H a o) s where
  ok := I.ok
  os := I.os
  bare := I.bare
  base := ⟨I.base.keep, I.base.slot, fun b u e n x => by
      rw [upd_ne (show b ≠ a from fun z => by rw [z, h0] at e; cases e)]
      exact I.base.free b u e n x, I.base.there, fun b xs e => by rw [upd_ne (ne_of_none (I.base.tups b xs e) hn)]; exact I.base.tups b xs e,
      fun b u v e => by rw [upd_ne (ne_of_none (I.base.frzs b u v e) hn)]; exact I.base.frzs b u v e, fun b ps e => by
        obtain ⟨m, k⟩ := I.base.tbls b ps e
        exact ⟨m, by rw [upd_ne (ne_of_none k hn)]; exact k⟩⟩
  loc := I.loc
  cell := I.cell
  free := by rw [upd_ne (Ne.symm nL)]; exact I.free
  freeC := fun x c e => by
    have n : c ≠ a := fun z => by
      obtain ⟨v, u, k1, k2⟩ := I.cell x c e
      rw [z, he] at k1
      cases k1
      rw [hd] at k2
      cases k2
    rw [upd_ne n]
    exact I.freeC x c e
  pin := fun p hp => by
    obtain ⟨k1, k2, k3⟩ := I.pin p hp
    exact ⟨k1, by rw [upd_ne (np p hp)]; exact k2, k3⟩
  hok := fun b u e => by
    by_cases hb : b = a
    · subst hb
      rw [upd_same] at e
      cases e
      exact new
    · rw [upd_ne hb] at e
      exact (I.hok b u e).stay (fun c v _ z => z) (fun c k => by rw [upd_ne (ne_of_none k hn)]; exact k) fun c xs k => by rw [upd_ne (ne_of_none k hn)]; exact k
  len := I.len
end
/-- what such a try wishes of an exception -/
def wKeep (K : PySem.W.Frag) (c : Value) (i j : Nat) (D : Ends) : WX := fun cls d σ H => ∃ C dd : Addr, cls = .ref C ∧ d = some dd ∧ PySem.W.exmOne K cls c = some true ∧ ∀ a, H a = none → D.nx (((σ.set i (some (.ref a))).set j (some (.ref a))).set i none) (upd H a (exk a C dd))
section
variable {X : Cx} {i j : Nat} {x n y : Str} {c : Value} {body : List Stmt} {np p1 p2 p3 pos pos' : Pos} {tb : WX → TS}
theorem ps_try_keep (hs : X.stack = X.env :: X.outer) (hf : X.env.frame = some X.env.locals) (hex : X.ex = []) (hN : X.N.Nodup) (hi : X.N[i]? = some n) (hj : X.N[j]? = some y) (hln : X.env.kindOf n = some .local) (hly : X.env.scope.names.lookup y = some .local) (hc : Names X x c)
    (hb : ∀ (W : WX) (pn : List (Addr × Obj)) (xe : Value → Shared → Prop), Takes (X.tr pn xe) W → PassesOwn (model X.prog X.w) X.A X.env xe → PSs (X.tr pn xe) body (tb W))
    (hnd : (n == ("__debug__" : Str)) = false := by decide) (hnc : (n == ("__classdict__" : Str)) = false := by decide) :
    PS X (.Try body [.ExceptHandler (some (.Name x np)) (some n) [.Assign [.Name y p1] (.Name n p2) p3] pos'] [] [] pos) (fun D σ H => tb (wKeep X.K c i j D) D σ H) := by
  refine ⟨fun pins s σ H D I h => ?_⟩
  have ok := I.ok
  have frE : X.A.frames = some (X.env :: X.outer) := by rw [ok.frames, hs]
  refine wpAny_Try_except ?_
  refine wpAny_mono ((hb (wKeep X.K c i j D) (X.pn ++ pins) (fun e t1 => wpAny (model X.prog X.w) X.A (noteFrame e X.env) (fun _ t2 => wpAny (model X.prog X.w) X.A (setFlight e none) (fun _ t3 =>
    wpAny (model X.prog X.w) X.A (handleBy e X.env [.ExceptHandler (some (.Name x np)) (some n) [.Assign [.Name y p1] (.Name n p2) p3] pos']) (SP X pins D) X.xe t3) X.xe t2) X.xe t1) (fun u s' xx => ?_) PassesOwn.looking).run [] s σ H D (I.toTry _) h) (fun f s1 hsp => ?_) (fun e s1 he => he)
  · obtain ⟨a, B, sI, pins', σ', H', cls, d, rfl, J0, nb, up, sky, na, os, ag, C, dd, rfl, rfl, hm, hyes⟩ := xx
    have J : Inv X pins σ' H' sI := J0.ofTry ok
    have sky' : Sky B (X.env :: X.outer) a (Zc (.ref C) (some dd)) X.env.locals s'.heap := by rw [← hs]; exact sky
    show wpAny (model X.prog X.w) X.A (noteFrame (.ref a) X.env) _ _ _
    refine Sky.land Zc.steady frE hf sky' fun h3 fl3 up3 => ?_
    have J3 : Inv X pins σ' H' { s' with heap := h3 } := J.landed nb fl3.1 (up.trans up3) os ag
    obtain ⟨oe3, vs3, he3, hz3, hd3⟩ := fl3.there
    have nfr : a ∉ frs (X.env :: X.outer) := fun hm => by
      obtain ⟨_, o', e', hnf⟩ := fl3.2.2.1.mem hm
      rw [he3] at e'
      cases e'
      exact hnf _ hd3
    have nL : a ≠ X.env.locals := fun z => nfr (List.mem_filterMap.mpr ⟨X.env, List.mem_cons_self, by rw [hf, z]⟩)
    have nF : a ∉ X.fs := fun hm => by
      obtain ⟨e, he, q⟩ := List.mem_filterMap.mp hm
      exact nfr (List.mem_filterMap.mpr ⟨e, List.mem_cons_of_mem _ he, q⟩)
    -- it is newer than all that stood
    have newer : ∀ {b : Addr} {o : Obj}, sI.heap.get? b = some o → b ≠ a := fun {b o} e z => by
      subst z
      have k := nb b o e (by rw [hs]; exact nfr)
      rw [fl3.2.1] at k
      cases k
    have h0 : X.s_0.heap.get? a = none := by
      cases q : X.s_0.heap.get? a with
      | none => rfl
      | some o =>
        obtain ⟨o', k⟩ := J.base.there a o q (by rw [hex]; exact List.not_mem_nil)
        exact absurd rfl (newer k)
    have npA : ∀ p ∈ X.pn ++ pins, p.1 ≠ a := fun p hp => newer (J.pin p hp).1
    have S3 := J3.suite he3 hd3 na nL nF
    refine wpAny_handleBy_cons (codeAny_handlers_test ?_) (by intro q; cases q)
    have LT : PySem.W.Looks (model X.prog X.w) h3 (typeOf (.ref a)) (.ref C) := fun A Q E s k q => wpAny_typeOf_ref (k _ _ he3) (by rw [hz3.1]; exact q)
    have LM := PySem.W.exm_one (M := model X.prog X.w) (J3.kIn) LT hm
    have test : ∀ {Q : Value → Shared → Prop} {E : Value → Shared → Prop}, Q c { s' with heap := h3 } → wpAny (model X.prog X.w) (X.A.mark (some (.ref a))) (eval (.Name x np) X.env) Q E { s' with heap := h3 } := fun {Q E} q => by
      obtain ⟨hg, hdbg, hm | ⟨hm, hv, hnn⟩⟩ := hc
      · exact ld_glob (X := X.suite a ((a, oe3) :: (X.pn ++ pins))) S3 hg hm q hdbg
      · exact ld_blt (X := X.suite a ((a, oe3) :: (X.pn ++ pins))) S3 hg hm hv q hnn hdbg
    refine test (LM.here ?_)
    refine codeAny_handlers_suite_as ?_
    refine HandSPX.lands_againZ fl3 fun h4 fl4 up4 => ?_
    have J4 : Inv X pins σ' H' { s' with heap := h4 } := J.landed nb fl4.1 ((up.trans up3).trans up4) os ag
    obtain ⟨oe4, vs4, he4, hz4, hd4⟩ := fl4.there
    have S4 := J4.suite he4 hd4 na nL nF
    refine store_ok (X := X.suite a ((a, oe4) :: (X.pn ++ pins))) (v := .ref a) S4 hN hi (.inl hln) rfl (fun s5 S5 => ?_) (.inr hln)
    have su : PSs (X.suite a ((a, oe4) :: (X.pn ++ pins))) [.Assign [.Name y p1] (.Name n p2) p3] (tAsg (tVar i) (gName j)) :=
      pss_one (ps_asg (pe_var hi (.inl hln) hnd hnc) (pg_name hN hj (.inl hly) (.inr hly)))
    refine wpAny_mono (su.run [] s5 _ H' { nx := fun σ6 H6 => σ6 = (σ'.set i (some (.ref a))).set j (some (.ref a)) ∧ H6 = H', rt := fun _ _ => False } S5 ⟨.ref a, ?_, rfl, rfl⟩) (fun f s6 hsp => ?_) (fun _ _ z => False.elim z)
    · rw [List.getElem?_set_self (by rw [J.len]; exact (List.getElem?_eq_some_iff.mp hi).1)]
    · cases f with
      | next =>
        obtain ⟨σ6, H6, S6, rfl, rfl⟩ := hsp
        have pinA := S6.pin (a, oe4) (List.mem_append_left _ List.mem_cons_self)
        have J6 : Inv X pins _ H6 s6 := S6.unsuite ok
        have J7 := inv_adopt (o := exk a C dd) J6 na pinA.1 hd4 h0 nL npA (exk_ok pinA.1 hz4.1 hz4.2 hd4)
        exact gone_ok J7 hN hi hln fun s7 J8 => ⟨_, _, J8, hyes a na⟩
      | brk => exact (let ⟨_, _, _, q⟩ := hsp; False.elim q)
      | cont => exact (let ⟨_, _, _, q⟩ := hsp; False.elim q)
      | ret u => exact (let ⟨_, _, _, _, _, q⟩ := hsp; False.elim q)
  · cases f with
    | next =>
      obtain ⟨σ', H', J', q⟩ := hsp
      exact wpAny_execs_nil ⟨σ', H', J'.ofTry ok, q⟩
    | brk =>
      obtain ⟨σ', H', J', q⟩ := hsp
      exact ⟨σ', H', J'.ofTry ok, q⟩
    | cont =>
      obtain ⟨σ', H', J', q⟩ := hsp
      exact ⟨σ', H', J'.ofTry ok, q⟩
    | ret u =>
      obtain ⟨v, σ', H', J', r, q⟩ := hsp
      exact ⟨v, σ', H', J'.ofTry ok, r, q⟩
end
section
open PySem.W
theorem is_exact {prog : Program} {w : World} {A : Around} {E : Value → Shared → Prop} {s : Shared} {a C : Addr} {oe : Obj} {Q : Value → Shared → Prop} (he : s.heap.get? a = some oe) (hc : oe.cls = .ref C) (h : ∀ tk, Q (.bool true) { s with toks := tk }) :
    wpAny (model prog w) A (call (.builtin "isinstance") [.ref a, .ref C]) Q E s := by
  refine call_isinstance (S := fun _ R s => s.heap.get? a = some oe ∧ ∀ tk, R (.ok (.ret (.bool true))) { s with toks := tk }) (fun prog w A R s hs => isinstance_outer ?_ (by intro z; cases z)) ⟨he, h⟩
  obtain ⟨h0, g, d, tt, os⟩ := s
  obtain ⟨k, hq⟩ := hs
  have LT : Looks (model prog w) h0 (typeOf (.ref a)) (.ref C) := hc ▸ (Looks.ld k).andThen .now
  unfold Builtin.«isinstance.nested»
  refine wpAny_bind (LT.at ?_)
  rw [if_pos (show (Value.ref C == Value.ref C) = true by simp)]
  first
    | exact wpAny_bind (wpAny_rule (hq tt))
    | exact wpAny_bind (wpAny_rule (wpAny_pure (hq tt)))
    | exact wpAny_pure (hq tt)
end
/-- isinstance(e, its own class) -/
def rIsK : List V → Hp → VK → Prop := fun xs H Q => ∃ a C dd : Addr, xs = [.ref a, .ref C] ∧ H a = some (exk a C dd) ∧ Q (.bl true) H
theorem call_isK {X : Cx} : CallR X (.builtin "isinstance") rIsK := by
  intro pins s σ H xs us Q I r h
  obtain ⟨a, C, dd, rfl, ha, q⟩ := h
  obtain ⟨u1, u2, rfl, r1, r2⟩ := Vals.two r
  cases (show u1 = Value.ref a from r1)
  cases (show u2 = Value.ref C from r2)
  obtain ⟨oe, vs, e, c, _⟩ := exk_at I.hok ha
  exact is_exact e c fun tk => ⟨.bl true, H, I.tok tk, rfl, q⟩
/-- e.f of a kept exception -/
def tXk (K : PySem.W.Frag) (f : Str) (te : TE) : TE := fun σ H Q => te σ H fun x H1 => ∃ (a C dd : Addr) (fs : List (Str × V)) (v : V), x = .ref a ∧ H1 a = some (exk a C dd) ∧ XfC K C ∧ PySem.W.findIn K (.ref C) f = some none ∧ H1 dd = some (.xd fs) ∧ fs.lookup f = some v ∧ Q v H1
theorem tXk_i {K : PySem.W.Frag} {f : Str} {te : TE} {σ : L2.St} {H : Hp} {Q : VK} (q : te σ H fun x H1 => ∃ (a C dd : Addr) (fs : List (Str × V)) (v : V), x = .ref a ∧ H1 a = some (exk a C dd) ∧ XfC K C ∧ PySem.W.findIn K (.ref C) f = some none ∧ H1 dd = some (.xd fs) ∧ fs.lookup f = some v ∧ Q v H1) : tXk K f te σ H Q := q
theorem pe_xk {X : Cx} {K : PySem.W.Frag} {e : Expr} {te : TE} {pos : Pos} {n : Str} (hK : X.K = K) (he : PE X e te) (hb : attributeBase e n X.env (eval e X.env) = eval e X.env := by rfl) : PE X (.Attribute e n pos) (tXk K n te) := by
  subst hK
  refine ⟨fun pins s σ H Q I h => ?_⟩
  refine attr_of hb (thn (he.run pins s σ H _ I h) fun u s1 hh => ?_)
  obtain ⟨x, H1, I1, rx, a, C, dd, fs, v, rfl, ha, T, hno, ea, l, q⟩ := hh
  cases (show u = Value.ref a from rx)
  obtain ⟨oe, vs, e1, e2, e3, e4⟩ := exk_at I1.hok ha
  obtain ⟨mA, hns, hr⟩ := (show ObjOk X.prog X.w H1 s1.heap dd (.xd fs) from I1.hok dd _ ea)
  obtain ⟨od, ho, hl⟩ := lookIn_ns hns
  obtain ⟨u, hu, ru⟩ := RelO.some_of (v := v) (o := mA n) (by rw [← l]; exact hr n)
  have J : PySem.W.InstAt s1.heap a oe C (some od) := ⟨e1, e2, by unfold PySem.W.notCls; rw [e4] <;> rfl, by rw [e3]; exact ho⟩
  exact HandSPX.exc_get I1.kIn J T.ga T.gg T.exC (PySem.W.findObj_own T.hdC hno rfl (by rw [hl, hu])) (handed_of ru) ⟨v, H1, I1.tok _, ru, q⟩

end L77
namespace L77
open PySem PySem.Spec PyProof.Rows L2
variable {gd : Bool}
local macro_rules | `(tactic| walk_at "y1") => `(tactic| with_reducible first
  | refine tSeq_i ?_ | refine tAsg_i ?_ | refine tCons_i ?_ | refine tNil_i ?_ | refine tC_i ?_ | refine tOp_i ?_ | refine tIfS_i ?_ | refine tTest_i ?_ | refine exBl_i ?_ | refine tRet_i ?_ | refine tCall_i ?_
  | refine tCB_i ?_ | refine tLst_i ?_ | refine tTup_i ?_ | refine rI0_i ?_ | refine tDrop_i ?_ | refine tNext_i ?_ | refine tB_i ?_ | refine tAnd_i ?_ | refine tOr_i ?_ | refine tNot_i ?_ | refine tAndV_i ?_ | refine tOrV_i ?_ | refine tNotV_i ?_
  | refine tIf_i ?_ | refine tUn_i ?_ | refine tDGet_i ?_ | refine sDPut_i ?_ | refine tFld_i ?_ | refine tRetN_i ?_ | refine tBreak_i ?_ | refine tCont_i ?_ | refine rU_i ?_)
local macro_rules | `(tactic| walk_at "yhead") => `(tactic| dsimp only [L2.start, List.map, List.length_cons, List.length_nil, Nat.reduceAdd, Nat.reduceSub, List.replicate, List.cons_append, List.nil_append])
local macro_rules | `(tactic| walk_at "y2") => `(tactic| first
  | walk_at "y1"
  | ((with_reducible refine tVar_i (v := ?v) ?h ?q); (case h => rfl))
  | ((with_reducible refine gName_i ?_); (dsimp only [List.set]))
  | ((with_reducible refine rEq_i ?h ?q); (case h => rfl)) | ((with_reducible refine rNe_i ?h ?q); (case h => rfl)))
local macro_rules | `(tactic| walk_at "y") => `(tactic| repeat walk_at "y2")

/-! the own facts of the head -/
section
variable {K : PySem.W.Frag} {mg : Str → Option Value}
structure XF (K : PySem.W.Frag) : Prop where
  fi : IsC K "Fault"
  cm : CmpC K (He.ga K "Fault")
  bf : ExC K "BadFault" "value"
  bn : ExC K "BadName" "value"
  bl : ExC K "BadLog" "index"
  me : ViC K "ModelError"
  xf : XfC K (He.ga K "BadFault")
  xn : XfC K (He.ga K "BadName")
  xl : XfC K (He.ga K "BadLog")
  mf : PySem.W.exmOne K (.ref (He.ga K "BadFault")) (.ref (He.ga K "ModelError")) = some true
  mn : PySem.W.exmOne K (.ref (He.ga K "BadName")) (.ref (He.ga K "ModelError")) = some true
  ml : PySem.W.exmOne K (.ref (He.ga K "BadLog")) (.ref (He.ga K "ModelError")) = some true
  nf : PySem.W.subIn K (.ref (He.ga K "BadName")) (.ref (He.ga K "BadFault")) = some false
  lf : PySem.W.subIn K (.ref (He.ga K "BadLog")) (.ref (He.ga K "BadFault")) = some false
  ln : PySem.W.subIn K (.ref (He.ga K "BadLog")) (.ref (He.ga K "BadName")) = some false
  cf : IsC K "BadFault"
  cn : IsC K "BadName"
  cl : IsC K "BadLog"
  knf : PySem.W.kitOne K (.ref (He.ga K "BadName")) (.ref (He.ga K "BadFault")) = some false
  klf : PySem.W.kitOne K (.ref (He.ga K "BadLog")) (.ref (He.ga K "BadFault")) = some false
  kln : PySem.W.kitOne K (.ref (He.ga K "BadLog")) (.ref (He.ga K "BadName")) = some false
theorem Sy.xF (T : Sy K mg) : XF K := by
  have h := T.b
  unfold xb at h
  obtain ⟨a0, h⟩ := He.ba h
  obtain ⟨c0, h⟩ := He.ba h
  obtain ⟨a1, h⟩ := He.ba h
  obtain ⟨a2, h⟩ := He.ba h
  obtain ⟨a3, h⟩ := He.ba h
  obtain ⟨a4, h⟩ := He.ba h
  obtain ⟨a5, h⟩ := He.ba h
  obtain ⟨a6, h⟩ := He.ba h
  obtain ⟨a7, h⟩ := He.ba h
  obtain ⟨a8, h⟩ := He.ba h
  obtain ⟨a9, h⟩ := He.ba h
  obtain ⟨b1, h⟩ := He.ba h
  obtain ⟨b2, h⟩ := He.ba h
  obtain ⟨b3, h⟩ := He.ba h
  obtain ⟨b4, h⟩ := He.ba h
  obtain ⟨d1, h⟩ := He.ba h
  obtain ⟨d2, h⟩ := He.ba h
  obtain ⟨d3, h⟩ := He.ba h
  obtain ⟨d4, h⟩ := He.ba h
  obtain ⟨d5, d6⟩ := He.ba h
  exact ⟨isB_ok a0, cmpB_ok c0, exB_ok a1, exB_ok a2, exB_ok a3, viB_ok a4, xfB_ok a5, xfB_ok a6, xfB_ok a7, of_decide_eq_true a8, of_decide_eq_true a9, of_decide_eq_true b1, of_decide_eq_true b2, of_decide_eq_true b3, of_decide_eq_true b4, isB_ok d1, isB_ok d2, isB_ok d3, of_decide_eq_true d4, of_decide_eq_true d5, of_decide_eq_true d6⟩
/-- isinstance of an own class -/
theorem ty_ins {H : Hp} {a dx : Addr} {c : Str} {fs : List (Str × V)} (h : H a = some (.ins (He.ga K c) dx fs)) (cl : Cls K (He.ga K c)) (i : IsC K c) : TyX K H (.ref a) (.ref (He.ga K c)) := .base (.ins h cl i.ha i.hn i.ht i.hm)
theorem rIsi2_o {H : Hp} {Q : VK} {x : V} {t : Value} {C : Addr} {b : Bool} (ty : TyX K H x t) (h : PySem.W.kitOne K t (.ref C) = some b) (q : Q (.bl b) H) : rIsi2 K [x, .ref C] H Q := .inl ⟨x, .ref C, t, .ref C, b, rfl, .own C, ty, h, q⟩
theorem kit_self {t : Value} : PySem.W.kitOne K t t = some true := by
  unfold PySem.W.kitOne
  rw [if_pos (by simp)]
/-- a value of a built-in type is no instance of an own class -/
theorem kit_bt {c : Str} {T : String} (i : IsC K c) (h : (fastBuiltinMro T).map (·.contains (.ref (He.ga K c))) = some false) : PySem.W.kitOne K (.type T) (.ref (He.ga K c)) = some false := by
  unfold PySem.W.kitOne
  rw [if_neg (by simp)]
  show (if _ then _ else _) = _
  rw [if_pos i.hk]
  exact h
end

end L77
namespace L77
open PySem PySem.Spec PyProof.Rows L2
variable {gd : Bool}
local macro_rules | `(tactic| walk_at "y1") => `(tactic| with_reducible first
  | refine tSeq_i ?_ | refine tAsg_i ?_ | refine tCons_i ?_ | refine tNil_i ?_ | refine tC_i ?_ | refine tOp_i ?_ | refine tIfS_i ?_ | refine tTest_i ?_ | refine exBl_i ?_ | refine tRet_i ?_ | refine tCall_i ?_
  | refine tCB_i ?_ | refine tLst_i ?_ | refine tTup_i ?_ | refine rI0_i ?_ | refine tDrop_i ?_ | refine tNext_i ?_ | refine tB_i ?_ | refine tAnd_i ?_ | refine tOr_i ?_ | refine tNot_i ?_ | refine tAndV_i ?_ | refine tOrV_i ?_ | refine tNotV_i ?_
  | refine tYes_i ?_ | refine tTM_i ?_ | refine tPar_i ?_ | refine tSl_i ?_ | refine tNoPart_i ?_ | refine tPart_i ?_ | refine part_i ?_ | refine tMake_i ?_ | refine tProp_i ?_ | refine tCallOG_i ?_ | refine tVeI_i ?_ | refine tOst_i ?_ | refine tMkO_i ?_ | refine sFld_i ?_ | refine fldaug_i ?_ | refine gCons_i ?_ | refine gNil_i ?_ | refine tChain_i ?_ | refine tBM_i ?_ | refine rAdd2_i ?_ | refine rLe2_i ?_ | refine rEq2_i ?_ | refine rEq2_ss ?_ | refine rNe2_i ?_ | refine rNe2_ss ?_ | refine rIsN_i ?_ | refine rNotN_i ?_ | refine tTup_i2 ?_ | refine tIf_i ?_ | refine tUn_i ?_ | refine tDGet_i ?_ | refine sDPut_i ?_ | refine tFld_i ?_ | refine tRetN_i ?_ | refine tBreak_i ?_ | refine tCont_i ?_ | refine rU_i ?_)
local macro_rules | `(tactic| walk_at "yhead") => `(tactic| dsimp only [L2.start, List.map, List.length_cons, List.length_nil, Nat.reduceAdd, Nat.reduceSub, List.replicate, List.cons_append, List.nil_append])
local macro_rules | `(tactic| walk_at "y2") => `(tactic| first
  | walk_at "y1"
  | ((with_reducible refine tVar_i (v := ?v) ?h ?q); (case h => rfl))
  | ((with_reducible refine gName_i ?_); (dsimp only [L2.wipe, List.set]))
  | with_reducible refine iteT ?_ | with_reducible refine iteF ?_ | with_reducible refine iteNT ?_ | with_reducible refine iteNF ?_
  | ((with_reducible refine iteDT ?h ?q); (case h => first | decide +kernel | omega | assumption | exact nv1 | exact nv2 | exact nv3 | exact nv4)) | ((with_reducible refine iteDF ?h ?q); (case h => first | decide +kernel | omega | assumption | exact nv1 | exact nv2 | exact nv3 | exact nv4))
  | ((with_reducible refine iteNDT ?h ?q); (case h => first | decide +kernel | omega | assumption | exact nv1 | exact nv2 | exact nv3 | exact nv4)) | ((with_reducible refine iteNDF ?h ?q); (case h => first | decide +kernel | omega | assumption | exact nv1 | exact nv2 | exact nv3 | exact nv4))
  | ((with_reducible refine rIsi2_1 (T := ?T) (b := true) ?ty ?h ?q); (case ty => first | exact ty_str | exact ty_int | exact ty_bl | exact ty_non); (case h => decide +kernel))
  | ((with_reducible refine rIsi2_1 (T := ?T) (b := false) ?ty ?h ?q); (case ty => first | exact ty_str | exact ty_int | exact ty_bl | exact ty_non); (case h => decide +kernel))
  | ((with_reducible refine rEq2_s ?h ?q); (case h => rfl)) | ((with_reducible refine rNe2_s ?h ?q); (case h => rfl))
  | ((with_reducible refine rEq_i ?h ?q); (case h => rfl)) | ((with_reducible refine rNe_i ?h ?q); (case h => rfl)))
local macro_rules | `(tactic| walk_at "y") => `(tactic| repeat walk_at "y2")

/-! the package's small tests of texts, for any text -/
def isLetterB (c : Nat) : Bool := (decide (97 ≤ c) && decide (c ≤ 122)) || (decide (65 ≤ c) && decide (c ≤ 90))
def isKindB (s : Str) : Bool := decide (1 ≤ s.length) && (decide (s.length ≤ 12) && ((match s.cps[0]? with | some c => decide (65 ≤ c) && decide (c ≤ 90) | none => false) && s.cps.toList.all isLetterB))
def isLabelC (c : Nat) : Bool := decide (32 ≤ c) && (decide (c ≤ 126) && !decide (c = 37))
def isLabelB (s : Str) : Bool := decide (s.length ≤ 40) && s.cps.toList.all isLabelC
theorem filterMap_cps {β : Type} (g : Nat → β) (a : Array Nat) : ((List.range a.size).filterMap fun i => (a[i]?).map g) = a.toList.map g := by
  have h := filterMap_ix (fun c => some (g c)) a.toList
  rw [Array.length_toList] at h
  rw [show (fun i => (a[i]?).map g) = fun i => (a.toList[i]?).bind fun c => some (g c) by funext i; rw [Array.getElem?_toList]; cases a[i]? <;> rfl, h]
  exact congrFun (List.filterMap_eq_map (f := g)) _
section
variable {P : Program} {w : World} {K : PySem.W.Frag} {mg : Str → Option Value} {base : Heap}
def spLetter : Sp := sp1 fun x H Q _ => ∃ c : Nat, x = .str ⟨#[c]⟩ ∧ Q (.bl (isLetterB c)) H
theorem sc_is_letter : FnScope ["character"] ["character"] (defScope (top 12)) := ⟨rfl, rfl, rfl, by decide +kernel, rfl, by decide +kernel, by decide +kernel⟩
theorem c_is_letter (T : Sy K mg) : Cal gd P w K mg base CX0 1 "is_letter" spLetter := by
  refine T.cal (F_is_letter T) sc_is_letter sp1_len (fun cdv f A outer s H vs Q E z h => ?_) (fun _ _ _ _ _ _ us hl => match us, hl with | [_], _ => rfl)
  have hu1 := hu_1 z; have hu2 := hu_2 z; have hu3 := hu_3 z
  obtain ⟨x0, rfl, h⟩ := h
  obtain ⟨c, rfl, q⟩ := h
  refine ⟨_, (pss_one (ps_ret (pe_or (pe_chain op_le2 op_le2 pe_str (pv 0) pe_str) (pe_one (pe_chain op_le2 op_le2 pe_str (pv 0) pe_str))))), ?_⟩
  walk_at "yhead"; walk_at "y"
  refine rLe2_c1 (n := 97) (by decide +kernel) ?_
  have up : (decide (65 ≤ c) && decide (c ≤ 90)) = isLetterB c → ∀ {Q' : VK}, Q' (.bl (isLetterB c)) H → rLe2 (.str "A") (.str ⟨#[c]⟩) H fun z H3 => ∃ k, z = .bl k ∧ if k = true then tC (.str "Z") [some (.str ⟨#[c]⟩)] H3 fun u H4 => rLe2 (.str ⟨#[c]⟩) u H4 Q' else Q' (.bl false) H3 := fun e {Q'} q' => by
    refine rLe2_c1 (n := 65) (by decide +kernel) ?_
    by_cases h1 : 65 ≤ c
    · refine ⟨_, rfl, iteDT h1 ?_⟩
      walk_at "y"
      refine rLe2_c2 (n := 90) (by decide +kernel) ?_
      rw [← e, decide_eq_true h1, Bool.true_and] at q'
      exact q'
    · refine ⟨_, rfl, iteDF h1 ?_⟩
      rw [← e, decide_eq_false h1, Bool.false_and] at q'
      exact q'
  unfold isLetterB at *
  by_cases h1 : 97 ≤ c
  · refine ⟨_, rfl, iteDT h1 ?_⟩
    walk_at "y"
    refine rLe2_c2 (n := 122) (by decide +kernel) ?_
    by_cases h2 : c ≤ 122
    · refine ⟨_, rfl, iteDT h2 ?_⟩
      rw [decide_eq_true h1, decide_eq_true h2] at q
      exact q
    · refine ⟨_, rfl, iteDF h2 ?_⟩
      walk_at "y"
      exact up (by rw [decide_eq_false h2, Bool.and_false, Bool.false_or]) q
  · refine ⟨_, rfl, iteDF h1 ?_⟩
    walk_at "y"
    exact up (by rw [decide_eq_false h1, Bool.false_and, Bool.false_or]) q
def spKind : Sp := sp1 fun x H Q _ => ∃ s, x = .str s ∧ s.length ≤ 1000 ∧ ∀ H', Same H H' → Q (.bl (isKindB s)) H'
theorem sc_is_kind : FnScope ["value", "character"] ["value"] (defScope (top 13)) := ⟨rfl, rfl, rfl, by decide +kernel, rfl, by decide +kernel, by decide +kernel⟩
theorem c_is_kind (T : Sy K mg) : Cal gd P w K mg base CX0 2 "is_kind" spKind := by
  refine T.cal (F_is_kind T) sc_is_kind sp1_len (fun cdv f A outer s H vs Q E z h => ?_) (fun _ _ _ _ _ _ us hl => match us, hl with | [_], _ => rfl)
  have hu1 := hu_1 z; have hu2 := hu_2 z; have hu3 := hu_3 z
  obtain ⟨x0, rfl, h⟩ := h
  obtain ⟨s, rfl, hs, q⟩ := h
  refine ⟨_, (pss_cons (ps_if (PW.pt (pw_or (pt_not (pt_val (pe_callB (r := rIsi2 K) call_isi2 (by rfl) (T.free "isinstance") (by decide +kernel) (pa_cons (pv 0) (pa_cons (pe_bltn (v := .ty "str") (u := .type "str") (by rfl) (T.free "str") (by decide +kernel) rfl) pa_nil))))) (pw_or1 (pt_not (pt_chain op_le2 op_le2 pe_int (pe_callB (r := rLen2 K) call_len2 (by rfl) (T.free "len") (by decide +kernel) (pa_cons (pv 0) pa_nil)) (pe_gi (T.int "MOST_LETTERS" 12))))))) (pss_one (ps_ret pe_bl)) pss_nil) (pss_one (ps_ret (pe_and (pe_chain op_le2 op_le2 pe_str (pe_ix (r := rGet K) (ix_get hu3) (pv 0) pe_int (fun _ _ => rfl)) pe_str) (pe_one (pe_callB (r := rAll K) (cr_all rfl) (by rfl) (T.free "all") (by decide +kernel) (pa_cons (pe_lc (own := [("character", 1)]) (g := gName 1) (by rfl) sc_is_kind.nd (pi_anyK (K := K) rfl (pv 0)) (blkOk_by (own := [("character", 1)]) (N := ["value", "character"]) (sc := (defScope (top 13))) (by decide +kernel)) (fun _ _ _ _ _ => (pg_name (i := 1) sc_is_kind.nd rfl (by first | exact Or.inl rfl | exact Or.inr rfl))) (fun _ _ _ _ _ => pts_nil) (fun _ _ _ _ _ => (pe_c (c_is_letter T) z (pa_cons (pv 1) pa_nil)))) pa_nil))))))), ?_⟩
  walk_at "yhead"; walk_at "y"
  refine rLen2_s (sz4 hs) ?_
  unfold isKindB at q
  by_cases h1 : 1 ≤ s.length
  · rw [decide_eq_true h1, Bool.true_and] at q
    refine rLe2_i ⟨_, rfl, iteDT (by omega) ?_⟩
    walk_at "y"
    by_cases h2 : s.length ≤ 12
    · rw [decide_eq_true h2, Bool.true_and] at q
      refine iteNDT (by omega) ?_
      walk_at "y"
      obtain ⟨c, hc⟩ : ∃ c, s.cps[0]? = some c := by
        have h3 : 0 < s.cps.size := h1
        exact ⟨s.cps[0], by simp [h3]⟩
      rw [hc] at q
      dsimp only at q
      refine rGet_s (n := 0) (c := c) (sz4 hs) (by rw [Array.getElem?_toList]; exact hc) ?_
      refine rLe2_c1 (n := 65) (by decide +kernel) ?_
      by_cases h3 : 65 ≤ c
      · rw [decide_eq_true h3, Bool.true_and] at q
        refine ⟨_, rfl, iteDT h3 ?_⟩
        walk_at "y"
        refine rLe2_c2 (n := 90) (by decide +kernel) ?_
        by_cases h4 : c ≤ 90
        · rw [decide_eq_true h4, Bool.true_and] at q
          refine ⟨_, rfl, iteDT h4 ?_⟩
          walk_at "y"
          refine lc_s ?_
          walk_at "y"
          refine ⟨_, rfl, lc_pure (walk_str) (sz4 hs) (fun i => (s.cps[i]?).map isLetterB) (firm_FR V.bl) (fun _ _ => trivial) (fun i H0 x H1 y => by obtain ⟨rfl, _⟩ := y; exact Same.refl _) (fun i x H0 H1 hi s0 s1 y N C hC hN => ?_) fun D H1 vs hD s1 h1 pr => ?_⟩
          · obtain ⟨rfl, c', hc', rfl⟩ := y
            walk_at "y"
            refine ⟨rfl, ?_⟩
            walk_at "y"
            exact ⟨_, rfl, c', rfl, hC _ _ (isLetterB c') (Same.refl _) (by rw [hc']; rfl) rfl⟩
          · rw [paired_FR pr, filterMap_cps] at h1
            walk_at "y"
            exact ⟨D, _, rfl, SqL.of h1, by rw [List.all_map]; exact q _ s1⟩
        · rw [decide_eq_false h4, Bool.false_and] at q
          refine ⟨_, rfl, iteDF h4 ?_⟩
          exact q _ (Same.refl _)
      · rw [decide_eq_false h3, Bool.false_and, Bool.false_and] at q
        refine ⟨_, rfl, iteDF h3 ?_⟩
        walk_at "y"
        exact q _ (Same.refl _)
    · rw [decide_eq_false h2, Bool.false_and] at q
      refine iteNDF (by omega) ?_
      walk_at "y"
      exact q _ (Same.refl _)
  · rw [decide_eq_false h1, Bool.false_and] at q
    refine rLe2_i ⟨_, rfl, iteDF (by omega) ?_⟩
    walk_at "y"
    exact q _ (Same.refl _)
def spLabel : Sp := sp1 fun x H Q _ => ∃ s, x = .str s ∧ s.length ≤ 1000 ∧ ∀ H', Same H H' → Q (.bl (isLabelB s)) H'
theorem sc_is_label : FnScope ["value", "character"] ["value"] (defScope (top 14)) := ⟨rfl, rfl, rfl, by decide +kernel, rfl, by decide +kernel, by decide +kernel⟩
theorem c_is_label (T : Sy K mg) : Cal gd P w K mg base CX0 2 "is_label" spLabel := by
  refine T.cal (F_is_label T) sc_is_label sp1_len (fun cdv f A outer s H vs Q E z h => ?_) (fun _ _ _ _ _ _ us hl => match us, hl with | [_], _ => rfl)
  have hu1 := hu_1 z; have hu2 := hu_2 z; have hu3 := hu_3 z
  obtain ⟨x0, rfl, h⟩ := h
  obtain ⟨s, rfl, hs, q⟩ := h
  refine ⟨_, (pss_cons (ps_if (PW.pt (pw_or (pt_not (pt_val (pe_callB (r := rIsi2 K) call_isi2 (by rfl) (T.free "isinstance") (by decide +kernel) (pa_cons (pv 0) (pa_cons (pe_bltn (v := .ty "str") (u := .type "str") (by rfl) (T.free "str") (by decide +kernel) rfl) pa_nil))))) (pw_or1 (pt_cmpR op_gt (pe_callB (r := rLen2 K) call_len2 (by rfl) (T.free "len") (by decide +kernel) (pa_cons (pv 0) pa_nil)) (pe_gi (T.int "MOST_LABEL" 40)) (nomark _))))) (pss_one (ps_ret pe_bl)) pss_nil) (pss_one (ps_ret (pe_callB (r := rAll K) (cr_all rfl) (by rfl) (T.free "all") (by decide +kernel) (pa_cons (pe_lc (own := [("character", 1)]) (g := gName 1) (by rfl) sc_is_label.nd (pi_anyK (K := K) rfl (pv 0)) (blkOk_by (own := [("character", 1)]) (N := ["value", "character"]) (sc := (defScope (top 14))) (by decide +kernel)) (fun _ _ _ _ _ => (pg_name (i := 1) sc_is_label.nd rfl (by first | exact Or.inl rfl | exact Or.inr rfl))) (fun _ _ _ _ _ => pts_nil) (fun _ _ _ _ _ => (pe_and (pe_chain op_le2 op_le2 pe_int (pe_callB call_ord (by rfl) (T.free "ord") (by decide +kernel) (pa_cons (pv 1) pa_nil)) pe_int) (pe_one (pe_cmpR (r := rNe2 K) (op_ne2 hu1) (pe_callB call_ord (by rfl) (T.free "ord") (by decide +kernel) (pa_cons (pv 1) pa_nil)) pe_int (nomark _)))))) pa_nil))))), ?_⟩
  walk_at "yhead"; walk_at "y"
  refine rLen2_s (sz4 hs) ?_
  unfold isLabelB at q
  by_cases h1 : s.length ≤ 40
  · rw [decide_eq_true h1, Bool.true_and] at q
    walk_at "y"
    refine lc_s ?_
    walk_at "y"
    refine ⟨_, rfl, lc_pure (walk_str) (sz4 hs) (fun i => (s.cps[i]?).map isLabelC) (firm_FR V.bl) (fun _ _ => trivial) (fun i H0 x H1 y => by obtain ⟨rfl, _⟩ := y; exact Same.refl _) (fun i x H0 H1 hi s0 s1 y N C hC hN => ?_) fun D H1 vs hD s1 h1 pr => ?_⟩
    · obtain ⟨rfl, c, hc, rfl⟩ := y
      have fin : ∀ b, isLabelC c = b → C (.bl b) H1 := fun b e => hC _ _ b (Same.refl _) (by rw [hc, Option.map_some, e]) rfl
      have e0 : (({ cps := #[c] } : Str).cps.getD 0 0) = c := rfl
      walk_at "y"
      refine ⟨rfl, ?_⟩
      walk_at "y"
      refine ⟨_, rfl, rfl, ?_⟩
      rw [e0]
      unfold isLabelC at fin
      refine rLe2_i ⟨_, rfl, ?_⟩
      by_cases h1 : 32 ≤ c
      · rw [decide_eq_true h1, Bool.true_and] at fin
        refine iteDT (by omega) ?_
        walk_at "y"
        by_cases h2 : c ≤ 126
        · rw [decide_eq_true h2, Bool.true_and] at fin
          refine iteDT (by omega) ?_
          walk_at "y"
          refine ⟨_, rfl, rfl, ?_⟩
          rw [e0]
          refine rNe2_i ?_
          exact fin _ (by rw [show decide ((c : Int) = 37) = decide (c = 37) from decide_eq_decide.mpr (by omega)])
        · rw [decide_eq_false h2, Bool.false_and] at fin
          refine iteDF (by omega) ?_
          exact fin _ rfl
      · rw [decide_eq_false h1, Bool.false_and] at fin
        refine iteDF (by omega) ?_
        walk_at "y"
        exact fin _ rfl
    · rw [paired_FR pr, filterMap_cps] at h1
      walk_at "y"
      exact ⟨D, _, rfl, SqL.of h1, by rw [List.all_map]; exact q _ s1⟩
  · rw [decide_eq_false h1, Bool.false_and] at q
    walk_at "y"
    exact q _ (Same.refl _)
end

end L77
namespace L77
open PySem PySem.Spec PyProof.Rows L2
variable {gd : Bool}
local macro_rules | `(tactic| walk_at "y1") => `(tactic| with_reducible first
  | refine tSeq_i ?_ | refine tAsg_i ?_ | refine tCons_i ?_ | refine tNil_i ?_ | refine tC_i ?_ | refine tOp_i ?_ | refine tIfS_i ?_ | refine tTest_i ?_ | refine exBl_i ?_ | refine tRet_i ?_ | refine tCall_i ?_
  | refine tCB_i ?_ | refine tLst_i ?_ | refine tTup_i ?_ | refine rI0_i ?_ | refine tDrop_i ?_ | refine tNext_i ?_ | refine tB_i ?_ | refine tAnd_i ?_ | refine tOr_i ?_ | refine tNot_i ?_ | refine tAndV_i ?_ | refine tOrV_i ?_ | refine tNotV_i ?_
  | refine tIf_i ?_ | refine tUn_i ?_ | refine tDGet_i ?_ | refine sDPut_i ?_ | refine tFld_i ?_ | refine tRetN_i ?_ | refine tBreak_i ?_ | refine tCont_i ?_ | refine rU_i ?_)
local macro_rules | `(tactic| walk_at "yhead") => `(tactic| dsimp only [L2.start, List.map, List.length_cons, List.length_nil, Nat.reduceAdd, Nat.reduceSub, List.replicate, List.cons_append, List.nil_append])
local macro_rules | `(tactic| walk_at "y2") => `(tactic| first
  | walk_at "y1"
  | ((with_reducible refine tVar_i (v := ?v) ?h ?q); (case h => rfl))
  | ((with_reducible refine gName_i ?_); (dsimp only [List.set]))
  | ((with_reducible refine rEq_i ?h ?q); (case h => rfl)) | ((with_reducible refine rNe_i ?h ?q); (case h => rfl)))
local macro_rules | `(tactic| walk_at "y") => `(tactic| repeat walk_at "y2")

/-! o.f as a target within a tuple of targets -/
section
variable {X : Cx} {K : PySem.W.Frag} {o : Expr} {ta : TE} {f : Str} {pos : Pos}
def gFld (K : PySem.W.Frag) (ta : TE) (f : Str) : TG := fun y σ H Q => ta σ H fun x H2 => ∃ a C dx fs, x = .ref a ∧ H2 a = some (.ins C dx fs) ∧ Cls K C ∧ NoAttr K C f ∧ fs.length < 1000 ∧ Q σ (upd H2 a (.ins C dx (putF f y fs)))
theorem pg_fldK (hK : X.K = K) (ha : PE X o ta) : PG X (.Attribute o f pos) (gFld K ta f) := by
  subst hK
  refine ⟨fun pins s σ H v u Q I r h => ?_⟩
  show wpAny _ _ (do let ov ← holding [u] (eval o X.env); standAt pos.atName; holding [u, ov] (setAttr ov f u); release [u, ov] []) _ _ _
  refine wpAny_bind (wpAny_holding (thn (ha.run pins s σ H _ I h) fun ov s1 ⟨x, H1, I1, rx, a, C, dx, fs, ex, ea, c, n, l, q⟩ => ?_))
  subst ex
  obtain rfl : ov = Value.ref a := rx
  refine wpAny_bind (wpAny_standAt (wpAny_bind (wpAny_holding (setattr_ok I1 ea c n l r fun s3 I3 => ?_))))
  exact wpAny_release ⟨σ, _, I3, q⟩
/-- the store, the heap behind it told by what stands there -/
theorem gfst_i {y : V} {i : Nat} {σ : L2.St} {Q : L2.St → Hp → Prop} {a C dx : Addr} {fs fs' : List (Str × V)} {H : Hp} (h0 : σ[i]? = some (some (.ref a))) (h : H a = some (.ins C dx fs)) (c : Cls K C) (n : NoAttr K C f) (hl : fs.length < 1000) (e : putF f y fs = fs') (q : ∀ H2, H2 a = some (.ins C dx fs') → (∀ b, b ≠ a → H2 b = H b) → Q σ H2) :
    gFld K (tVar i) f y σ H Q := ⟨.ref a, h0, a, C, dx, fs, rfl, h, c, n, hl, q _ (by rw [upd_same, e]) fun b nb => upd_ne nb⟩
end

end L77
namespace L77
open PySem PySem.Spec PyProof.Rows L2
variable {gd : Bool}
local macro_rules | `(tactic| walk_at "y1") => `(tactic| with_reducible first
  | refine tSeq_i ?_ | refine tAsg_i ?_ | refine tCons_i ?_ | refine tNil_i ?_ | refine tC_i ?_ | refine tOp_i ?_ | refine tIfS_i ?_ | refine tTest_i ?_ | refine exBl_i ?_ | refine tRet_i ?_ | refine tCall_i ?_
  | refine tCB_i ?_ | refine tLst_i ?_ | refine tTup_i ?_ | refine rI0_i ?_ | refine tDrop_i ?_ | refine tNext_i ?_ | refine tB_i ?_ | refine tAnd_i ?_ | refine tOr_i ?_ | refine tNot_i ?_ | refine tAndV_i ?_ | refine tOrV_i ?_ | refine tNotV_i ?_
  | refine tYes_i ?_ | refine tTM_i ?_ | refine tPar_i ?_ | refine tSl_i ?_ | refine tNoPart_i ?_ | refine tPart_i ?_ | refine part_i ?_ | refine tMake_i ?_ | refine tProp_i ?_ | refine tCallOG_i ?_ | refine tVeI_i ?_ | refine tOst_i ?_ | refine tMkO_i ?_ | refine sFld_i ?_ | refine fldaug_i ?_ | refine gCons_i ?_ | refine gNil_i ?_ | refine tChain_i ?_ | refine tBM_i ?_ | refine rAdd2_i ?_ | refine rLe2_i ?_ | refine rEq2_i ?_ | refine rEq2_ss ?_ | refine rNe2_i ?_ | refine rNe2_ss ?_ | refine rIsN_i ?_ | refine rNotN_i ?_ | refine tTup_i2 ?_ | refine tIf_i ?_ | refine tUn_i ?_ | refine tDGet_i ?_ | refine sDPut_i ?_ | refine tFld_i ?_ | refine tRetN_i ?_ | refine tBreak_i ?_ | refine tCont_i ?_ | refine rU_i ?_)
local macro_rules | `(tactic| walk_at "yhead") => `(tactic| dsimp only [L2.start, List.map, List.length_cons, List.length_nil, Nat.reduceAdd, Nat.reduceSub, List.replicate, List.cons_append, List.nil_append])
local macro_rules | `(tactic| walk_at "y2") => `(tactic| first
  | walk_at "y1"
  | ((with_reducible refine tVar_i (v := ?v) ?h ?q); (case h => rfl))
  | ((with_reducible refine gName_i ?_); (dsimp only [L2.wipe, List.set]))
  | with_reducible refine iteT ?_ | with_reducible refine iteF ?_ | with_reducible refine iteNT ?_ | with_reducible refine iteNF ?_
  | ((with_reducible refine iteDT ?h ?q); (case h => first | decide +kernel | omega | assumption | exact nv1 | exact nv2 | exact nv3 | exact nv4)) | ((with_reducible refine iteDF ?h ?q); (case h => first | decide +kernel | omega | assumption | exact nv1 | exact nv2 | exact nv3 | exact nv4))
  | ((with_reducible refine iteNDT ?h ?q); (case h => first | decide +kernel | omega | assumption | exact nv1 | exact nv2 | exact nv3 | exact nv4)) | ((with_reducible refine iteNDF ?h ?q); (case h => first | decide +kernel | omega | assumption | exact nv1 | exact nv2 | exact nv3 | exact nv4))
  | ((with_reducible refine rIsi2_1 (T := ?T) (b := true) ?ty ?h ?q); (case ty => first | exact ty_str | exact ty_int | exact ty_bl | exact ty_non); (case h => decide +kernel))
  | ((with_reducible refine rIsi2_1 (T := ?T) (b := false) ?ty ?h ?q); (case ty => first | exact ty_str | exact ty_int | exact ty_bl | exact ty_non); (case h => decide +kernel))
  | ((with_reducible refine rEq2_s ?h ?q); (case h => rfl)) | ((with_reducible refine rNe2_s ?h ?q); (case h => rfl))
  | ((with_reducible refine rEq_i ?h ?q); (case h => rfl)) | ((with_reducible refine rNe_i ?h ?q); (case h => rfl)))
local macro_rules | `(tactic| walk_at "y") => `(tactic| repeat walk_at "y2")

/-! faults -/
def frow (k l : Str) (n : Int) (c u : V) (h : Bool) : List (Str × V) := [("s1_kind", .str k), ("s1_label", .str l), ("s1_number", .int n), ("s1_context", c), ("s1_cause", u), ("s1_hides", .bl h)]
section
variable {P : Program} {w : World} {K : PySem.W.Frag} {mg : Str → Option Value} {base : Heap}
/-- a fault stands at a -/
def FaultAt (K : PySem.W.Frag) (H : Hp) (a dx : Addr) (k l : Str) (n : Int) (c u : V) (h : Bool) : Prop := H a = some (.ins (He.ga K "Fault") dx (frow k l n c u h))
def spFInit (K : PySem.W.Frag) : Sp := fun vs H Q _ => ∃ x dx k l n, vs = [.ref x, .str k, .str l, .int n] ∧ H x = some (.ins (He.ga K "Fault") dx []) ∧ k.length ≤ 1000 ∧ l.length ≤ 1000 ∧ isKindB k = true ∧ isLabelB l = true ∧ 0 ≤ n ∧
  ∀ H', (∀ b o, H b = some o → b ≠ x → H' b = some o) → FaultAt K H' x dx k l n .non .non false → Q .non H'
theorem sc_Fault___init__ : FnScope ["self", "kind", "label", "number"] ["self", "kind", "label", "number"] (defScope (inClass (top 16) 0)) := ⟨rfl, rfl, rfl, by decide +kernel, rfl, by decide +kernel, by decide +kernel⟩
theorem m_Fault (T : Sy K mg) : Mak gd P w K mg base CX0 3 "Fault" (spFInit K) := by
  refine T.mak (F_Fault___init__ T) sc_Fault___init__ (fun vs H Q E h => by obtain ⟨x, dx, k, l, n, rfl, _⟩ := h; rfl) (fun cdv f A outer s H vs Q E z h => ?_) (fun _ _ _ _ _ _ us hl => match us, hl with | [_, _, _, _], _ => rfl)
  have hu1 := hu_1 z; have hu2 := hu_2 z; have hu3 := hu_3 z
  obtain ⟨x, dx, k, l, n, rfl, hx, hk, hl, kk, ll, n0, q⟩ := h
  refine ⟨_, (pss_cons (ps_if (pt_not (pt_val (pe_c (c_is_kind T) z (pa_cons (pv 1) pa_nil)))) (pss_one ps_never) pss_nil) (pss_cons (ps_if (pt_not (pt_val (pe_c (c_is_label T) z (pa_cons (pv 2) pa_nil)))) (pss_one ps_never) pss_nil) (pss_cons (ps_if (PW.pt (pw_or (pt_not (pt_val (pe_callB (r := rIsi2 K) call_isi2 (by rfl) (T.free "isinstance") (by decide +kernel) (pa_cons (pv 3) (pa_cons (pe_bltn (v := .ty "int") (u := .type "int") (by rfl) (T.free "int") (by decide +kernel) rfl) pa_nil))))) (pw_or (pt_val (pe_callB (r := rIsi2 K) call_isi2 (by rfl) (T.free "isinstance") (by decide +kernel) (pa_cons (pv 3) (pa_cons (pe_bltn (v := .ty "bool") (u := .type "bool") (by rfl) (T.free "bool") (by decide +kernel) rfl) pa_nil)))) (pw_or1 (pt_cmpR op_lt (pv 3) pe_int (nomark _)))))) (pss_one ps_never) pss_nil) (pss_cons (ps_asg (pe_tup (pa_cons (pv 1) (pa_cons (pv 2) (pa_cons (pv 3) pa_nil)))) (pg_tupK (K := K) rfl (by rfl) (pgs_cons (pg_fldK (K := K) rfl (pv 0)) (pgs_cons (pg_fldK (K := K) rfl (pv 0)) (pgs_cons (pg_fldK (K := K) rfl (pv 0)) pgs_nil))))) (pss_cons (ps_fldK (K := K) rfl (pv 0) pe_non) (pss_cons (ps_fldK (K := K) rfl (pv 0) pe_non) (pss_one (ps_fldK (K := K) rfl (pv 0) pe_bl)))))))), ?_⟩
  walk_at "yhead"; walk_at "y"
  refine ⟨_, rfl, k, rfl, hk, fun H1 s1 => ?_⟩
  rw [kk]
  refine ⟨_, rfl, ?_⟩
  walk_at "y"
  refine ⟨_, rfl, l, rfl, hl, fun H2 s2 => ?_⟩
  rw [ll]
  refine ⟨_, rfl, ?_⟩
  walk_at "y"
  refine ⟨sz4 (by simp), fun T1 nT1 => ?_⟩
  have sH3 := same_upd (H := H2) (o := .tup [.str k, .str l, .int n]) nT1
  have eT1 := upd_same (H := H2) (a := T1) (o := .tup [.str k, .str l, .int n])
  generalize upd H2 T1 (.tup [.str k, .str l, .int n]) = H3 at sH3 eT1 ⊢
  refine gTup_i (SqT.of eT1) ?_
  have s3 := (s1.trans s2).trans sH3
  have hx3 := s3 _ _ hx
  have cl := T.cls "Fault"
  walk_at "y"
  refine gfst_i rfl hx3 cl (T.noat "Fault" "s1_kind") (by decide) (fs' := [("s1_kind", .str k)]) (by kernel_rfl) fun H4 h4 u4 => ?_
  walk_at "y"
  refine gfst_i rfl h4 cl (T.noat "Fault" "s1_label") (by show 1 < 1000; decide) (fs' := [("s1_kind", .str k), ("s1_label", .str l)]) (by kernel_rfl) fun H5 h5 u5 => ?_
  walk_at "y"
  refine gfst_i rfl h5 cl (T.noat "Fault" "s1_number") (by show 2 < 1000; decide) (fs' := [("s1_kind", .str k), ("s1_label", .str l), ("s1_number", .int n)]) (by kernel_rfl) fun H6 h6 u6 => ?_
  walk_at "y"
  refine fstU_i h6 cl (T.noat "Fault" "s1_context") (by show 3 < 1000; decide) (fs' := [("s1_kind", .str k), ("s1_label", .str l), ("s1_number", .int n), ("s1_context", .non)]) (by kernel_rfl) fun H7 h7 u7 => ?_
  walk_at "y"
  refine fstU_i h7 cl (T.noat "Fault" "s1_cause") (by show 4 < 1000; decide) (fs' := [("s1_kind", .str k), ("s1_label", .str l), ("s1_number", .int n), ("s1_context", .non), ("s1_cause", .non)]) (by kernel_rfl) fun H8 h8 u8 => ?_
  walk_at "y"
  refine fstU_i h8 cl (T.noat "Fault" "s1_hides") (by show 5 < 1000; decide) (fs' := frow k l n .non .non false) (by kernel_rfl) fun H9 h9 u9 => ?_
  exact q H9 (fun b o e nb => by rw [u9 b nb, u8 b nb, u7 b nb, u6 b nb, u5 b nb, u4 b nb]; exact s3 _ _ e) h9
end

end L77
namespace L77
open PySem PySem.Spec PyProof.Rows L2
variable {gd : Bool}
local macro_rules | `(tactic| walk_at "y1") => `(tactic| with_reducible first
  | refine tSeq_i ?_ | refine tAsg_i ?_ | refine tCons_i ?_ | refine tNil_i ?_ | refine tC_i ?_ | refine tOp_i ?_ | refine tIfS_i ?_ | refine tTest_i ?_ | refine exBl_i ?_ | refine tRet_i ?_ | refine tCall_i ?_
  | refine tCB_i ?_ | refine tLst_i ?_ | refine tTup_i ?_ | refine rI0_i ?_ | refine tDrop_i ?_ | refine tNext_i ?_ | refine tB_i ?_ | refine tAnd_i ?_ | refine tOr_i ?_ | refine tNot_i ?_ | refine tAndV_i ?_ | refine tOrV_i ?_ | refine tNotV_i ?_
  | refine tIf_i ?_ | refine tUn_i ?_ | refine tDGet_i ?_ | refine sDPut_i ?_ | refine tFld_i ?_ | refine tRetN_i ?_ | refine tBreak_i ?_ | refine tCont_i ?_ | refine rU_i ?_)
local macro_rules | `(tactic| walk_at "yhead") => `(tactic| dsimp only [L2.start, List.map, List.length_cons, List.length_nil, Nat.reduceAdd, Nat.reduceSub, List.replicate, List.cons_append, List.nil_append])
local macro_rules | `(tactic| walk_at "y2") => `(tactic| first
  | walk_at "y1"
  | ((with_reducible refine tVar_i (v := ?v) ?h ?q); (case h => rfl))
  | ((with_reducible refine gName_i ?_); (dsimp only [List.set]))
  | ((with_reducible refine rEq_i ?h ?q); (case h => rfl)) | ((with_reducible refine rNe_i ?h ?q); (case h => rfl)))
local macro_rules | `(tactic| walk_at "y") => `(tactic| repeat walk_at "y2")

section
variable {P : Program} {w : World} {K : PySem.W.Frag} {mg : Str → Option Value} {base : Heap}
theorem FnG.quiet {n : Nat} {f : Addr} {fd : FuncData} {ps : List Str} {sp : Sp} (F : FnG gd P w K mg base (CX P w) n f fd ps sp) : FnG gd P w K mg base CX0 n f fd ps (fun vs H Q _ => sp vs H Q fun _ _ _ => False) :=
  ⟨fun vs H Q E q => F.len _ _ _ _ q, fun A out st H ag us vs Q E z he hb hv q => codeAny_mono (F.run A out st H ag us vs Q _ z he hb hv q) fun r sz h => by
    cases r with
    | ok fl => cases fl <;> exact h
    | error e => exact (let ⟨_, _, _, _, _, _, _, _, _, _, _, _, q⟩ := h; False.elim q)⟩
/-- a property of the class named c -/
structure Prp (gd : Bool) (P : Program) (w : World) (K : PySem.W.Frag) (mg : Str → Option Value) (base : Heap) (k : Nat) (c f : Str) (sp : Sp) : Prop where
  ex : ∃ (p g : Addr) (fd : FuncData) (ps : List Str), Cls K (He.ga K c) ∧ PropOf K (He.ga K c) f p g ∧ FnG gd P w K mg base CX0 k g fd ps sp ∧ Binds K fd ps []
theorem pe_prK {X : Cx} {k j : Nat} {c f : Str} {sp : Sp} {e : Expr} {ta : TE} {pos : Pos} (hK : X.K = K) (m : Prp gd X.prog X.w K X.mg X.base k c f sp) (z : RG gd j X.A) (he : PE X e ta) (hk : k + 1 ≤ j := by decide)
    (hab : attributeBase e f X.env (eval e X.env) = eval e X.env := by rfl) : PE X (.Attribute e f pos) (tProp (He.ga K c) sp [] E0 ta) := by
  subst hK
  obtain ⟨p, g, fd, ps, cl, hp, F, b⟩ := m.ex
  exact pe_propG he cl hp F (z.mono hk) b .nil pass0 hab
theorem Sy.prp (T : Sy K mg) (n : Nat) {c f q : Str} {i j : Nat} {N ps : List Str} {k : Nat} {sp : Sp} (h : pr[n]? = some ⟨c, f, dM c f q i j⟩)
    (S : FnScope N ps (defScope (inClass (top i) j))) (len : ∀ vs H Q E, sp vs H Q E → vs.length = ps.length)
    (hbody : ∀ (cdv : Value) (g : Addr) (A : Around) (outer : List Env) (s : Shared) (H : Hp) (vs : List V) (Q : VK) (E : XK), RG gd k (A.deeper (envOfC q (defScope (inClass (top i) j)) s.heap.objs.size g cdv)) → sp vs H Q E →
      ∃ t, PSs (cxOf CX0 P w K mg base N q (defScope (inClass (top i) j)) g cdv A outer s H E).nox (defBody (inClass (top i) j)) t ∧ t { nx := fun _ H' => Q .non H', rt := Q } (start N vs) H)
    (hb : ∀ (kV doc pm : Value) (an : Option Addr) (cdv ct : Value) (us : List Value), us.length = ps.length → bindArgs (PySem.W.fnOf f q (defArgs (inClass (top i) j)) (defBody (inClass (top i) j)) (defScope (inClass (top i) j)) .none kV doc pm an cdv ct) ⟨us, []⟩ = pure (ps.zip us))
    (hc : fa.any (isCls c) = true := by decide +kernel) : Prp gd P w K mg base (k + 1) c f sp := by
  obtain ⟨hp, fd, F⟩ := T.p n _ h
  refine ⟨_, _, fd, ps, T.cls c hc, hp, FnG.body F S len fun cdv A outer s H vs Q E hr h => ?_, F.bindsN hb⟩
  obtain ⟨t, h1, h2⟩ := hbody cdv _ A outer s H vs Q E hr h
  exact ⟨t, h1.nox, h2⟩
end

end L77
namespace L77
open PySem PySem.Spec PyProof.Rows L2
variable {gd : Bool}
local macro_rules | `(tactic| walk_at "y1") => `(tactic| with_reducible first
  | refine tSeq_i ?_ | refine tAsg_i ?_ | refine tCons_i ?_ | refine tNil_i ?_ | refine tC_i ?_ | refine tOp_i ?_ | refine tIfS_i ?_ | refine tTest_i ?_ | refine exBl_i ?_ | refine tRet_i ?_ | refine tCall_i ?_
  | refine tCB_i ?_ | refine tLst_i ?_ | refine tTup_i ?_ | refine rI0_i ?_ | refine tDrop_i ?_ | refine tNext_i ?_ | refine tB_i ?_ | refine tAnd_i ?_ | refine tOr_i ?_ | refine tNot_i ?_ | refine tAndV_i ?_ | refine tOrV_i ?_ | refine tNotV_i ?_
  | refine tYes_i ?_ | refine tTM_i ?_ | refine tPar_i ?_ | refine tSl_i ?_ | refine tNoPart_i ?_ | refine tPart_i ?_ | refine part_i ?_ | refine tMake_i ?_ | refine tProp_i ?_ | refine tCallOG_i ?_ | refine tVeI_i ?_ | refine tOst_i ?_ | refine tMkO_i ?_ | refine sFld_i ?_ | refine fldaug_i ?_ | refine gCons_i ?_ | refine gNil_i ?_ | refine tChain_i ?_ | refine tBM_i ?_ | refine rAdd2_i ?_ | refine rLe2_i ?_ | refine rEq2_i ?_ | refine rEq2_ss ?_ | refine rNe2_i ?_ | refine rNe2_ss ?_ | refine rIsN_i ?_ | refine rNotN_i ?_ | refine tTup_i2 ?_ | refine tIf_i ?_ | refine tUn_i ?_ | refine tDGet_i ?_ | refine sDPut_i ?_ | refine tFld_i ?_ | refine tRetN_i ?_ | refine tBreak_i ?_ | refine tCont_i ?_ | refine rU_i ?_)
local macro_rules | `(tactic| walk_at "yhead") => `(tactic| dsimp only [L2.start, List.map, List.length_cons, List.length_nil, Nat.reduceAdd, Nat.reduceSub, List.replicate, List.cons_append, List.nil_append])
local macro_rules | `(tactic| walk_at "y2") => `(tactic| first
  | walk_at "y1"
  | ((with_reducible refine tVar_i (v := ?v) ?h ?q); (case h => rfl))
  | ((with_reducible refine gName_i ?_); (dsimp only [L2.wipe, List.set]))
  | with_reducible refine iteT ?_ | with_reducible refine iteF ?_ | with_reducible refine iteNT ?_ | with_reducible refine iteNF ?_
  | ((with_reducible refine iteDT ?h ?q); (case h => first | decide +kernel | omega | assumption | exact nv1 | exact nv2 | exact nv3 | exact nv4)) | ((with_reducible refine iteDF ?h ?q); (case h => first | decide +kernel | omega | assumption | exact nv1 | exact nv2 | exact nv3 | exact nv4))
  | ((with_reducible refine iteNDT ?h ?q); (case h => first | decide +kernel | omega | assumption | exact nv1 | exact nv2 | exact nv3 | exact nv4)) | ((with_reducible refine iteNDF ?h ?q); (case h => first | decide +kernel | omega | assumption | exact nv1 | exact nv2 | exact nv3 | exact nv4))
  | ((with_reducible refine rIsi2_1 (T := ?T) (b := true) ?ty ?h ?q); (case ty => first | exact ty_str | exact ty_int | exact ty_bl | exact ty_non); (case h => decide +kernel))
  | ((with_reducible refine rIsi2_1 (T := ?T) (b := false) ?ty ?h ?q); (case ty => first | exact ty_str | exact ty_int | exact ty_bl | exact ty_non); (case h => decide +kernel))
  | ((with_reducible refine rEq2_s ?h ?q); (case h => rfl)) | ((with_reducible refine rNe2_s ?h ?q); (case h => rfl))
  | ((with_reducible refine rEq_i ?h ?q); (case h => rfl)) | ((with_reducible refine rNe_i ?h ?q); (case h => rfl)))
local macro_rules | `(tactic| walk_at "y") => `(tactic| repeat walk_at "y2")

section
variable {P : Program} {w : World} {K : PySem.W.Frag} {mg : Str → Option Value} {base : Heap}
def spFld (K : PySem.W.Frag) (c f : Str) : Sp := sp1 fun v H Q _ => ∃ a dx fs x, v = .ref a ∧ H a = some (.ins (He.ga K c) dx fs) ∧ fs.lookup f = some x ∧ Q x H
theorem spFld_i {c f : Str} {H : Hp} {Q : VK} {E : XK} {a dx : Addr} {fs : List (Str × V)} {x : V} (h : H a = some (.ins (He.ga K c) dx fs)) (e : fs.lookup f = some x) (q : Q x H) :
    ∃ a' dx' fs', V.ref a = .ref a' ∧ H a' = some (.ins (He.ga K c) dx' fs') ∧ spFld K c f (.ref a' :: []) H Q E := ⟨a, dx, fs, rfl, h, _, rfl, a, dx, fs, x, rfl, h, e, q⟩
theorem sc_Fault_kind : FnScope ["self"] ["self"] (defScope (inClass (top 16) 1)) := ⟨rfl, rfl, rfl, by decide +kernel, rfl, by decide +kernel, by decide +kernel⟩
theorem p_kind (T : Sy K mg) : Prp gd P w K mg base 1 "Fault" "kind" (spFld K "Fault" "s1_kind") := by
  refine T.prp 0 rfl sc_Fault_kind sp1_len (fun cdv g A outer s H vs Q E z h => ?_) (fun _ _ _ _ _ _ us hl => match us, hl with | [_], _ => rfl)
  obtain ⟨_, rfl, a, dx, fs, x, rfl, hx, e, q⟩ := h
  refine ⟨_, (pss_one (ps_ret (pe_fldK (K := K) rfl (pv 0)))), ?_⟩
  walk_at "yhead"; walk_at "y"
  exact fld_j (v := x) hx (T.cls "Fault") (T.noat "Fault" "s1_kind") e q
theorem sc_Fault_label : FnScope ["self"] ["self"] (defScope (inClass (top 16) 2)) := ⟨rfl, rfl, rfl, by decide +kernel, rfl, by decide +kernel, by decide +kernel⟩
theorem p_label (T : Sy K mg) : Prp gd P w K mg base 1 "Fault" "label" (spFld K "Fault" "s1_label") := by
  refine T.prp 1 rfl sc_Fault_label sp1_len (fun cdv g A outer s H vs Q E z h => ?_) (fun _ _ _ _ _ _ us hl => match us, hl with | [_], _ => rfl)
  obtain ⟨_, rfl, a, dx, fs, x, rfl, hx, e, q⟩ := h
  refine ⟨_, (pss_one (ps_ret (pe_fldK (K := K) rfl (pv 0)))), ?_⟩
  walk_at "yhead"; walk_at "y"
  exact fld_j (v := x) hx (T.cls "Fault") (T.noat "Fault" "s1_label") e q
theorem sc_Fault_number : FnScope ["self"] ["self"] (defScope (inClass (top 16) 3)) := ⟨rfl, rfl, rfl, by decide +kernel, rfl, by decide +kernel, by decide +kernel⟩
theorem p_number (T : Sy K mg) : Prp gd P w K mg base 1 "Fault" "number" (spFld K "Fault" "s1_number") := by
  refine T.prp 2 rfl sc_Fault_number sp1_len (fun cdv g A outer s H vs Q E z h => ?_) (fun _ _ _ _ _ _ us hl => match us, hl with | [_], _ => rfl)
  obtain ⟨_, rfl, a, dx, fs, x, rfl, hx, e, q⟩ := h
  refine ⟨_, (pss_one (ps_ret (pe_fldK (K := K) rfl (pv 0)))), ?_⟩
  walk_at "yhead"; walk_at "y"
  exact fld_j (v := x) hx (T.cls "Fault") (T.noat "Fault" "s1_number") e q
theorem sc_Fault_context : FnScope ["self"] ["self"] (defScope (inClass (top 16) 4)) := ⟨rfl, rfl, rfl, by decide +kernel, rfl, by decide +kernel, by decide +kernel⟩
theorem p_context (T : Sy K mg) : Prp gd P w K mg base 1 "Fault" "context" (spFld K "Fault" "s1_context") := by
  refine T.prp 3 rfl sc_Fault_context sp1_len (fun cdv g A outer s H vs Q E z h => ?_) (fun _ _ _ _ _ _ us hl => match us, hl with | [_], _ => rfl)
  obtain ⟨_, rfl, a, dx, fs, x, rfl, hx, e, q⟩ := h
  refine ⟨_, (pss_one (ps_ret (pe_fldK (K := K) rfl (pv 0)))), ?_⟩
  walk_at "yhead"; walk_at "y"
  exact fld_j (v := x) hx (T.cls "Fault") (T.noat "Fault" "s1_context") e q
theorem sc_Fault_cause : FnScope ["self"] ["self"] (defScope (inClass (top 16) 5)) := ⟨rfl, rfl, rfl, by decide +kernel, rfl, by decide +kernel, by decide +kernel⟩
theorem p_cause (T : Sy K mg) : Prp gd P w K mg base 1 "Fault" "cause" (spFld K "Fault" "s1_cause") := by
  refine T.prp 4 rfl sc_Fault_cause sp1_len (fun cdv g A outer s H vs Q E z h => ?_) (fun _ _ _ _ _ _ us hl => match us, hl with | [_], _ => rfl)
  obtain ⟨_, rfl, a, dx, fs, x, rfl, hx, e, q⟩ := h
  refine ⟨_, (pss_one (ps_ret (pe_fldK (K := K) rfl (pv 0)))), ?_⟩
  walk_at "yhead"; walk_at "y"
  exact fld_j (v := x) hx (T.cls "Fault") (T.noat "Fault" "s1_cause") e q
theorem sc_Fault_hides : FnScope ["self"] ["self"] (defScope (inClass (top 16) 6)) := ⟨rfl, rfl, rfl, by decide +kernel, rfl, by decide +kernel, by decide +kernel⟩
theorem p_hides (T : Sy K mg) : Prp gd P w K mg base 1 "Fault" "hides" (spFld K "Fault" "s1_hides") := by
  refine T.prp 5 rfl sc_Fault_hides sp1_len (fun cdv g A outer s H vs Q E z h => ?_) (fun _ _ _ _ _ _ us hl => match us, hl with | [_], _ => rfl)
  obtain ⟨_, rfl, a, dx, fs, x, rfl, hx, e, q⟩ := h
  refine ⟨_, (pss_one (ps_ret (pe_fldK (K := K) rfl (pv 0)))), ?_⟩
  walk_at "yhead"; walk_at "y"
  exact fld_j (v := x) hx (T.cls "Fault") (T.noat "Fault" "s1_hides") e q
end

end L77
namespace L77
open PySem PySem.Spec PyProof.Rows L2
variable {gd : Bool}
local macro_rules | `(tactic| walk_at "y1") => `(tactic| with_reducible first
  | refine tSeq_i ?_ | refine tAsg_i ?_ | refine tCons_i ?_ | refine tNil_i ?_ | refine tC_i ?_ | refine tOp_i ?_ | refine tIfS_i ?_ | refine tTest_i ?_ | refine exBl_i ?_ | refine tRet_i ?_ | refine tCall_i ?_
  | refine tCB_i ?_ | refine tLst_i ?_ | refine tTup_i ?_ | refine rI0_i ?_ | refine tDrop_i ?_ | refine tNext_i ?_ | refine tB_i ?_ | refine tAnd_i ?_ | refine tOr_i ?_ | refine tNot_i ?_ | refine tAndV_i ?_ | refine tOrV_i ?_ | refine tNotV_i ?_
  | refine tYes_i ?_ | refine tTM_i ?_ | refine tPar_i ?_ | refine tSl_i ?_ | refine tNoPart_i ?_ | refine tPart_i ?_ | refine part_i ?_ | refine tMake_i ?_ | refine tProp_i ?_ | refine tCallOG_i ?_ | refine tVeI_i ?_ | refine tOst_i ?_ | refine tMkO_i ?_ | refine sFld_i ?_ | refine fldaug_i ?_ | refine gCons_i ?_ | refine gNil_i ?_ | refine tChain_i ?_ | refine tBM_i ?_ | refine rAdd2_i ?_ | refine rLe2_i ?_ | refine rEq2_i ?_ | refine rEq2_ss ?_ | refine rNe2_i ?_ | refine rNe2_ss ?_ | refine rIsN_i ?_ | refine rNotN_i ?_ | refine tTup_i2 ?_ | refine tIf_i ?_ | refine tUn_i ?_ | refine tDGet_i ?_ | refine sDPut_i ?_ | refine tFld_i ?_ | refine tRetN_i ?_ | refine tBreak_i ?_ | refine tCont_i ?_ | refine rU_i ?_)
local macro_rules | `(tactic| walk_at "yhead") => `(tactic| dsimp only [L2.start, List.map, List.length_cons, List.length_nil, Nat.reduceAdd, Nat.reduceSub, List.replicate, List.cons_append, List.nil_append])
local macro_rules | `(tactic| walk_at "y2") => `(tactic| first
  | walk_at "y1"
  | ((with_reducible refine tVar_i (v := ?v) ?h ?q); (case h => rfl))
  | ((with_reducible refine gName_i ?_); (dsimp only [L2.wipe, List.set]))
  | with_reducible refine iteT ?_ | with_reducible refine iteF ?_ | with_reducible refine iteNT ?_ | with_reducible refine iteNF ?_
  | ((with_reducible refine iteDT ?h ?q); (case h => first | decide +kernel | omega | assumption | exact nv1 | exact nv2 | exact nv3 | exact nv4)) | ((with_reducible refine iteDF ?h ?q); (case h => first | decide +kernel | omega | assumption | exact nv1 | exact nv2 | exact nv3 | exact nv4))
  | ((with_reducible refine iteNDT ?h ?q); (case h => first | decide +kernel | omega | assumption | exact nv1 | exact nv2 | exact nv3 | exact nv4)) | ((with_reducible refine iteNDF ?h ?q); (case h => first | decide +kernel | omega | assumption | exact nv1 | exact nv2 | exact nv3 | exact nv4))
  | ((with_reducible refine rIsi2_1 (T := ?T) (b := true) ?ty ?h ?q); (case ty => first | exact ty_str | exact ty_int | exact ty_bl | exact ty_non); (case h => decide +kernel))
  | ((with_reducible refine rIsi2_1 (T := ?T) (b := false) ?ty ?h ?q); (case ty => first | exact ty_str | exact ty_int | exact ty_bl | exact ty_non); (case h => decide +kernel))
  | ((with_reducible refine rEq2_s ?h ?q); (case h => rfl)) | ((with_reducible refine rNe2_s ?h ?q); (case h => rfl))
  | ((with_reducible refine rEq_i ?h ?q); (case h => rfl)) | ((with_reducible refine rNe_i ?h ?q); (case h => rfl)))
local macro_rules | `(tactic| walk_at "y") => `(tactic| repeat walk_at "y2")

/-! faults with their links -/
structure Flt1 where
  a : Addr
  dx : Addr
  k : Str
  l : Str
  c : Option Nat
  u : Option Nat
  h : Bool
def adr (fs : List Flt1) (j : Nat) : V := match fs[j]? with | some r => .ref r.a | none => .non
def lnk (fs : List Flt1) : Option Nat → V
  | none => .non
  | some j => adr fs j
/-- the faults fs stand, each at its place, with their links -/
structure FAt (K : PySem.W.Frag) (H : Hp) (fs : List Flt1) : Prop where
  at_ : ∀ (i : Nat) (r : Flt1), fs[i]? = some r → FaultAt K H r.a r.dx r.k r.l (i : Nat) (lnk fs r.c) (lnk fs r.u) r.h
  nd : ∀ (i j : Nat) (r q : Flt1), fs[i]? = some r → fs[j]? = some q → r.a = q.a → i = j
  c : ∀ r ∈ fs, ∀ j, r.c = some j → j < fs.length
  u : ∀ r ∈ fs, ∀ j, r.u = some j → j < fs.length
/-- what is no fault stays -/
def OffF (fs : List Flt1) (H H' : Hp) : Prop := ∀ b o, H b = some o → (∀ r ∈ fs, r.a ≠ b) → H' b = some o
theorem lnk_some {fs : List Flt1} {j : Nat} {r : Flt1} (h : fs[j]? = some r) : lnk fs (some j) = .ref r.a := by
  show adr fs j = _
  unfold adr
  rw [h]
theorem FAt.off {K : PySem.W.Frag} {H H' : Hp} {fs : List Flt1} (h : FAt K H fs) (s : ∀ r ∈ fs, H' r.a = H r.a) : FAt K H' fs := ⟨fun i r e => (s r (List.mem_of_getElem? e)).trans (h.at_ i r e), h.nd, h.c, h.u⟩
theorem FAt.same {K : PySem.W.Frag} {H H' : Hp} {fs : List Flt1} (h : FAt K H fs) (s : Same H H') : FAt K H' fs := ⟨fun i r e => s _ _ (h.at_ i r e), h.nd, h.c, h.u⟩
/-- the addresses, kinds and labels -/
def SameId (fs gs : List Flt1) : Prop := fs.map (fun r => (r.a, r.dx, r.k, r.l)) = gs.map (fun r => (r.a, r.dx, r.k, r.l))
def setF (fs : List Flt1) (i : Nat) (g : Flt1 → Flt1) : List Flt1 := match fs[i]? with | some r => fs.set i (g r) | none => fs
theorem setF_len (fs : List Flt1) (i : Nat) (g : Flt1 → Flt1) : (setF fs i g).length = fs.length := by
  unfold setF
  split <;> simp
theorem setF_get {fs : List Flt1} {i : Nat} {r : Flt1} (g : Flt1 → Flt1) (h : fs[i]? = some r) (j : Nat) : (setF fs i g)[j]? = if j = i then some (g r) else fs[j]? := by
  unfold setF
  rw [h]
  dsimp only
  rw [List.getElem?_set]
  have hi := (List.getElem?_eq_some_iff.mp h).1
  by_cases e : i = j
  · subst e; rw [if_pos rfl, if_pos hi, if_pos rfl]
  · rw [if_neg e, if_neg (Ne.symm e)]
theorem lnk_setF {fs : List Flt1} {i : Nat} {r : Flt1} {g : Flt1 → Flt1} (h : fs[i]? = some r) (hg : (g r).a = r.a) : ∀ x, lnk (setF fs i g) x = lnk fs x
  | none => rfl
  | some j => by
    show adr (setF fs i g) j = adr fs j
    unfold adr
    rw [setF_get g h j]
    by_cases e : j = i
    · subst e; rw [if_pos rfl, h]; dsimp only; rw [hg]
    · rw [if_neg e]
/-- one fault changed, at its own place alone -/
theorem FAt.set {K : PySem.W.Frag} {H H' : Hp} {fs : List Flt1} {i : Nat} {r : Flt1} {g : Flt1 → Flt1} (h : FAt K H fs) (e : fs[i]? = some r) (ga : (g r).a = r.a) (hn : FaultAt K H' (g r).a (g r).dx (g r).k (g r).l (i : Nat) (lnk fs (g r).c) (lnk fs (g r).u) (g r).h)
    (off : ∀ b, b ≠ r.a → H' b = H b) (hc : ∀ j, (g r).c = some j → j < fs.length) (hu : ∀ j, (g r).u = some j → j < fs.length) : FAt K H' (setF fs i g) := by
  have mem : ∀ q ∈ setF fs i g, q = g r ∨ q ∈ fs := fun q hq => by
    obtain ⟨j, hj⟩ := List.getElem?_of_mem hq
    rw [setF_get g e j] at hj
    split at hj
    · exact .inl (Option.some.inj hj).symm
    · exact .inr (List.mem_of_getElem? hj)
  refine ⟨fun j q hq => ?_, fun j k q p hq hp ea => ?_, fun q hq j hj => ?_, fun q hq j hj => ?_⟩
  · rw [setF_get g e j] at hq
    by_cases ej : j = i
    · rw [if_pos ej] at hq
      cases hq
      subst ej
      rw [lnk_setF e ga, lnk_setF e ga]
      exact hn
    · rw [if_neg ej] at hq
      rw [lnk_setF e ga, lnk_setF e ga]
      have na : q.a ≠ r.a := fun z => ej (h.nd j i q r hq e z)
      show H' q.a = _
      rw [off q.a na]
      exact h.at_ j q hq
  · rw [setF_get g e j] at hq
    rw [setF_get g e k] at hp
    by_cases ej : j = i <;> by_cases ek : k = i
    · omega
    · rw [if_pos ej] at hq; rw [if_neg ek] at hp; cases hq; rw [ga] at ea; exact ej.trans (h.nd i k r p e hp ea)
    · rw [if_neg ej] at hq; rw [if_pos ek] at hp; cases hp; rw [ga] at ea; exact (h.nd j i q r hq e ea).trans ek.symm
    · rw [if_neg ej] at hq; rw [if_neg ek] at hp; exact h.nd j k q p hq hp ea
  · rw [setF_len]
    rcases mem q hq with rfl | hq
    · exact hc j hj
    · exact h.c q hq j hj
  · rw [setF_len]
    rcases mem q hq with rfl | hq
    · exact hu j hj
    · exact h.u q hq j hj
/-- going along contexts comes to an end -/
inductive Ends_ (nx : Nat → Option Nat) : Nat → Nat → Prop where
  | last {i : Nat} (h : nx i = none) : Ends_ nx 0 i
  | step {n i j : Nat} (h : nx i = some j) (t : Ends_ nx n j) : Ends_ nx (n + 1) i
def ctxOf (fs : List Flt1) (i : Nat) : Option Nat := (fs[i]?).bind Flt1.c
def causeOf (fs : List Flt1) (i : Nat) : Option Nat := (fs[i]?).bind Flt1.u
def Acyc (fs : List Flt1) : Prop := ∀ i, ∃ n, Ends_ (ctxOf fs) n i

end L77
namespace L77
open PySem PySem.Spec PyProof.Rows L2
variable {gd : Bool}
local macro_rules | `(tactic| walk_at "y1") => `(tactic| with_reducible first
  | refine tSeq_i ?_ | refine tAsg_i ?_ | refine tCons_i ?_ | refine tNil_i ?_ | refine tC_i ?_ | refine tOp_i ?_ | refine tIfS_i ?_ | refine tTest_i ?_ | refine exBl_i ?_ | refine tRet_i ?_ | refine tCall_i ?_
  | refine tCB_i ?_ | refine tLst_i ?_ | refine tTup_i ?_ | refine rI0_i ?_ | refine tDrop_i ?_ | refine tNext_i ?_ | refine tB_i ?_ | refine tAnd_i ?_ | refine tOr_i ?_ | refine tNot_i ?_ | refine tAndV_i ?_ | refine tOrV_i ?_ | refine tNotV_i ?_
  | refine tIf_i ?_ | refine tUn_i ?_ | refine tDGet_i ?_ | refine sDPut_i ?_ | refine tFld_i ?_ | refine tRetN_i ?_ | refine tBreak_i ?_ | refine tCont_i ?_ | refine rU_i ?_)
local macro_rules | `(tactic| walk_at "yhead") => `(tactic| dsimp only [L2.start, List.map, List.length_cons, List.length_nil, Nat.reduceAdd, Nat.reduceSub, List.replicate, List.cons_append, List.nil_append])
local macro_rules | `(tactic| walk_at "y2") => `(tactic| first
  | walk_at "y1"
  | ((with_reducible refine tVar_i (v := ?v) ?h ?q); (case h => rfl))
  | ((with_reducible refine gName_i ?_); (dsimp only [List.set]))
  | ((with_reducible refine rEq_i ?h ?q); (case h => rfl)) | ((with_reducible refine rNe_i ?h ?q); (case h => rfl)))
local macro_rules | `(tactic| walk_at "y") => `(tactic| repeat walk_at "y2")

/-! == and != of instances of one own class: the same object -/
section
variable {X : Cx}
def rEqI (K : PySem.W.Frag) : R2 := fun x y H Q => ∃ (a b C dx dy : Addr) (fs gs : List (Str × V)), x = .ref a ∧ y = .ref b ∧ H a = some (.ins C dx fs) ∧ H b = some (.ins C dy gs) ∧ CmpC K C ∧ Q (.bl (decide (a = b))) H
def rNeI (K : PySem.W.Frag) : R2 := fun x y H Q => ∃ (a b C dx dy : Addr) (fs gs : List (Str × V)), x = .ref a ∧ y = .ref b ∧ H a = some (.ins C dx fs) ∧ H b = some (.ins C dy gs) ∧ CmpC K C ∧ Q (.bl (!decide (a = b))) H
theorem ins_at {P : Program} {w : World} {H : Hp} {h : Heap} {a C dx : Addr} {fs : List (Str × V)} (hok : HOk P w H h) (e : H a = some (.ins C dx fs)) : ∃ o, h.get? a = some o ∧ o.cls = .ref C := by
  obtain ⟨_, _, _, e1, _⟩ := (show ObjOk P w H h a (.ins C dx fs) from hok a _ e)
  exact ⟨_, e1, rfl⟩
theorem op_eqI (hu : X.A.units + 1 < cLine) : OpR X (compareOp .Eq) (rEqI X.K) := by
  intro pins s σ H x y v u Q I rx ry h
  obtain ⟨a, b, C, dx, dy, fs, gs, rfl, rfl, ha, hb, T, q⟩ := h
  cases (show v = Value.ref a from rx)
  cases (show u = Value.ref b from ry)
  obtain ⟨oa, ea, ca⟩ := ins_at I.hok ha
  obtain ⟨ob, eb, cb⟩ := ins_at I.hok hb
  have fin : ∀ c : Bool, decide (a = b) = c → EP X pins σ Q (.bool c) s := fun c e => ⟨.bl c, H, I, rfl, by rw [← e]; exact q⟩
  obtain ⟨hp, g, d, t, os⟩ := s
  by_cases e : a = b
  · subst e
    exact PySem.compareOp_eq_same PySem.F.cmp_object (T.inst I.kIn ea ca) (by omega) (fin true (decide_eq_true rfl))
  · exact PySem.compareOp_eq_other PySem.F.cmp_object PySem.F.cmp_object (T.inst I.kIn ea ca) (T.inst I.kIn eb cb) e (by omega) (fin false (decide_eq_false e))
theorem op_neI (hu : X.A.units + 1 < cLine) : OpR X (compareOp .NotEq) (rNeI X.K) := by
  intro pins s σ H x y v u Q I rx ry h
  obtain ⟨a, b, C, dx, dy, fs, gs, rfl, rfl, ha, hb, T, q⟩ := h
  cases (show v = Value.ref a from rx)
  cases (show u = Value.ref b from ry)
  obtain ⟨oa, ea, ca⟩ := ins_at I.hok ha
  obtain ⟨ob, eb, cb⟩ := ins_at I.hok hb
  have fin : ∀ c : Bool, (!decide (a = b)) = c → EP X pins σ Q (.bool c) s := fun c e => ⟨.bl c, H, I, rfl, by rw [← e]; exact q⟩
  obtain ⟨hp, g, d, t, os⟩ := s
  by_cases e : a = b
  · subst e
    exact PySem.compareOp_ne_same PySem.F.cmp_object (T.inst I.kIn ea ca) (by omega) (fin false (by simp))
  · exact PySem.compareOp_ne_other PySem.F.cmp_object PySem.F.cmp_object (T.inst I.kIn ea ca) (T.inst I.kIn eb cb) e (by omega) (fin true (by simp [e]))
variable {K : PySem.W.Frag} {H : Hp} {Q : VK} {a b C dx dy : Addr} {fs gs : List (Str × V)}
theorem rEqI_i (ha : H a = some (.ins C dx fs)) (hb : H b = some (.ins C dy gs)) (T : CmpC K C) (q : Q (.bl (decide (a = b))) H) : rEqI K (.ref a) (.ref b) H Q := ⟨a, b, C, dx, dy, fs, gs, rfl, rfl, ha, hb, T, q⟩
theorem rNeI_i (ha : H a = some (.ins C dx fs)) (hb : H b = some (.ins C dy gs)) (T : CmpC K C) (q : Q (.bl (!decide (a = b))) H) : rNeI K (.ref a) (.ref b) H Q := ⟨a, b, C, dx, dy, fs, gs, rfl, rfl, ha, hb, T, q⟩
end

end L77
namespace L77
open PySem PySem.Spec PyProof.Rows L2
variable {gd : Bool}
local macro_rules | `(tactic| walk_at "y1") => `(tactic| with_reducible first
  | refine tSeq_i ?_ | refine tAsg_i ?_ | refine tCons_i ?_ | refine tNil_i ?_ | refine tC_i ?_ | refine tOp_i ?_ | refine tIfS_i ?_ | refine tTest_i ?_ | refine exBl_i ?_ | refine tRet_i ?_ | refine tCall_i ?_
  | refine tCB_i ?_ | refine tLst_i ?_ | refine tTup_i ?_ | refine rI0_i ?_ | refine tDrop_i ?_ | refine tNext_i ?_ | refine tB_i ?_ | refine tAnd_i ?_ | refine tOr_i ?_ | refine tNot_i ?_ | refine tAndV_i ?_ | refine tOrV_i ?_ | refine tNotV_i ?_
  | refine tYes_i ?_ | refine tTM_i ?_ | refine tPar_i ?_ | refine tSl_i ?_ | refine tNoPart_i ?_ | refine tPart_i ?_ | refine part_i ?_ | refine tMake_i ?_ | refine tProp_i ?_ | refine tCallOG_i ?_ | refine tVeI_i ?_ | refine tOst_i ?_ | refine tMkO_i ?_ | refine sFld_i ?_ | refine fldaug_i ?_ | refine gCons_i ?_ | refine gNil_i ?_ | refine tChain_i ?_ | refine tBM_i ?_ | refine rAdd2_i ?_ | refine rLe2_i ?_ | refine rEq2_i ?_ | refine rEq2_ss ?_ | refine rNe2_i ?_ | refine rNe2_ss ?_ | refine rIsN_i ?_ | refine rNotN_i ?_ | refine tTup_i2 ?_ | refine tIf_i ?_ | refine tUn_i ?_ | refine tDGet_i ?_ | refine sDPut_i ?_ | refine tFld_i ?_ | refine tRetN_i ?_ | refine tBreak_i ?_ | refine tCont_i ?_ | refine rU_i ?_)
local macro_rules | `(tactic| walk_at "yhead") => `(tactic| dsimp only [L2.start, List.map, List.length_cons, List.length_nil, Nat.reduceAdd, Nat.reduceSub, List.replicate, List.cons_append, List.nil_append])
local macro_rules | `(tactic| walk_at "y2") => `(tactic| first
  | walk_at "y1"
  | ((with_reducible refine tVar_i (v := ?v) ?h ?q); (case h => rfl))
  | ((with_reducible refine gName_i ?_); (dsimp only [L2.wipe, List.set]))
  | with_reducible refine iteT ?_ | with_reducible refine iteF ?_ | with_reducible refine iteNT ?_ | with_reducible refine iteNF ?_
  | ((with_reducible refine iteDT ?h ?q); (case h => first | decide +kernel | omega | assumption | exact nv1 | exact nv2 | exact nv3 | exact nv4)) | ((with_reducible refine iteDF ?h ?q); (case h => first | decide +kernel | omega | assumption | exact nv1 | exact nv2 | exact nv3 | exact nv4))
  | ((with_reducible refine iteNDT ?h ?q); (case h => first | decide +kernel | omega | assumption | exact nv1 | exact nv2 | exact nv3 | exact nv4)) | ((with_reducible refine iteNDF ?h ?q); (case h => first | decide +kernel | omega | assumption | exact nv1 | exact nv2 | exact nv3 | exact nv4))
  | ((with_reducible refine rIsi2_1 (T := ?T) (b := true) ?ty ?h ?q); (case ty => first | exact ty_str | exact ty_int | exact ty_bl | exact ty_non); (case h => decide +kernel))
  | ((with_reducible refine rIsi2_1 (T := ?T) (b := false) ?ty ?h ?q); (case ty => first | exact ty_str | exact ty_int | exact ty_bl | exact ty_non); (case h => decide +kernel))
  | ((with_reducible refine rEq2_s ?h ?q); (case h => rfl)) | ((with_reducible refine rNe2_s ?h ?q); (case h => rfl))
  | ((with_reducible refine rEq_i ?h ?q); (case h => rfl)) | ((with_reducible refine rNe_i ?h ?q); (case h => rfl)))
local macro_rules | `(tactic| walk_at "y") => `(tactic| repeat walk_at "y2")

section
variable {P : Program} {w : World} {K : PySem.W.Frag} {mg : Str → Option Value} {base : Heap}
/-- an object of the class Fault -/
def IsF (K : PySem.W.Frag) (H : Hp) (v : V) : Prop := ∃ a dx fs, v = .ref a ∧ H a = some (.ins (He.ga K "Fault") dx fs)
def spNeed (K : PySem.W.Frag) : Sp := sp1 fun x H Q _ => IsF K H x ∧ Q .non H
theorem sc_need_fault : FnScope ["value"] ["value"] (defScope (top 17)) := ⟨rfl, rfl, rfl, by decide +kernel, rfl, by decide +kernel, by decide +kernel⟩
theorem c_need_fault (T : Sy K mg) : Cal gd P w K mg base CX0 1 "need_fault" (spNeed K) := by
  refine T.cal (F_need_fault T) sc_need_fault sp1_len (fun cdv f A outer s H vs Q E z h => ?_) (fun _ _ _ _ _ _ us hl => match us, hl with | [_], _ => rfl)
  have hu1 := hu_1 z; have hu2 := hu_2 z; have hu3 := hu_3 z
  obtain ⟨x0, rfl, h⟩ := h
  obtain ⟨⟨a, dx, fs, rfl, ha⟩, q⟩ := h
  refine ⟨_, (pss_one (ps_if (pt_not (pt_val (pe_callB (r := rIsi2 K) call_isi2 (by rfl) (T.free "isinstance") (by decide +kernel) (pa_cons (pv 0) (pa_cons (pe_gl (T.glo "Fault")) pa_nil))))) (pss_one ps_never) pss_nil)), ?_⟩
  walk_at "yhead"; walk_at "y"
  refine rIsi2_o (b := true) (ty_ins ha (T.cls "Fault") T.xF.fi) kit_self ?_
  walk_at "y"
  exact q
def spNeedN (K : PySem.W.Frag) : Sp := sp1 fun x H Q _ => (x = .non ∨ IsF K H x) ∧ Q .non H
theorem sc_need_fault_or_none : FnScope ["value"] ["value"] (defScope (top 18)) := ⟨rfl, rfl, rfl, by decide +kernel, rfl, by decide +kernel, by decide +kernel⟩
theorem c_need_fault_or_none (T : Sy K mg) : Cal gd P w K mg base CX0 2 "need_fault_or_none" (spNeedN K) := by
  refine T.cal (F_need_fault_or_none T) sc_need_fault_or_none sp1_len (fun cdv f A outer s H vs Q E z h => ?_) (fun _ _ _ _ _ _ us hl => match us, hl with | [_], _ => rfl)
  have hu1 := hu_1 z; have hu2 := hu_2 z; have hu3 := hu_3 z
  obtain ⟨x0, rfl, h⟩ := h
  obtain ⟨h, q⟩ := h
  refine ⟨_, (pss_one (ps_if (pt_cmpR (r := rNotN) op_notN (pv 0) pe_non (nomark _)) (pss_one (ps_expr (pe_c (c_need_fault T) z (pa_cons (pv 0) pa_nil)))) pss_nil)), ?_⟩
  rcases h with rfl | ⟨a, dx, fs, rfl, ha⟩
  · walk_at "yhead"; walk_at "y"
    exact q
  · walk_at "yhead"; walk_at "y"
    exact ⟨_, rfl, ⟨a, dx, fs, rfl, ha⟩, q⟩
/-- the last of the contexts ahead of f -/
inductive EndAt (nx : Nat → Option Nat) (f : Nat) : Nat → Nat → Prop where
  | stop {h : Nat} (e : nx h = none ∨ nx h = some f) : EndAt nx f h h
  | step {h j e : Nat} (hj : nx h = some j) (ne : j ≠ f) (t : EndAt nx f j e) : EndAt nx f h e
def raiseE (fs : List Flt1) (f h e : Nat) : List Flt1 := setF (setF fs e fun r => { r with c := none }) f fun r => { r with c := some h }
def spRaise (K : PySem.W.Frag) : Sp := sp2 fun x y H Q _ => ∃ fs f h, FAt K H fs ∧ f < fs.length ∧ x = adr fs f ∧
  ((y = .non ∧ Q .non H) ∨ (h < fs.length ∧ y = adr fs h ∧ Acyc fs ∧ (h = f → Q .non H) ∧ (h ≠ f → ∀ e H', EndAt (ctxOf fs) f h e → FAt K H' (raiseE fs f h e) → (∀ b, (∀ r ∈ fs, r.a ≠ b) → H' b = H b) → Q .non H')))
theorem adr_of {fs : List Flt1} {i : Nat} (h : i < fs.length) : ∃ r, fs[i]? = some r ∧ adr fs i = .ref r.a := by
  have e : fs[i]? = some fs[i] := List.getElem?_eq_getElem h
  exact ⟨fs[i], e, by unfold adr; rw [e]⟩
theorem FAt.isF {H : Hp} {fs : List Flt1} (h : FAt K H fs) {i : Nat} {r : Flt1} (e : fs[i]? = some r) : IsF K H (.ref r.a) := ⟨r.a, r.dx, _, rfl, h.at_ i r e⟩
theorem FAt.adr_eq {H : Hp} {fs : List Flt1} (h : FAt K H fs) {i j : Nat} {r q : Flt1} (e : fs[i]? = some r) (e2 : fs[j]? = some q) : decide (r.a = q.a) = decide (i = j) := by
  refine decide_eq_decide.mpr ⟨fun z => h.nd i j r q e e2 z, fun z => ?_⟩
  subst z
  rw [e] at e2
  cases e2
  rfl
theorem frow_c {k l : Str} {n : Int} {c u : V} {h : Bool} : List.lookup (Str.ofString "s1_context") (frow k l n c u h) = some c := by kernel_rfl
theorem frow_put_c {k l : Str} {n : Int} {c c' u : V} {h : Bool} : putF "s1_context" c' (frow k l n c u h) = frow k l n c' u h := by kernel_rfl
theorem frow_put_u {k l : Str} {n : Int} {c u u' : V} {h : Bool} : putF "s1_cause" u' (frow k l n c u h) = frow k l n c u' h := by kernel_rfl
theorem frow_put_h {k l : Str} {n : Int} {c u : V} {h h' : Bool} : putF "s1_hides" (.bl h') (frow k l n c u h) = frow k l n c u h' := by kernel_rfl
theorem frow_len {k l : Str} {n : Int} {c u : V} {h : Bool} : (frow k l n c u h).length < 1000 := by show 6 < 1000; decide
theorem sc_raise_under : FnScope ["fault", "handled", "here"] ["fault", "handled"] (defScope (top 19)) := ⟨rfl, rfl, rfl, by decide +kernel, rfl, by decide +kernel, by decide +kernel⟩
theorem c_raise_under (T : Sy K mg) : Cal gd P w K mg base CX0 3 "raise_under" (spRaise K) := by
  refine T.cal (F_raise_under T) sc_raise_under sp2_len (fun cdv f A outer s H vs Q E z h => ?_) (fun _ _ _ _ _ _ us hl => match us, hl with | [_, _], _ => rfl)
  have hu1 := hu_1 z; have hu2 := hu_2 z; have hu3 := hu_3 z
  obtain ⟨x0, x1, rfl, h⟩ := h
  obtain ⟨fs, f, h, fa, hf, rfl, h⟩ := h
  refine ⟨_, (pss_cons (ps_expr (pe_c (c_need_fault T) z (pa_cons (pv 0) pa_nil))) (pss_cons (ps_expr (pe_c (c_need_fault_or_none T) z (pa_cons (pv 1) pa_nil))) (pss_cons (ps_if (PW.pt (pw_or (pt_cmpR (r := rIsN) op_isN (pv 1) pe_non (nomark _)) (pw_or1 (pt_cmpR (r := rEqI K) (op_eqI hu3) (pv 1) (pv 0) (nomark _))))) (pss_one ps_retN) pss_nil) (pss_cons (ps_set (i := 2) sc_raise_under.nd rfl (by first | exact Or.inl rfl | exact Or.inr rfl) (pv 1)) (pss_cons (ps_while PassesOwn.never (PW.pt (pw_and (pt_cmpR (r := rNotN) op_notN (pe_fldK (K := K) rfl (pv 2)) pe_non (nomark _)) (pw_and1 (pt_cmpR (r := rNeI K) (op_neI hu3) (pe_fldK (K := K) rfl (pv 2)) (pv 0) (nomark _))))) (pss_one (ps_set (i := 2) sc_raise_under.nd rfl (by first | exact Or.inl rfl | exact Or.inr rfl) (pe_fldK (K := K) rfl (pv 2))))) (pss_cons (ps_fldK (K := K) rfl (pv 2) pe_non) (pss_one (ps_fldK (K := K) rfl (pv 0) (pv 1))))))))), ?_⟩
  obtain ⟨rf, ef, af⟩ := adr_of hf
  rw [af]
  rcases h with ⟨rfl, q⟩ | ⟨hh, rfl, ac, q1, q2⟩
  · walk_at "yhead"; walk_at "y"
    refine ⟨_, rfl, fa.isF ef, ?_⟩
    walk_at "y"
    refine ⟨_, rfl, .inl rfl, ?_⟩
    walk_at "y"
    exact q
  · obtain ⟨rh, eh, ah⟩ := adr_of hh
    rw [ah]
    walk_at "yhead"; walk_at "y"
    refine ⟨_, rfl, fa.isF ef, ?_⟩
    walk_at "y"
    refine ⟨_, rfl, .inr (fa.isF eh), ?_⟩
    walk_at "y"
    refine rEqI_i (fa.at_ h rh eh) (fa.at_ f rf ef) T.xF.cm ?_
    rw [fa.adr_eq eh ef]
    by_cases c : h = f
    · rw [decide_eq_true c]
      walk_at "y"
      exact q1 c
    · rw [decide_eq_false c]
      walk_at "y"
      obtain ⟨n0, hn0⟩ := ac h
      have cl := T.cls "Fault"
      have na := T.noat "Fault" "s1_context"
      refine ⟨fun m σ H' => ∃ i r x, fs[i]? = some r ∧ Ends_ (ctxOf fs) m i ∧ H' = H ∧ σ = [some (.ref rf.a), some (.ref rh.a), x] ∧ x = some (.ref r.a) ∧ ∀ e, EndAt (ctxOf fs) f i e → EndAt (ctxOf fs) f h e, ⟨n0, h, rh, _, eh, hn0, rfl, rfl, rfl, fun _ z => z⟩, fun m σ H' hw => ?_⟩
      obtain ⟨i, r, x, ei, hm, rfl, rfl, rfl, he⟩ := hw
      have cx : ctxOf fs i = r.c := by unfold ctxOf; rw [ei]; rfl
      have hx := fa.at_ i r ei
      have out : (ctxOf fs i = none ∨ ctxOf fs i = some f) → tSeq (sFld K (tVar 2) (tC V.non) "s1_context") (sFld K (tVar 0) (tVar 1) "s1_context") { nx := fun x H' => Q V.non H', rt := Q } [some (V.ref rf.a), some (V.ref rh.a), some (.ref r.a)] H' := fun hc => by
        walk_at "y"
        refine fstU_i hx cl na frow_len frow_put_c fun H2 h2 u2 => ?_
        have fa2 : FAt K H2 (setF fs i fun r => { r with c := none }) := fa.set ei rfl h2 u2 (fun j hj => nomatch hj) (fun j hj => fa.u r (List.mem_of_getElem? ei) j hj)
        walk_at "y"
        obtain ⟨rf2, ef2, af2⟩ := adr_of (fs := setF fs i fun r => { r with c := none }) (i := f) (by rw [setF_len]; exact hf)
        have a2 : rf2.a = rf.a := by
          have q := (lnk_setF (g := fun r => { r with c := none }) ei rfl (some f))
          have q2 : adr (setF fs i fun r => { r with c := none }) f = adr fs f := q
          rw [af2, af] at q2
          exact V.ref.inj q2
        have hx2 := fa2.at_ f rf2 ef2
        rw [← a2]
        refine fstU_i hx2 cl na frow_len frow_put_c fun H3 h3 u3 => ?_
        have ln : (.ref rh.a : V) = lnk (setF fs i fun r => { r with c := none }) (some h) := by rw [lnk_setF ei rfl]; exact ah.symm
        have fa3 : FAt K H3 (raiseE fs f h i) := fa2.set (g := fun r => { r with c := some h }) ef2 rfl (by show FaultAt K H3 rf2.a rf2.dx rf2.k rf2.l _ (lnk _ (some h)) _ _; rw [← ln]; exact h3) u3 (fun j hj => by cases hj; rw [setF_len]; exact hh) (fun j hj => fa2.u rf2 (List.mem_of_getElem? ef2) j hj)
        refine q2 c i H3 (he i (.stop hc)) fa3 fun b hb => ?_
        rw [u3 b (by rw [a2]; exact fun z => hb rf (List.mem_of_getElem? ef) z.symm), u2 b fun z => hb r (List.mem_of_getElem? ei) z.symm]
      walk_at "y"
      refine fld_j (v := lnk fs r.c) hx cl na frow_c ?_
      walk_at "y"
      cases hc : r.c with
      | none =>
        rw [hc] at cx
        walk_at "y"
        exact out (.inl cx)
      | some j =>
        rw [hc] at cx
        have hj : j < fs.length := fa.c r (List.mem_of_getElem? ei) j hc
        obtain ⟨rj, ej, aj⟩ := adr_of hj
        have lj : lnk fs (some j) = .ref rj.a := aj
        rw [lj]
        walk_at "y"
        refine fld_j (v := .ref rj.a) hx cl na (by rw [frow_c, hc, lj]) ?_
        walk_at "y"
        refine rNeI_i (fa.at_ j rj ej) (fa.at_ f rf ef) T.xF.cm ?_
        rw [fa.adr_eq ej ef]
        by_cases c2 : j = f
        · rw [decide_eq_true c2]
          refine ⟨_, rfl, ?_⟩
          rw [if_neg (by decide)]
          exact out (.inr (by rw [cx, c2]))
        · rw [decide_eq_false c2]
          refine ⟨_, rfl, ?_⟩
          rw [if_pos (by decide)]
          cases hm with
          | last e => rw [cx] at e; cases e
          | @step n _ j' e t =>
            rw [cx] at e
            cases e
            refine ⟨fun σ' H' => σ' = [some (.ref rf.a), some (.ref rh.a), some (.ref rj.a)] ∧ H' = _, fun σ' H' hn => ⟨n, Nat.lt_succ_self _, j, rj, _, ej, t, hn.2, hn.1, rfl, fun e2 z => he e2 (.step cx c2 z)⟩, ?_⟩
            walk_at "y"
            refine fld_j (v := .ref rj.a) hx cl na (by rw [frow_c, hc, lj]) ?_
            walk_at "y"
            exact ⟨rfl, rfl⟩
def causeE (fs : List Flt1) (f : Nat) (s : Option Nat) : List Flt1 := setF fs f fun r => { r with u := s, h := true }
def spWith (K : PySem.W.Frag) : Sp := sp2 fun x y H Q _ => ∃ fs f s, FAt K H fs ∧ f < fs.length ∧ x = adr fs f ∧ y = lnk fs s ∧ (∀ j, s = some j → j < fs.length) ∧
  ∀ H', FAt K H' (causeE fs f s) → (∀ b, (∀ r ∈ fs, r.a ≠ b) → H' b = H b) → Q .non H'
theorem sc_with_cause : FnScope ["fault", "source"] ["fault", "source"] (defScope (top 20)) := ⟨rfl, rfl, rfl, by decide +kernel, rfl, by decide +kernel, by decide +kernel⟩
theorem c_with_cause (T : Sy K mg) : Cal gd P w K mg base CX0 3 "with_cause" (spWith K) := by
  refine T.cal (F_with_cause T) sc_with_cause sp2_len (fun cdv f A outer s H vs Q E z h => ?_) (fun _ _ _ _ _ _ us hl => match us, hl with | [_, _], _ => rfl)
  have hu1 := hu_1 z; have hu2 := hu_2 z; have hu3 := hu_3 z
  obtain ⟨x0, x1, rfl, h⟩ := h
  obtain ⟨fs, f, s0, fa, hf, rfl, rfl, hs, q⟩ := h
  refine ⟨_, (pss_cons (ps_expr (pe_c (c_need_fault T) z (pa_cons (pv 0) pa_nil))) (pss_cons (ps_expr (pe_c (c_need_fault_or_none T) z (pa_cons (pv 1) pa_nil))) (pss_cons (ps_fldK (K := K) rfl (pv 0) (pv 1)) (pss_one (ps_fldK (K := K) rfl (pv 0) pe_bl))))), ?_⟩
  obtain ⟨rf, ef, af⟩ := adr_of hf
  have hn : lnk fs s0 = .non ∨ IsF K H (lnk fs s0) := by
    cases s0 with
    | none => exact .inl rfl
    | some j =>
      obtain ⟨rj, ej, aj⟩ := adr_of (hs j rfl)
      have lj : lnk fs (some j) = .ref rj.a := aj
      rw [lj]
      exact .inr (fa.isF ej)
  rw [af]
  walk_at "yhead"; walk_at "y"
  refine ⟨_, rfl, fa.isF ef, ?_⟩
  walk_at "y"
  refine ⟨_, rfl, hn, ?_⟩
  walk_at "y"
  refine fstU_i (fa.at_ f rf ef) (T.cls "Fault") (T.noat "Fault" "s1_cause") frow_len frow_put_u fun H2 h2 u2 => ?_
  walk_at "y"
  refine fstU_i h2 (T.cls "Fault") (T.noat "Fault" "s1_hides") frow_len frow_put_h fun H3 h3 u3 => ?_
  refine q H3 (fa.set (g := fun r => { r with u := s0, h := true }) ef rfl h3 (fun b hb => (u3 b hb).trans (u2 b hb)) (fun j hj => fa.c rf (List.mem_of_getElem? ef) j hj) (fun j hj => hs j hj)) fun b hb => ?_
  have nb := fun z => hb rf (List.mem_of_getElem? ef) (Eq.symm z)
  rw [u3 b nb, u2 b nb]
end

end L77
namespace L77
open PySem PySem.Spec PyProof.Rows L2
variable {gd : Bool}
local macro_rules | `(tactic| walk_at "y1") => `(tactic| with_reducible first
  | refine tSeq_i ?_ | refine tAsg_i ?_ | refine tCons_i ?_ | refine tNil_i ?_ | refine tC_i ?_ | refine tOp_i ?_ | refine tIfS_i ?_ | refine tTest_i ?_ | refine exBl_i ?_ | refine tRet_i ?_ | refine tCall_i ?_
  | refine tCB_i ?_ | refine tLst_i ?_ | refine tTup_i ?_ | refine rI0_i ?_ | refine tDrop_i ?_ | refine tNext_i ?_ | refine tB_i ?_ | refine tAnd_i ?_ | refine tOr_i ?_ | refine tNot_i ?_ | refine tAndV_i ?_ | refine tOrV_i ?_ | refine tNotV_i ?_
  | refine tIf_i ?_ | refine tUn_i ?_ | refine tDGet_i ?_ | refine sDPut_i ?_ | refine tFld_i ?_ | refine tRetN_i ?_ | refine tBreak_i ?_ | refine tCont_i ?_ | refine rU_i ?_)
local macro_rules | `(tactic| walk_at "yhead") => `(tactic| dsimp only [L2.start, List.map, List.length_cons, List.length_nil, Nat.reduceAdd, Nat.reduceSub, List.replicate, List.cons_append, List.nil_append])
local macro_rules | `(tactic| walk_at "y2") => `(tactic| first
  | walk_at "y1"
  | ((with_reducible refine tVar_i (v := ?v) ?h ?q); (case h => rfl))
  | ((with_reducible refine gName_i ?_); (dsimp only [List.set]))
  | ((with_reducible refine rEq_i ?h ?q); (case h => rfl)) | ((with_reducible refine rNe_i ?h ?q); (case h => rfl)))
local macro_rules | `(tactic| walk_at "y") => `(tactic| repeat walk_at "y2")

/-! the events of a log -/
inductive Ev where | op (n : Int) | sh (n : Int) | fa (n : Int) (k l : Str) | no (t : Int)
  deriving DecidableEq
def Ev.xs : Ev → List V
  | .op n => [.str "open", .int n] | .sh n => [.str "shut", .int n] | .fa n k l => [.str "fault", .int n, .str k, .str l] | .no t => [.str "note", .int t]
def Ev.num : Ev → Int | .op n => n | .sh n => n | .fa n _ _ => n | .no t => t
structure KL (k l : Str) : Prop where
  kb : isKindB k = true
  lb : isLabelB l = true
  ks : smV (.str k) = true
  ls : smV (.str l) = true
  lr : smV (.str (PyData.shown (.str l))) = true
theorem KL.kl {k l : Str} (h : KL k l) : k.length ≤ 1000 := by
  have q := h.kb
  unfold isKindB at q
  simp only [Bool.and_eq_true, decide_eq_true_eq] at q
  omega
theorem KL.ll {k l : Str} (h : KL k l) : l.length ≤ 1000 := by
  have q := h.lb
  unfold isLabelB at q
  simp only [Bool.and_eq_true, decide_eq_true_eq] at q
  omega
def Ev.ok (e : Ev) : Prop := (0 ≤ e.num ∧ e.num ≤ 1000) ∧ match e with | .fa _ k l => KL k l | _ => True
theorem smStr {s : Str} (h : smV (.str s) = true := by decide +kernel) : smV (.str s) = true := h
theorem sm_int {i : Int} (h : -999999999999 ≤ i ∧ i ≤ 999999999999) : smV (.int i) = true := by show decide _ = true; exact decide_eq_true h
theorem Ev.sm {e : Ev} (h : e.ok) : e.xs.all smV = true := by
  have hi : ∀ i : Int, 0 ≤ i → i ≤ 1000 → smV (.int i) = true := fun i h1 h2 => sm_int (by omega)
  obtain ⟨h0, h1⟩ := h
  cases e <;> simp only [Ev.xs, List.all_cons, List.all_nil, Bool.and_true, Bool.and_eq_true] <;> (repeat' apply And.intro) <;> first | exact hi _ h0.1 h0.2 | exact h1.ks | exact h1.ls | decide +kernel
theorem Ev.pl (e : Ev) : e.xs.all plV = true := by cases e <;> rfl
theorem Ev.fl (e : Ev) : e.xs.all flatV = true := by cases e <;> rfl
theorem Ev.len (e : Ev) : e.xs.length ≤ 4 := by cases e <;> (show _ ≤ 4) <;> simp [Ev.xs]
def Ev.d (e : Ev) : PyData := .tuple (e.xs.map vD)
/-- the log at p: a list (b true) or a tuple of these events -/
def LogAt (b : Bool) (H : Hp) (p : Addr) (es : List Ev) : Prop := ∃ vs, H p = some (sq b vs) ∧ Paired (TR Ev.xs H) vs es ∧ (∀ e ∈ es, e.ok) ∧ es.length ≤ 16
theorem LogAt.same {b : Bool} {H H' : Hp} {p : Addr} {es : List Ev} (h : LogAt b H p es) (s : Same H H') : LogAt b H' p es := by
  obtain ⟨vs, h1, h2, h3⟩ := h
  exact ⟨vs, s _ _ h1, (firm_TR _).all (sT s) h2, h3⟩
def Ev.tag : Ev → Str | .op _ => "open" | .sh _ => "shut" | .fa _ _ _ => "fault" | .no _ => "note"
theorem Ev.head (e : Ev) : e.xs[0]? = some (.str e.tag) := by cases e <;> rfl
theorem ev_eqf {e : Ev} {n : Int} {k l : Str} : PyData.eqv (.tuple (e.xs.map vD)) (.tuple (([.str "fault", .int n, .str k, .str l] : List V).map vD)) = decide (e = .fa n k l) := by
  cases e <;> simp only [Ev.xs, List.map_cons, List.map_nil, vD, PyData.eqv, PyData.eqvAll, str_beq]
  all_goals first
    | (rw [show decide (Str.ofString "open" = Str.ofString "fault") = false by decide +kernel]; simp)
    | (rw [show decide (Str.ofString "shut" = Str.ofString "fault") = false by decide +kernel]; simp)
    | (rw [show decide (Str.ofString "note" = Str.ofString "fault") = false by decide +kernel]; simp)
    | simp [Bool.beq_eq_decide_eq]
theorem filterMap_snoc {α : Type} (g : Nat → Option α) (i : Nat) : (List.range (i + 1)).filterMap g = (List.range i).filterMap g ++ (g i).toList := by
  rw [List.range_succ, List.filterMap_append]
  cases q : g i <;> simp [q]
theorem LogAt.get {b : Bool} {H : Hp} {p : Addr} {vs : List V} {es : List Ev} (h2 : Paired (TR Ev.xs H) vs es) {i : Nat} {x : V} (e : vs[i]? = some x) : ∃ q ev, x = .ref q ∧ es[i]? = some ev ∧ H q = some (.tup ev.xs) := by
  obtain ⟨ev, e1, q, e2, e3⟩ := paired_of h2 e
  exact ⟨q, ev, e2, e1, e3⟩
theorem ty_sq {K : PySem.W.Frag} {H : Hp} {p : Addr} {vs : List V} : ∀ {b : Bool}, H p = some (sq b vs) → TyX K H (.ref p) (.type (if b then "list" else "tuple"))
  | true, h => ty_lst h
  | false, h => ty_tup h
theorem dp_log {K : PySem.W.Frag} {H : Hp} {p : Addr} {vs : List V} {es : List Ev} {b : Bool} (h : H p = some (sq b vs)) (h2 : Paired (TR Ev.xs H) vs es) : Dp K H (.ref p) (if b then .list (es.map Ev.d) else .tuple (es.map Ev.d)) := dp_sq (SqB.of h) (dp_TR Ev.pl h2)
theorem sm_log {es : List Ev} (ok : ∀ e ∈ es, e.ok) : Sm 2 (es.length * (4 * 21 + 1)) (.list (es.map Ev.d)) := by
  have h := Sm.list (sm_TR (n := 4) (f := Ev.xs) (as := es) fun e he => ⟨Ev.sm (ok e he), e.len⟩)
  rw [List.length_map] at h
  exact h
theorem sm_logT {es : List Ev} (ok : ∀ e ∈ es, e.ok) : Sm 2 (es.length * (4 * 21 + 1)) (.tuple (es.map Ev.d)) := by
  have h := Sm.tup (sm_TR (n := 4) (f := Ev.xs) (as := es) fun e he => ⟨Ev.sm (ok e he), e.len⟩)
  rw [List.length_map] at h
  exact h
theorem sm_ints {ns : List Int} (h : ∀ n ∈ ns, 0 ≤ n ∧ n ≤ 1000) : (ns.map V.int).all smV = true := List.all_eq_true.mpr fun v hv => by
  obtain ⟨n, hn, rfl⟩ := List.mem_map.mp hv
  have := h n hn
  exact sm_int (by omega)
theorem dp_ints {K : PySem.W.Frag} {H : Hp} {p : Addr} {ns : List Int} (h : H p = some (.lst (ns.map V.int))) : Dp K H (.ref p) (.list ((ns.map V.int).map vD)) :=
  dp_lst (SqL.of h) (by rw [List.all_map]; exact List.all_eq_true.mpr fun _ _ => rfl)

end L77
namespace L77
open PySem PySem.Spec PyProof.Rows L2
variable {gd : Bool}
local macro_rules | `(tactic| walk_at "y1") => `(tactic| with_reducible first
  | refine tSeq_i ?_ | refine tAsg_i ?_ | refine tCons_i ?_ | refine tNil_i ?_ | refine tC_i ?_ | refine tOp_i ?_ | refine tIfS_i ?_ | refine tTest_i ?_ | refine exBl_i ?_ | refine tRet_i ?_ | refine tCall_i ?_
  | refine tCB_i ?_ | refine tLst_i ?_ | refine tTup_i ?_ | refine rI0_i ?_ | refine tDrop_i ?_ | refine tNext_i ?_ | refine tB_i ?_ | refine tAnd_i ?_ | refine tOr_i ?_ | refine tNot_i ?_ | refine tAndV_i ?_ | refine tOrV_i ?_ | refine tNotV_i ?_
  | refine tYes_i ?_ | refine tTM_i ?_ | refine tPar_i ?_ | refine tSl_i ?_ | refine tNoPart_i ?_ | refine tPart_i ?_ | refine part_i ?_ | refine tMake_i ?_ | refine tProp_i ?_ | refine tCallOG_i ?_ | refine tVeI_i ?_ | refine tOst_i ?_ | refine tMkO_i ?_ | refine sFld_i ?_ | refine fldaug_i ?_ | refine gCons_i ?_ | refine gNil_i ?_ | refine tChain_i ?_ | refine tBM_i ?_ | refine rAdd2_i ?_ | refine rLe2_i ?_ | refine rEq2_i ?_ | refine rEq2_ss ?_ | refine rNe2_i ?_ | refine rNe2_ss ?_ | refine rIsN_i ?_ | refine rNotN_i ?_ | refine tTup_i2 ?_ | refine tIf_i ?_ | refine tUn_i ?_ | refine tDGet_i ?_ | refine sDPut_i ?_ | refine tFld_i ?_ | refine tRetN_i ?_ | refine tBreak_i ?_ | refine tCont_i ?_ | refine rU_i ?_)
local macro_rules | `(tactic| walk_at "yhead") => `(tactic| dsimp only [L2.start, List.map, List.length_cons, List.length_nil, Nat.reduceAdd, Nat.reduceSub, List.replicate, List.cons_append, List.nil_append])
local macro_rules | `(tactic| walk_at "y2") => `(tactic| first
  | walk_at "y1"
  | ((with_reducible refine tVar_i (v := ?v) ?h ?q); (case h => rfl))
  | ((with_reducible refine gName_i ?_); (dsimp only [L2.wipe, List.set]))
  | with_reducible refine iteT ?_ | with_reducible refine iteF ?_ | with_reducible refine iteNT ?_ | with_reducible refine iteNF ?_
  | ((with_reducible refine iteDT ?h ?q); (case h => first | decide +kernel | omega | assumption | exact nv1 | exact nv2 | exact nv3 | exact nv4)) | ((with_reducible refine iteDF ?h ?q); (case h => first | decide +kernel | omega | assumption | exact nv1 | exact nv2 | exact nv3 | exact nv4))
  | ((with_reducible refine iteNDT ?h ?q); (case h => first | decide +kernel | omega | assumption | exact nv1 | exact nv2 | exact nv3 | exact nv4)) | ((with_reducible refine iteNDF ?h ?q); (case h => first | decide +kernel | omega | assumption | exact nv1 | exact nv2 | exact nv3 | exact nv4))
  | ((with_reducible refine rIsi2_1 (T := ?T) (b := true) ?ty ?h ?q); (case ty => first | exact ty_str | exact ty_int | exact ty_bl | exact ty_non); (case h => decide +kernel))
  | ((with_reducible refine rIsi2_1 (T := ?T) (b := false) ?ty ?h ?q); (case ty => first | exact ty_str | exact ty_int | exact ty_bl | exact ty_non); (case h => decide +kernel))
  | ((with_reducible refine rEq2_s ?h ?q); (case h => rfl)) | ((with_reducible refine rNe2_s ?h ?q); (case h => rfl))
  | ((with_reducible refine rEq_i ?h ?q); (case h => rfl)) | ((with_reducible refine rNe_i ?h ?q); (case h => rfl)))
local macro_rules | `(tactic| walk_at "y") => `(tactic| repeat walk_at "y2")

section
variable {P : Program} {w : World} {K : PySem.W.Frag} {mg : Str → Option Value} {base : Heap}
def spNumber : Sp := sp1 fun x H Q _ => ∃ b, Q (.bl b) H ∧ ((∃ i, x = .int i ∧ b = decide (0 ≤ i)) ∨ (∃ c, x = .bl c) ∧ b = false ∨ x = .non ∧ b = false ∨ (∃ s, x = .str s) ∧ b = false)
theorem sc_s7_is_number : FnScope ["value"] ["value"] (defScope (top 24)) := ⟨rfl, rfl, rfl, by decide +kernel, rfl, by decide +kernel, by decide +kernel⟩
theorem c_s7_is_number (T : Sy K mg) : Cal gd P w K mg base CX0 1 "s7_is_number" spNumber := by
  refine T.cal (F_s7_is_number T) sc_s7_is_number sp1_len (fun cdv f A outer s H vs Q E z h => ?_) (fun _ _ _ _ _ _ us hl => match us, hl with | [_], _ => rfl)
  have hu1 := hu_1 z; have hu2 := hu_2 z; have hu3 := hu_3 z
  obtain ⟨x0, rfl, h⟩ := h
  obtain ⟨b, q, h⟩ := h
  refine ⟨_, (pss_one (ps_ret (pe_and (pe_callB (r := rIsi2 K) call_isi2 (by rfl) (T.free "isinstance") (by decide +kernel) (pa_cons (pv 0) (pa_cons (pe_bltn (v := .ty "int") (u := .type "int") (by rfl) (T.free "int") (by decide +kernel) rfl) pa_nil))) (pe_and (pe_not (pe_callB (r := rIsi2 K) call_isi2 (by rfl) (T.free "isinstance") (by decide +kernel) (pa_cons (pv 0) (pa_cons (pe_bltn (v := .ty "bool") (u := .type "bool") (by rfl) (T.free "bool") (by decide +kernel) rfl) pa_nil)))) (pe_one (pe_cmpR op_ge (pv 0) pe_int (nomark _))))))), ?_⟩
  rcases h with ⟨i, rfl, rfl⟩ | ⟨⟨c, rfl⟩, rfl⟩ | ⟨rfl, rfl⟩ | ⟨⟨c, rfl⟩, rfl⟩ <;> walk_at "yhead" <;> walk_at "y" <;> exact q
def spPlain : Sp := sp1 fun x H Q _ => Q (.bl true) H ∧ ((∃ i, x = .int i ∧ 0 ≤ i ∧ i ≤ 1000) ∨ x = .non)
theorem sc_s7_is_plain : FnScope ["value"] ["value"] (defScope (top 26)) := ⟨rfl, rfl, rfl, by decide +kernel, rfl, by decide +kernel, by decide +kernel⟩
theorem c_s7_is_plain (T : Sy K mg) : Cal gd P w K mg base CX0 3 "s7_is_plain" spPlain := by
  refine T.cal (F_s7_is_plain T) sc_s7_is_plain sp1_len (fun cdv f A outer s H vs Q E z h => ?_) (fun _ _ _ _ _ _ us hl => match us, hl with | [_], _ => rfl)
  have hu1 := hu_1 z; have hu2 := hu_2 z; have hu3 := hu_3 z
  obtain ⟨x0, rfl, h⟩ := h
  obtain ⟨q, h⟩ := h
  refine ⟨_, (pss_cons (ps_if (PW.pt (pw_or (pt_cmpR (r := rIsN) op_isN (pv 0) pe_non (nomark _)) (pw_or1 (pt_val (pe_callB (r := rIsi2 K) call_isi2 (by rfl) (T.free "isinstance") (by decide +kernel) (pa_cons (pv 0) (pa_cons (pe_bltn (v := .ty "bool") (u := .type "bool") (by rfl) (T.free "bool") (by decide +kernel) rfl) pa_nil))))))) (pss_one (ps_ret pe_bl)) pss_nil) (pss_cons (ps_if (pt_val (pe_callB (r := rIsi2 K) call_isi2 (by rfl) (T.free "isinstance") (by decide +kernel) (pa_cons (pv 0) (pa_cons (pe_bltn (v := .ty "int") (u := .type "int") (by rfl) (T.free "int") (by decide +kernel) rfl) pa_nil)))) (pss_one (ps_ret (pe_chain op_le2 op_le2 (pe_op op_sub pe_int (pe_gi (T.int "MOST_VALUE" 1000000000))) (pv 0) (pe_gi (T.int "MOST_VALUE" 1000000000))))) pss_nil) (pss_one (ps_ret (pe_c (c_is_label T) z (pa_cons (pv 0) pa_nil)))))), ?_⟩
  rcases h with ⟨i, rfl, h1, h2⟩ | rfl <;> walk_at "yhead" <;> walk_at "y"
  · rw [decide_eq_true (show i ≤ 1000000000 by omega)]; exact q
  · exact q
def spEvent : Sp := sp1 fun x H Q _ => (∃ p e, x = .ref p ∧ H p = some (.tup (Ev.xs e)) ∧ e.ok ∧ ∀ H', Same H H' → Q (.bl true) H') ∨ (∃ i, x = .int i ∧ Q (.bl false) H)
theorem sc_is_event : FnScope ["value", "word", "parts"] ["value"] (defScope (top 29)) := ⟨rfl, rfl, rfl, by decide +kernel, rfl, by decide +kernel, by decide +kernel⟩
theorem c_is_event (T : Sy K mg) : Cal gd P w K mg base CX0 5 "is_event" spEvent := by
  refine T.cal (F_is_event T) sc_is_event sp1_len (fun cdv f A outer s H vs Q E z h => ?_) (fun _ _ _ _ _ _ us hl => match us, hl with | [_], _ => rfl)
  have hu1 := hu_1 z; have hu2 := hu_2 z; have hu3 := hu_3 z
  obtain ⟨x0, rfl, h⟩ := h
  refine ⟨_, (pss_cons (ps_if (PW.pt (pw_or (pt_not (pt_val (pe_callB (r := rIsi2 K) call_isi2 (by rfl) (T.free "isinstance") (by decide +kernel) (pa_cons (pv 0) (pa_cons (pe_bltn (v := .ty "tuple") (u := .type "tuple") (by rfl) (T.free "tuple") (by decide +kernel) rfl) pa_nil))))) (pw_or (pt_cmpR (r := rEq2 K) (op_eq2 hu1) (pv 0) (pe_tup pa_nil) (nomark _)) (pw_or1 (pt_not (pt_val (pe_callB (r := rIsi2 K) call_isi2 (by rfl) (T.free "isinstance") (by decide +kernel) (pa_cons (pe_ix (r := rGet K) (ix_get hu3) (pv 0) pe_int (fun _ _ => rfl)) (pa_cons (pe_bltn (v := .ty "str") (u := .type "str") (by rfl) (T.free "str") (by decide +kernel) rfl) pa_nil))))))))) (pss_one (ps_ret pe_bl)) pss_nil) (pss_cons (ps_asg (pv 0) (pg_starK (K := K) (n := 2) (i := 1) rfl (by rfl) (pgs_cons (pg_name (i := 1) sc_is_event.nd rfl (by first | exact Or.inl rfl | exact Or.inr rfl)) (pgs_star (pg_name (i := 2) sc_is_event.nd rfl (by first | exact Or.inl rfl | exact Or.inr rfl)) pgs_nil)) rfl rfl (by decide))) (pss_cons (ps_if (pt_cmpR (r := rEq2 K) (op_eq2 hu1) (pv 1) pe_str (nomark _)) (pss_one (ps_ret (pe_and (pe_cmpR (r := rEq2 K) (op_eq2 hu1) (pe_callB (r := rLen2 K) call_len2 (by rfl) (T.free "len") (by decide +kernel) (pa_cons (pv 2) pa_nil)) pe_int (nomark _)) (pe_one (pe_c (c_s7_is_plain T) z (pa_cons (pe_ix (r := rGet K) (ix_get hu3) (pv 2) pe_int (fun _ _ => rfl)) pa_nil)))))) pss_nil) (pss_cons (ps_if (pt_cmpR (r := rEq2 K) (op_eq2 hu1) (pv 1) pe_str (nomark _)) (pss_one (ps_never)) pss_nil) (pss_cons (ps_if (pt_cmpR (r := rEq2 K) (op_eq2 hu1) (pv 1) pe_str (nomark _)) (pss_one (ps_ret (pe_and (pe_cmpR (r := rEq2 K) (op_eq2 hu1) (pe_callB (r := rLen2 K) call_len2 (by rfl) (T.free "len") (by decide +kernel) (pa_cons (pv 2) pa_nil)) pe_int (nomark _)) (pe_and (pe_c (c_s7_is_number T) z (pa_cons (pe_ix (r := rGet K) (ix_get hu3) (pv 2) pe_int (fun _ _ => rfl)) pa_nil)) (pe_and (pe_c (c_is_kind T) z (pa_cons (pe_ix (r := rGet K) (ix_get hu3) (pv 2) pe_int (fun _ _ => rfl)) pa_nil)) (pe_one (pe_c (c_is_label T) z (pa_cons (pe_ix (r := rGet K) (ix_get hu3) (pv 2) pe_int (fun _ _ => rfl)) pa_nil)))))))) pss_nil) (pss_one (ps_ret (pe_and (pe_cmpR (r := rIn2 K) (op_in2 hu2) (pv 1) (pe_tup (pa_cons pe_str (pa_cons pe_str pa_nil))) rfl) (pe_and (pe_cmpR (r := rEq2 K) (op_eq2 hu1) (pe_callB (r := rLen2 K) call_len2 (by rfl) (T.free "len") (by decide +kernel) (pa_cons (pv 2) pa_nil)) pe_int (nomark _)) (pe_one (pe_c (c_s7_is_number T) z (pa_cons (pe_ix (r := rGet K) (ix_get hu3) (pv 2) pe_int (fun _ _ => rfl)) pa_nil)))))))))))), ?_⟩
  rcases h with ⟨p, e, rfl, hp, ok, q⟩ | ⟨i, rfl, q⟩
  · walk_at "yhead"; walk_at "y"
    refine rIsi2_1 (b := true) (ty_tup hp) (by decide +kernel) ?_
    walk_at "y"
    refine ⟨sz4, fun p1 h1 => ?_⟩
    have s1 := same_upd (o := .tup []) h1
    have hp1 := s1 _ _ hp
    refine rEq2_d (dp_tup (SqT.of hp1) e.pl) (dp_tup (SqT.of upd_same) rfl) (sm_tup (Ev.sm ok)).shaped (by decide +kernel) ?_
    rw [show PyData.eqv (.tuple (e.xs.map vD)) (.tuple (([] : List V).map vD)) = false by cases e <;> rfl]
    walk_at "y"
    obtain ⟨⟨ok1, ok2⟩, okk⟩ := ok
    have fin : ∀ {d : Addr} {xs : List V}, upd H p1 (.tup []) d = none → Same H (upd (upd H p1 (.tup [])) d (.lst xs)) := fun hd => s1.trans (same_upd hd)
    cases e with
    | op n =>
      refine rGet_t (n := 0) (SqT.of hp1) rfl ?_
      walk_at "y"
      refine gStar_2 (SqT.of hp1) fun d hd => ?_
      walk_at "y"
      refine ⟨sz4, fun p2 h2 => ?_⟩
      have s2 := fin (xs := [.int n]) hd
      have s3 := same_upd (o := .tup [.str "open", .str "shut"]) h2
      have hd3 := s3 _ _ (upd_same (H := upd H p1 (.tup [])) (a := d) (o := .lst [.int n]))
      refine rIn2_f (b := false) (SqT.of upd_same) rfl rfl ?_
      rw [show inV (.str "open") [.str "open", .str "shut"] = true by decide +kernel]
      walk_at "y"
      refine rLen2_l (n := 1) (SqL.of hd3) ?_
      walk_at "y"
      refine rGet_l (n := 0) (SqL.of hd3) rfl ?_
      exact ⟨_, rfl, _, q _ (s2.trans s3), .inl ⟨n, rfl, (decide_eq_true ok1).symm⟩⟩
    | sh n =>
      refine rGet_t (n := 0) (SqT.of hp1) rfl ?_
      walk_at "y"
      refine gStar_2 (SqT.of hp1) fun d hd => ?_
      walk_at "y"
      refine ⟨sz4, fun p2 h2 => ?_⟩
      have s2 := fin (xs := [.int n]) hd
      have s3 := same_upd (o := .tup [.str "open", .str "shut"]) h2
      have hd3 := s3 _ _ (upd_same (H := upd H p1 (.tup [])) (a := d) (o := .lst [.int n]))
      refine rIn2_f (b := false) (SqT.of upd_same) rfl rfl ?_
      rw [show inV (.str "shut") [.str "open", .str "shut"] = true by decide +kernel]
      walk_at "y"
      refine rLen2_l (n := 1) (SqL.of hd3) ?_
      walk_at "y"
      refine rGet_l (n := 0) (SqL.of hd3) rfl ?_
      exact ⟨_, rfl, _, q _ (s2.trans s3), .inl ⟨n, rfl, (decide_eq_true ok1).symm⟩⟩
    | fa n k l =>
      refine rGet_t (n := 0) (SqT.of hp1) rfl ?_
      walk_at "y"
      refine gStar_2 (SqT.of hp1) fun d hd => ?_
      walk_at "y"
      have s2 := fin (xs := [.int n, .str k, .str l]) hd
      refine rLen2_l (xs := [.int n, .str k, .str l]) (n := 3) (SqL.of upd_same) ?_
      walk_at "y"
      refine rGet_l (n := 0) (xs := [.int n, .str k, .str l]) (SqL.of upd_same) rfl ?_
      refine ⟨_, rfl, _, ?_, .inl ⟨n, rfl, (decide_eq_true ok1).symm⟩⟩
      walk_at "y"
      refine rGet_l (n := 1) (xs := [.int n, .str k, .str l]) (SqL.of upd_same) rfl ?_
      refine ⟨_, rfl, k, rfl, okk.kl, fun H3 s3 => ?_⟩
      rw [okk.kb]
      walk_at "y"
      refine rGet_l (n := 2) (xs := [.int n, .str k, .str l]) (SqL.of (s3 _ _ upd_same)) rfl ?_
      refine ⟨_, rfl, l, rfl, okk.ll, fun H4 s4 => ?_⟩
      rw [okk.lb]
      exact q _ ((s2.trans s3).trans s4)
    | no t =>
      refine rGet_t (n := 0) (SqT.of hp1) rfl ?_
      walk_at "y"
      refine gStar_2 (SqT.of hp1) fun d hd => ?_
      walk_at "y"
      have s2 := fin (xs := [.int t]) hd
      refine rLen2_l (xs := [.int t]) (n := 1) (SqL.of upd_same) ?_
      walk_at "y"
      refine rGet_l (n := 0) (xs := [.int t]) (SqL.of upd_same) rfl ?_
      exact ⟨_, rfl, q _ s2, .inl ⟨t, rfl, ok1, ok2⟩⟩
  · walk_at "yhead"; walk_at "y"
    exact q
end

end L77
namespace L77
open PySem PySem.Spec PyProof.Rows L2
variable {gd : Bool}
local macro_rules | `(tactic| walk_at "y1") => `(tactic| with_reducible first
  | refine tSeq_i ?_ | refine tAsg_i ?_ | refine tCons_i ?_ | refine tNil_i ?_ | refine tC_i ?_ | refine tOp_i ?_ | refine tIfS_i ?_ | refine tTest_i ?_ | refine exBl_i ?_ | refine tRet_i ?_ | refine tCall_i ?_
  | refine tCB_i ?_ | refine tLst_i ?_ | refine tTup_i ?_ | refine rI0_i ?_ | refine tDrop_i ?_ | refine tNext_i ?_ | refine tB_i ?_ | refine tAnd_i ?_ | refine tOr_i ?_ | refine tNot_i ?_ | refine tAndV_i ?_ | refine tOrV_i ?_ | refine tNotV_i ?_
  | refine tYes_i ?_ | refine tTM_i ?_ | refine tPar_i ?_ | refine tSl_i ?_ | refine tNoPart_i ?_ | refine tPart_i ?_ | refine part_i ?_ | refine tMake_i ?_ | refine tProp_i ?_ | refine tCallOG_i ?_ | refine tVeI_i ?_ | refine tOst_i ?_ | refine tMkO_i ?_ | refine sFld_i ?_ | refine fldaug_i ?_ | refine gCons_i ?_ | refine gNil_i ?_ | refine tChain_i ?_ | refine tBM_i ?_ | refine rAdd2_i ?_ | refine rLe2_i ?_ | refine rEq2_i ?_ | refine rEq2_ss ?_ | refine rNe2_i ?_ | refine rNe2_ss ?_ | refine rIsN_i ?_ | refine rNotN_i ?_ | refine tTup_i2 ?_ | refine tIf_i ?_ | refine tUn_i ?_ | refine tDGet_i ?_ | refine sDPut_i ?_ | refine tFld_i ?_ | refine tRetN_i ?_ | refine tBreak_i ?_ | refine tCont_i ?_ | refine rU_i ?_)
local macro_rules | `(tactic| walk_at "yhead") => `(tactic| dsimp only [L2.start, List.map, List.length_cons, List.length_nil, Nat.reduceAdd, Nat.reduceSub, List.replicate, List.cons_append, List.nil_append])
local macro_rules | `(tactic| walk_at "y2") => `(tactic| first
  | walk_at "y1"
  | ((with_reducible refine tVar_i (v := ?v) ?h ?q); (case h => rfl))
  | ((with_reducible refine gName_i ?_); (dsimp only [L2.wipe, List.set]))
  | with_reducible refine iteT ?_ | with_reducible refine iteF ?_ | with_reducible refine iteNT ?_ | with_reducible refine iteNF ?_
  | ((with_reducible refine iteDT ?h ?q); (case h => first | decide +kernel | omega | assumption | exact nv1 | exact nv2 | exact nv3 | exact nv4)) | ((with_reducible refine iteDF ?h ?q); (case h => first | decide +kernel | omega | assumption | exact nv1 | exact nv2 | exact nv3 | exact nv4))
  | ((with_reducible refine iteNDT ?h ?q); (case h => first | decide +kernel | omega | assumption | exact nv1 | exact nv2 | exact nv3 | exact nv4)) | ((with_reducible refine iteNDF ?h ?q); (case h => first | decide +kernel | omega | assumption | exact nv1 | exact nv2 | exact nv3 | exact nv4))
  | ((with_reducible refine rIsi2_1 (T := ?T) (b := true) ?ty ?h ?q); (case ty => first | exact ty_str | exact ty_int | exact ty_bl | exact ty_non); (case h => decide +kernel))
  | ((with_reducible refine rIsi2_1 (T := ?T) (b := false) ?ty ?h ?q); (case ty => first | exact ty_str | exact ty_int | exact ty_bl | exact ty_non); (case h => decide +kernel))
  | ((with_reducible refine rEq2_s ?h ?q); (case h => rfl)) | ((with_reducible refine rNe2_s ?h ?q); (case h => rfl))
  | ((with_reducible refine rEq_i ?h ?q); (case h => rfl)) | ((with_reducible refine rNe_i ?h ?q); (case h => rfl)))
local macro_rules | `(tactic| walk_at "y") => `(tactic| repeat walk_at "y2")

section
variable {P : Program} {w : World} {K : PySem.W.Frag} {mg : Str → Option Value} {base : Heap}
/-- a def that may raise -/
theorem Sy.calX (T : Sy K mg) {x : Str} {j : Nat} {N ps : List Str} {k : Nat} {sp : Sp} (F0 : FDx K (dG x j))
    (S : FnScope N ps (defScope (top j))) (len : ∀ vs H Q E, sp vs H Q E → vs.length = ps.length)
    (hbody : ∀ (cdv : Value) (f : Addr) (A : Around) (outer : List Env) (s : Shared) (H : Hp) (vs : List V) (Q : VK) (E : XK), RG gd k (A.deeper (envOfC x (defScope (top j)) s.heap.objs.size f cdv)) → sp vs H Q E →
      ∃ t, PSs (cxOf (CX P w) P w K mg base N x (defScope (top j)) f cdv A outer s H E) (defBody (top j)) t ∧ t { nx := fun _ H' => Q .non H', rt := Q } (start N vs) H)
    (hb : ∀ (kV doc pm : Value) (an : Option Addr) (cdv ct : Value) (us : List Value), us.length = ps.length → bindArgs (PySem.W.fnOf x x (defArgs (top j)) (defBody (top j)) (defScope (top j)) .none kV doc pm an cdv ct) ⟨us, []⟩ = pure (ps.zip us))
    (hg : fa.any (isGlo x) = true := by decide +kernel) : Cal gd P w K mg base (CX P w) (k + 1) x sp := by
  obtain ⟨fd, F⟩ := F0
  refine ⟨_, fd, ps, FnG.body F S len fun cdv A outer s H vs Q E hr h => hbody cdv _ A outer s H vs Q E hr h, T.glo x hg, F.kp, F.bindsN hb⟩
theorem sc_BadLog___init__ : FnScope ["self", "index"] ["self", "index"] (defScope (inClass (top 8) 0)) := ⟨rfl, rfl, rfl, by decide +kernel, rfl, by decide +kernel, by decide +kernel⟩
theorem x_BadLog (T : Sy K mg) : Exm P w K mg base 1 "BadLog" (spExI K "BadLog" "index") "index" := by
  refine T.exm T.xF.bl (F_BadLog___init__ T) sc_BadLog___init__ sp2_len (fun cdv f A outer s H vs Q E hr h => ?_) (fun _ _ _ _ _ _ us hl => match us, hl with | [_, _], _ => rfl)
  obtain ⟨_, v, rfl, a, rfl, ha, q⟩ := h
  refine ⟨_, (pss_cons (ps_expr (pe_vinit T.xF.me (by rfl) (T.glo "ModelError") (pa_cons (pv 0) (pa_cons pe_str pa_nil)))) (pss_one (ps_ost (pv 0) (pv 1)))), ?_⟩
  walk_at "yhead"; walk_at "y"
  refine ⟨a, He.ga K "BadLog", [.str "not a log"], rfl, by show 1 ≤ 1000; decide, T.xF.bl.o, ha, ?_⟩
  exact ⟨v, rfl, _, rfl, a, He.ga K "BadLog", rfl, T.xF.bl.o, T.xF.bl.n, .inl ⟨ha, q⟩⟩
theorem sc_BadFault___init__ : FnScope ["self", "value"] ["self", "value"] (defScope (inClass (top 6) 0)) := ⟨rfl, rfl, rfl, by decide +kernel, rfl, by decide +kernel, by decide +kernel⟩
theorem x_BadFault (T : Sy K mg) : Exm P w K mg base 1 "BadFault" (spExI K "BadFault" "value") "value" := by
  refine T.exm T.xF.bf (F_BadFault___init__ T) sc_BadFault___init__ sp2_len (fun cdv f A outer s H vs Q E hr h => ?_) (fun _ _ _ _ _ _ us hl => match us, hl with | [_, _], _ => rfl)
  obtain ⟨_, v, rfl, a, rfl, ha, q⟩ := h
  refine ⟨_, (pss_cons (ps_expr (pe_vinit T.xF.me (by rfl) (T.glo "ModelError") (pa_cons (pv 0) (pa_cons pe_str pa_nil)))) (pss_one (ps_ost (pv 0) (pv 1)))), ?_⟩
  walk_at "yhead"; walk_at "y"
  refine ⟨a, He.ga K "BadFault", [.str "not a fault"], rfl, by show 1 ≤ 1000; decide, T.xF.bf.o, ha, ?_⟩
  exact ⟨v, rfl, _, rfl, a, He.ga K "BadFault", rfl, T.xF.bf.o, T.xF.bf.n, .inl ⟨ha, q⟩⟩
theorem sc_BadName___init__ : FnScope ["self", "value"] ["self", "value"] (defScope (inClass (top 7) 0)) := ⟨rfl, rfl, rfl, by decide +kernel, rfl, by decide +kernel, by decide +kernel⟩
theorem x_BadName (T : Sy K mg) : Exm P w K mg base 1 "BadName" (spExI K "BadName" "value") "value" := by
  refine T.exm T.xF.bn (F_BadName___init__ T) sc_BadName___init__ sp2_len (fun cdv f A outer s H vs Q E hr h => ?_) (fun _ _ _ _ _ _ us hl => match us, hl with | [_, _], _ => rfl)
  obtain ⟨_, v, rfl, a, rfl, ha, q⟩ := h
  refine ⟨_, (pss_cons (ps_expr (pe_vinit T.xF.me (by rfl) (T.glo "ModelError") (pa_cons (pv 0) (pa_cons pe_str pa_nil)))) (pss_one (ps_ost (pv 0) (pv 1)))), ?_⟩
  walk_at "yhead"; walk_at "y"
  refine ⟨a, He.ga K "BadName", [.str "not a name"], rfl, by show 1 ≤ 1000; decide, T.xF.bn.o, ha, ?_⟩
  exact ⟨v, rfl, _, rfl, a, He.ga K "BadName", rfl, T.xF.bn.o, T.xF.bn.n, .inl ⟨ha, q⟩⟩
def spCheck (K : PySem.W.Frag) : Sp := sp1 fun x H Q E => (∃ b p es, x = .ref p ∧ LogAt b H p es ∧ ∀ H', Same H H' → Q .non H') ∨
  (∃ p i, x = .ref p ∧ H p = some (.lst [.int i]) ∧ ∀ d H', H d = none → Same H H' → H' d = some (.xd [("index", .int 0)]) → E (.ref (He.ga K "BadLog")) (some d) H')
theorem sc_check_log : FnScope ["log", "place", "event"] ["log"] (defScope (top 30)) := ⟨rfl, rfl, rfl, by decide +kernel, rfl, by decide +kernel, by decide +kernel⟩
theorem c_check_log (T : Sy K mg) : Cal gd P w K mg base (CX P w) 6 "check_log" (spCheck K) := by
  refine T.calX (F_check_log T) sc_check_log sp1_len (fun cdv f A outer s H vs Q E z h => ?_) (fun _ _ _ _ _ _ us hl => match us, hl with | [_], _ => rfl)
  have hu1 := hu_1 z; have hu2 := hu_2 z; have hu3 := hu_3 z
  obtain ⟨x0, rfl, h⟩ := h
  refine ⟨_, (pss_cons (ps_if (pt_not (pt_val (pe_callB (r := rIsi2 K) call_isi2 (by rfl) (T.free "isinstance") (by decide +kernel) (pa_cons (pv 0) (pa_cons (pe_tup (pa_cons (pe_bltn (v := .ty "list") (u := .type "list") (by rfl) (T.free "list") (by decide +kernel) rfl) (pa_cons (pe_bltn (v := .ty "tuple") (u := .type "tuple") (by rfl) (T.free "tuple") (by decide +kernel) rfl) pa_nil))) pa_nil))))) (pss_one ps_never) pss_nil) (pss_one (ps_for (passes_of rfl) (by rfl) (pi_enum2K (K := K) rfl (by rfl) (T.free "enumerate") (pv 0)) (pg_tupK (K := K) rfl (by rfl) (pgs_cons (pg_name (i := 1) sc_check_log.nd rfl (by first | exact Or.inl rfl | exact Or.inr rfl)) (pgs_cons (pg_name (i := 2) sc_check_log.nd rfl (by first | exact Or.inl rfl | exact Or.inr rfl)) pgs_nil))) (pss_one (ps_if (pt_not (pt_val (pe_c (c_is_event T) z (pa_cons (pv 2) pa_nil)))) (pss_one (ps_raise rfl (takes_of rfl rfl rfl rfl) (pmk_x (x_BadLog T) z.r (pa_cons (pv 1) pa_nil)))) pss_nil))))), ?_⟩
  rcases h with ⟨b, p, es, rfl, lg, q⟩ | ⟨p, i, rfl, hp, q⟩
  rotate_left
  · walk_at "yhead"; walk_at "y"
    refine ⟨sz4 (by simp), fun T1 nT1 => ?_⟩
    have sH1 := same_upd (H := H) (o := .tup [.ty "list", .ty "tuple"]) nT1
    have eT1 := upd_same (H := H) (a := T1) (o := .tup [.ty "list", .ty "tuple"])
    generalize upd H T1 (.tup [.ty "list", .ty "tuple"]) = H1 at sH1 eT1 ⊢
    have hp1 := sH1 _ _ hp
    refine rIsi2_2 (b := true) (b2 := false) (ty_lst hp1) eT1 (by decide +kernel) (by decide +kernel) ?_
    walk_at "y"
    refine for_eb true ?_
    walk_at "y"
    refine ⟨p, [.int i], rfl, SqL.of hp1, for_it (walk_eb (b := true)) (Pv := fun j σ H' => j = 0 ∧ Same H1 H' ∧ σ = [some (.ref p), none, none]) ⟨rfl, Same.refl _, rfl⟩ (fun j σ H' _ hj => hj.2.1 _ _ hp1) (fun j x σ H0 H' hi hj y => ?_) fun σ H' hj => nomatch hj.1⟩
    obtain ⟨rfl, s0, rfl⟩ := hj
    obtain ⟨tt, v1, v2, rfl, ht, rfl, e1, e2⟩ := y
    cases e1
    cases e2
    have sY := same_upd (o := .tup [.int 0, .int i]) ht
    refine gTup_i (SqT.of upd_same) ?_
    walk_at "y"
    refine ⟨_, rfl, .inr ⟨i, rfl, ?_⟩⟩
    walk_at "y"
    exact mkx_i (f := "index") (c := "BadLog") fun d H' hd s3 e => q d H' ((sH1.trans s0).trans sY |>.free hd) (((sH1.trans s0).trans sY).trans s3) e
  obtain ⟨vs, h1, h2, ok, hl⟩ := id lg
  walk_at "yhead"; walk_at "y"
  refine ⟨sz4, fun p1 n1 => ?_⟩
  have s1 := same_upd (o := .tup [.ty "list", .ty "tuple"]) n1
  have i2 : ∀ {Q : VK}, Q (.bl true) (upd H p1 (.tup [.ty "list", .ty "tuple"])) → rIsi2 K [.ref p, .ref p1] (upd H p1 (.tup [.ty "list", .ty "tuple"])) Q := fun q => by
    cases b
    · exact rIsi2_2 (b := false) (b2 := true) (ty_sq (s1 _ _ h1)) upd_same (by decide +kernel) (by decide +kernel) q
    · exact rIsi2_2 (b := true) (b2 := false) (ty_sq (s1 _ _ h1)) upd_same (by decide +kernel) (by decide +kernel) q
  refine i2 ?_
  walk_at "y"
  refine for_eb b ?_
  walk_at "y"
  refine ⟨p, vs, rfl, SqB.of (s1 _ _ h1), for_it walk_eb (Pv := fun i σ H' => Same H H' ∧ ∃ a c, σ = [some (.ref p), a, c]) ⟨s1, _, _, rfl⟩ (fun i σ H' _ hp => hp.1 _ _ h1) (fun i x σ H0 H' hi hp y => ?_) fun σ H' hp => ?_⟩
  · obtain ⟨s0, a, c, rfl⟩ := hp
    obtain ⟨tt, v1, v2, rfl, ht, rfl, e1, e2⟩ := y
    cases e1
    have sY := same_upd (o := .tup [.int i, v2]) ht
    obtain ⟨t, ev, rfl, e3, e4⟩ := LogAt.get (b := b) (p := p) ((firm_TR _).all (sT (s0.trans sY)) h2) e2
    refine gTup_i (SqT.of upd_same) ?_
    walk_at "y"
    refine ⟨_, rfl, .inl ⟨t, ev, rfl, e4, ok _ (List.mem_of_getElem? e3), fun H3 s3 => ?_⟩⟩
    walk_at "y"
    exact ⟨(s0.trans sY).trans s3, _, _, rfl⟩
  · exact q _ hp.1
end

end L77
namespace L77
open PySem PySem.Spec PyProof.Rows L2
variable {gd : Bool}
local macro_rules | `(tactic| walk_at "y1") => `(tactic| with_reducible first
  | refine tSeq_i ?_ | refine tAsg_i ?_ | refine tCons_i ?_ | refine tNil_i ?_ | refine tC_i ?_ | refine tOp_i ?_ | refine tIfS_i ?_ | refine tTest_i ?_ | refine exBl_i ?_ | refine tRet_i ?_ | refine tCall_i ?_
  | refine tCB_i ?_ | refine tLst_i ?_ | refine tTup_i ?_ | refine rI0_i ?_ | refine tDrop_i ?_ | refine tNext_i ?_ | refine tB_i ?_ | refine tAnd_i ?_ | refine tOr_i ?_ | refine tNot_i ?_ | refine tAndV_i ?_ | refine tOrV_i ?_ | refine tNotV_i ?_
  | refine tYes_i ?_ | refine tTM_i ?_ | refine tPar_i ?_ | refine tSl_i ?_ | refine tNoPart_i ?_ | refine tPart_i ?_ | refine part_i ?_ | refine tMake_i ?_ | refine tProp_i ?_ | refine tCallOG_i ?_ | refine tVeI_i ?_ | refine tOst_i ?_ | refine tMkO_i ?_ | refine sFld_i ?_ | refine fldaug_i ?_ | refine gCons_i ?_ | refine gNil_i ?_ | refine tChain_i ?_ | refine tBM_i ?_ | refine rAdd2_i ?_ | refine rLe2_i ?_ | refine rEq2_i ?_ | refine rEq2_ss ?_ | refine rNe2_i ?_ | refine rNe2_ss ?_ | refine rIsN_i ?_ | refine rNotN_i ?_ | refine tTup_i2 ?_ | refine tIf_i ?_ | refine tUn_i ?_ | refine tDGet_i ?_ | refine sDPut_i ?_ | refine tFld_i ?_ | refine tRetN_i ?_ | refine tBreak_i ?_ | refine tCont_i ?_ | refine rU_i ?_)
local macro_rules | `(tactic| walk_at "yhead") => `(tactic| dsimp only [L2.start, List.map, List.length_cons, List.length_nil, Nat.reduceAdd, Nat.reduceSub, List.replicate, List.cons_append, List.nil_append])
local macro_rules | `(tactic| walk_at "y2") => `(tactic| first
  | walk_at "y1"
  | ((with_reducible refine tVar_i (v := ?v) ?h ?q); (case h => rfl))
  | ((with_reducible refine gName_i ?_); (dsimp only [L2.wipe, List.set]))
  | with_reducible refine iteT ?_ | with_reducible refine iteF ?_ | with_reducible refine iteNT ?_ | with_reducible refine iteNF ?_
  | ((with_reducible refine iteDT ?h ?q); (case h => first | decide +kernel | omega | assumption | exact nv1 | exact nv2 | exact nv3 | exact nv4)) | ((with_reducible refine iteDF ?h ?q); (case h => first | decide +kernel | omega | assumption | exact nv1 | exact nv2 | exact nv3 | exact nv4))
  | ((with_reducible refine iteNDT ?h ?q); (case h => first | decide +kernel | omega | assumption | exact nv1 | exact nv2 | exact nv3 | exact nv4)) | ((with_reducible refine iteNDF ?h ?q); (case h => first | decide +kernel | omega | assumption | exact nv1 | exact nv2 | exact nv3 | exact nv4))
  | ((with_reducible refine rIsi2_1 (T := ?T) (b := true) ?ty ?h ?q); (case ty => first | exact ty_str | exact ty_int | exact ty_bl | exact ty_non); (case h => decide +kernel))
  | ((with_reducible refine rIsi2_1 (T := ?T) (b := false) ?ty ?h ?q); (case ty => first | exact ty_str | exact ty_int | exact ty_bl | exact ty_non); (case h => decide +kernel))
  | ((with_reducible refine rEq2_s ?h ?q); (case h => rfl)) | ((with_reducible refine rNe2_s ?h ?q); (case h => rfl))
  | ((with_reducible refine rEq_i ?h ?q); (case h => rfl)) | ((with_reducible refine rNe_i ?h ?q); (case h => rfl)))
local macro_rules | `(tactic| walk_at "y") => `(tactic| repeat walk_at "y2")

section
variable {P : Program} {w : World} {K : PySem.W.Frag} {mg : Str → Option Value} {base : Heap}
/-- a watcher's fields -/
structure WSt where
  seen : Int
  opened : Int
  made : Int
  opn : List Int
  most : Int
def WSt.fs (s : WSt) (l : Addr) : List (Str × V) := [("s7_seen", .int s.seen), ("s7_opened", .int s.opened), ("s7_made", .int s.made), ("s7_open", .ref l), ("s7_most", .int s.most)]
def WSt.new : WSt := ⟨0, 0, 0, [], 0⟩
/-- a watcher at x, its list at l -/
def WAt (K : PySem.W.Frag) (H : Hp) (x dx l : Addr) (s : WSt) : Prop := H x = some (.ins (He.ga K "Watcher") dx (s.fs l)) ∧ H l = some (.lst (s.opn.map V.int))
def spWInit (K : PySem.W.Frag) : Sp := sp1 fun v H Q _ => ∃ x dx, v = .ref x ∧ H x = some (.ins (He.ga K "Watcher") dx []) ∧ ∀ l H', H l = none → (∀ b o, H b = some o → b ≠ x → H' b = some o) → WAt K H' x dx l .new → Q .non H'
theorem sc_Watcher___init__ : FnScope ["self"] ["self"] (defScope (inClass (top 31) 0)) := ⟨rfl, rfl, rfl, by decide +kernel, rfl, by decide +kernel, by decide +kernel⟩
theorem m_Watcher (T : Sy K mg) : Mak gd P w K mg base CX0 1 "Watcher" (spWInit K) := by
  refine T.mak (F_Watcher___init__ T) sc_Watcher___init__ sp1_len (fun cdv f A outer s H vs Q E z h => ?_) (fun _ _ _ _ _ _ us hl => match us, hl with | [_], _ => rfl)
  obtain ⟨_, rfl, x, dx, rfl, hx, q⟩ := h
  refine ⟨_, (pss_cons (ps_fldK (K := K) rfl (pv 0) pe_int) (pss_cons (ps_fldK (K := K) rfl (pv 0) pe_int) (pss_cons (ps_fldK (K := K) rfl (pv 0) pe_int) (pss_cons (ps_fldK (K := K) rfl (pv 0) (pe_lst pa_nil)) (pss_one (ps_fldK (K := K) rfl (pv 0) pe_int)))))), ?_⟩
  have cl := T.cls "Watcher"
  walk_at "yhead"; walk_at "y"
  refine fst_i hx cl (T.noat "Watcher" "s7_seen") (by decide) ?_
  walk_at "y"
  refine fst_i upd_same cl (T.noat "Watcher" "s7_opened") (by decide) ?_
  walk_at "y"
  refine fst_i upd_same cl (T.noat "Watcher" "s7_made") (by decide) ?_
  walk_at "y"
  refine ⟨sz4, fun l hl => ?_⟩
  have nx : x ≠ l := ne_of_none upd_same hl
  walk_at "y"
  refine fst_i ((upd_ne nx).trans upd_same) cl (T.noat "Watcher" "s7_open") (ltB (by kernel_rfl)) ?_
  walk_at "y"
  refine fst_i upd_same cl (T.noat "Watcher" "s7_most") (ltB (by kernel_rfl)) ?_
  rw [upd_ne (Ne.symm nx), upd_ne (Ne.symm nx), upd_ne (Ne.symm nx)] at hl
  refine q l _ hl (fun b o e n => ?_) ⟨by rw [upd_same]; kernel_rfl, ?_⟩
  · have nl : b ≠ l := ne_of_none e hl
    rw [upd_ne n, upd_ne n, upd_ne nl, upd_ne n, upd_ne n, upd_ne n]
    exact e
  · rw [upd_ne (Ne.symm nx), upd_ne (Ne.symm nx), upd_same]
    rfl
end

end L77
namespace L77
open PySem PySem.Spec PyProof.Rows L2
variable {gd : Bool}
local macro_rules | `(tactic| walk_at "y1") => `(tactic| with_reducible first
  | refine tSeq_i ?_ | refine tAsg_i ?_ | refine tCons_i ?_ | refine tNil_i ?_ | refine tC_i ?_ | refine tOp_i ?_ | refine tIfS_i ?_ | refine tTest_i ?_ | refine exBl_i ?_ | refine tRet_i ?_ | refine tCall_i ?_
  | refine tCB_i ?_ | refine tLst_i ?_ | refine tTup_i ?_ | refine rI0_i ?_ | refine tDrop_i ?_ | refine tNext_i ?_ | refine tB_i ?_ | refine tAnd_i ?_ | refine tOr_i ?_ | refine tNot_i ?_ | refine tAndV_i ?_ | refine tOrV_i ?_ | refine tNotV_i ?_
  | refine tYes_i ?_ | refine tTM_i ?_ | refine tPar_i ?_ | refine tSl_i ?_ | refine tNoPart_i ?_ | refine tPart_i ?_ | refine part_i ?_ | refine tMake_i ?_ | refine tProp_i ?_ | refine tCallOG_i ?_ | refine tVeI_i ?_ | refine tOst_i ?_ | refine tMkO_i ?_ | refine sFld_i ?_ | refine fldaug_i ?_ | refine gCons_i ?_ | refine gNil_i ?_ | refine tChain_i ?_ | refine tBM_i ?_ | refine rAdd2_i ?_ | refine rLe2_i ?_ | refine rEq2_i ?_ | refine rEq2_ss ?_ | refine rNe2_i ?_ | refine rNe2_ss ?_ | refine rIsN_i ?_ | refine rNotN_i ?_ | refine tTup_i2 ?_ | refine tIf_i ?_ | refine tUn_i ?_ | refine tDGet_i ?_ | refine sDPut_i ?_ | refine tFld_i ?_ | refine tRetN_i ?_ | refine tBreak_i ?_ | refine tCont_i ?_ | refine rU_i ?_)
local macro_rules | `(tactic| walk_at "yhead") => `(tactic| dsimp only [L2.start, List.map, List.length_cons, List.length_nil, Nat.reduceAdd, Nat.reduceSub, List.replicate, List.cons_append, List.nil_append])
local macro_rules | `(tactic| walk_at "y2") => `(tactic| first
  | walk_at "y1"
  | ((with_reducible refine tVar_i (v := ?v) ?h ?q); (case h => rfl))
  | ((with_reducible refine gName_i ?_); (dsimp only [L2.wipe, List.set]))
  | with_reducible refine iteT ?_ | with_reducible refine iteF ?_ | with_reducible refine iteNT ?_ | with_reducible refine iteNF ?_
  | ((with_reducible refine iteDT ?h ?q); (case h => first | decide +kernel | omega | assumption | exact nv1 | exact nv2 | exact nv3 | exact nv4)) | ((with_reducible refine iteDF ?h ?q); (case h => first | decide +kernel | omega | assumption | exact nv1 | exact nv2 | exact nv3 | exact nv4))
  | ((with_reducible refine iteNDT ?h ?q); (case h => first | decide +kernel | omega | assumption | exact nv1 | exact nv2 | exact nv3 | exact nv4)) | ((with_reducible refine iteNDF ?h ?q); (case h => first | decide +kernel | omega | assumption | exact nv1 | exact nv2 | exact nv3 | exact nv4))
  | ((with_reducible refine rIsi2_1 (T := ?T) (b := true) ?ty ?h ?q); (case ty => first | exact ty_str | exact ty_int | exact ty_bl | exact ty_non); (case h => decide +kernel))
  | ((with_reducible refine rIsi2_1 (T := ?T) (b := false) ?ty ?h ?q); (case ty => first | exact ty_str | exact ty_int | exact ty_bl | exact ty_non); (case h => decide +kernel))
  | ((with_reducible refine rEq2_s ?h ?q); (case h => rfl)) | ((with_reducible refine rNe2_s ?h ?q); (case h => rfl))
  | ((with_reducible refine rEq_i ?h ?q); (case h => rfl)) | ((with_reducible refine rNe_i ?h ?q); (case h => rfl)))
local macro_rules | `(tactic| walk_at "y") => `(tactic| repeat walk_at "y2")

section
variable {P : Program} {w : World} {K : PySem.W.Frag} {mg : Str → Option Value} {base : Heap}
def WSt.step (s : WSt) : Ev → WSt
  | .fa _ _ _ => { s with seen := s.seen + 1, made := s.made + 1 }
  | .op n => { s with seen := s.seen + 1, opened := s.opened + 1, opn := if n ∈ s.opn then s.opn else s.opn ++ [n], most := max s.most ((if n ∈ s.opn then s.opn else s.opn ++ [n]).length : Nat) }
  | .sh n => { s with seen := s.seen + 1, opn := s.opn.filter fun m => decide (m ≠ n) }
  | _ => { s with seen := s.seen + 1 }
def WSt.ret (s : WSt) : Ev → Bool
  | .fa n _ _ => decide (n = s.made) | .op n => decide (n = s.opened) | .sh n => decide (n ∈ s.opn) | _ => true
def spWQ (K : PySem.W.Frag) : Sp := sp2 fun xv ev H Q _ => ∃ x dx l st, xv = .ref x ∧ WAt K H x dx l st ∧ st.opn.length ≤ 100 ∧
  ∃ p e, ev = .ref p ∧ H p = some (.tup (Ev.xs e)) ∧ e.ok ∧ ∀ l' H', (l' = l ∨ H l' = none) → (∀ b o, H b = some o → b ≠ x → b ≠ l → H' b = some o) → WAt K H' x dx l' (st.step e) → Q (.bl (st.ret e)) H'
theorem sc_Watcher___call__ : FnScope ["self", "event", "word", "number", "rest", "was_open", "entry"] ["self", "event"] (defScope (inClass (top 31) 1)) := ⟨rfl, rfl, rfl, by decide +kernel, rfl, by decide +kernel, by decide +kernel⟩
theorem qt {X : Cx} {b : List Stmt} {p : TS → Prop} (h : ∃ t, PSs X.nox b t ∧ p t) : ∃ t, PSs X b t ∧ p t := by
  obtain ⟨t, h1, h2⟩ := h
  exact ⟨t, h1.nox, h2⟩
theorem f_call (T : Sy K mg) : ∃ fd, FnG gd P w K mg base CX0 7 (He.ma K (He.ga K "Watcher") "__call__") fd ["self", "event"] (spWQ K) ∧ Binds K fd ["self", "event"] [] := by
  obtain ⟨fd, F⟩ := F_Watcher___call__ T
  refine ⟨fd, FnG.body F sc_Watcher___call__ sp2_len fun cdv A out s H vs Q E z h => qt ?_, F.bindsN (fun _ _ _ _ _ _ us hl => match us, hl with | [_, _], _ => rfl)⟩
  have hu1 := hu_1 z; have hu2 := hu_2 z; have hu3 := hu_3 z
  obtain ⟨_, ev, rfl, x, dx, l, st, rfl, ⟨hx, hl⟩, hol, p, e, rfl, hp, ok, q⟩ := h
  have cl := T.cls "Watcher"
  refine ⟨_, (pss_cons (ps_if (pt_not (pt_val (pe_c (c_is_event T) z (pa_cons (pv 1) pa_nil)))) (pss_one ps_never) pss_nil) (pss_cons (ps_fldaugK (K := K) rfl (pv 0) pe_int) (pss_cons (ps_asg (pv 1) (pg_starK (K := K) (n := 3) (i := 2) rfl (by rfl) (pgs_cons (pg_name (i := 2) sc_Watcher___call__.nd rfl (by first | exact Or.inl rfl | exact Or.inr rfl)) (pgs_cons (pg_name (i := 3) sc_Watcher___call__.nd rfl (by first | exact Or.inl rfl | exact Or.inr rfl)) (pgs_star (pg_name (i := 4) sc_Watcher___call__.nd rfl (by first | exact Or.inl rfl | exact Or.inr rfl)) pgs_nil))) rfl rfl (by decide))) (pss_cons (ps_if (pt_cmpR (r := rEq2 K) (op_eq2 hu1) (pv 2) pe_str (nomark _)) (pss_cons (ps_fldaugK (K := K) rfl (pv 0) pe_int) (pss_one (ps_ret (pe_cmpR (r := rEq2 K) (op_eq2 hu1) (pv 3) (pe_op op_sub (pe_fldK (K := K) rfl (pv 0)) pe_int) (nomark _))))) pss_nil) (pss_cons (ps_if (pt_cmpR (r := rEq2 K) (op_eq2 hu1) (pv 2) pe_str (nomark _)) (pss_cons (ps_fldaugK (K := K) rfl (pv 0) pe_int) (pss_cons (ps_if (pt_cmpR (r := rNotIn2 K) (op_notIn2 hu2) (pv 3) (pe_fldK (K := K) rfl (pv 0)) rfl) (pss_one (ps_expr (pe_bmK (K := K) rfl PySem.F.plainAttrs_list PySem.F.slot_list_append PySem.F.type_list_append mt_append2 (pe_fldK (K := K) rfl (pv 0)) (pa_cons (pv 3) pa_nil)))) pss_nil) (pss_cons (ps_fldK (K := K) rfl (pv 0) (pe_callB (call_max2 rfl) (by rfl) (T.free "max") (by decide +kernel) (pa_cons (pe_fldK (K := K) rfl (pv 0)) (pa_cons (pe_callB (r := rLen2 K) call_len2 (by rfl) (T.free "len") (by decide +kernel) (pa_cons (pe_fldK (K := K) rfl (pv 0)) pa_nil)) pa_nil)))) (pss_one (ps_ret (pe_cmpR (r := rEq2 K) (op_eq2 hu1) (pv 3) (pe_op op_sub (pe_fldK (K := K) rfl (pv 0)) pe_int) (nomark _))))))) pss_nil) (pss_cons (ps_if (pt_cmpR (r := rEq2 K) (op_eq2 hu1) (pv 2) pe_str (nomark _)) (pss_cons (ps_set (i := 5) sc_Watcher___call__.nd rfl (by first | exact Or.inl rfl | exact Or.inr rfl) (pe_cmpR (r := rIn2 K) (op_in2 hu2) (pv 3) (pe_fldK (K := K) rfl (pv 0)) rfl)) (pss_cons (ps_fldK (K := K) rfl (pv 0) (pe_lc (own := [("entry", 6)]) (g := gName 6) (by rfl) sc_Watcher___call__.nd (pi_anyK (K := K) rfl (pe_fldK (K := K) rfl (pv 0))) (blkOk_by (own := [("entry", 6)]) (N := ["self", "event", "word", "number", "rest", "was_open", "entry"]) (sc := (defScope (inClass (top 31) 1))) (by decide +kernel)) (fun _ _ _ _ _ => (pg_name (i := 6) sc_Watcher___call__.nd rfl (by first | exact Or.inl rfl | exact Or.inr rfl))) (fun _ _ _ _ _ => pts_one (pt_cmpR (r := rNe2 K) (op_ne2 hu1) (pv 6) (pv 3) (nomark _))) (fun _ _ _ _ _ => (pv 6)))) (pss_one (ps_ret (pv 5))))) pss_nil) (pss_one (ps_ret pe_bl)))))))), ?_⟩
  · walk_at "yhead"; walk_at "y"
    refine ⟨_, rfl, .inl ⟨p, e, rfl, hp, ok, fun H1 s1 => ?_⟩⟩
    walk_at "y"
    have hx1 := s1 _ _ hx
    have hl1 := s1 _ _ hl
    have nxl : x ≠ l := ne_of hx hl (by intro z; cases z)
    have nxp : p ≠ x := ne_of hp hx (by intro z; cases z)
    have npl : p ≠ l := ne_of hp hl (by intro z; cases z)
    refine faugU_i (k := st.seen) (fs' := ({ st with seen := st.seen + 1 } : WSt).fs l) hx1 cl (T.noat "Watcher" "s7_seen") (ltB (by kernel_rfl)) (by kernel_rfl) (by kernel_rfl) fun H2 hx2 u2 => ?_
    walk_at "y"
    have hl2 := (u2 l (Ne.symm nxl)).trans hl1
    have hp2 := (u2 p nxp).trans (s1 _ _ hp)
    have off2 : ∀ b o, H b = some o → b ≠ x → H2 b = some o := fun b o e n => (u2 b n).trans (s1 _ _ e)
    cases e with
    | op n =>
      refine gStar_3U (SqT.of hp2) fun d H3 hd hd3 s3 => ?_
      walk_at "y"
      refine faugU_i (k := st.opened) (fs' := ({ st with seen := st.seen + 1, opened := st.opened + 1 } : WSt).fs l) (s3 _ _ hx2) cl (T.noat "Watcher" "s7_opened") (ltB (by kernel_rfl)) (by kernel_rfl) (by kernel_rfl) fun H4 hx4 u4 => ?_
      walk_at "y"
      have hl4 := (u4 l (Ne.symm nxl)).trans (s3 _ _ hl2)
      have off4 : ∀ b o, H b = some o → b ≠ x → H4 b = some o := fun b o e n => (u4 b n).trans (s3 _ _ (off2 b o e n))
      refine fld_j (v := .ref l) hx4 cl (T.noat "Watcher" "s7_open") (by kernel_rfl) ?_
      refine rNotIn2_f (b := true) (SqL.of hl4) rfl (flat_ints _) ?_
      rw [inV_ints]
      by_cases c : n ∈ st.opn
      · walk_at "y"
        refine fld_j (v := .int st.most) hx4 cl (T.noat "Watcher" "s7_most") (by kernel_rfl) ?_
        walk_at "y"
        refine fld_j (v := .ref l) hx4 cl (T.noat "Watcher" "s7_open") (by kernel_rfl) ?_
        walk_at "y"
        refine rLen2_l (SqL.of hl4) ?_ (List.length_map ..)
        refine ⟨_, _, rfl, ?_⟩
        walk_at "y"
        refine fstU_i (fs' := (WSt.step st (.op n)).fs l) hx4 cl (T.noat "Watcher" "s7_most") (ltB (by kernel_rfl)) (?_) fun H6 hx6 u6 => ?_
        · rw [show WSt.step st (.op n) = ⟨st.seen + 1, st.opened + 1, st.made, st.opn, if (((st.opn).length : Nat) : Int) > st.most then (((st.opn).length : Nat) : Int) else st.most⟩ by
            show WSt.mk _ _ _ _ _ = _
            first | rw [if_pos c] | rw [if_neg c]
            congr 1
            rw [Int.max_def]
            split <;> split <;> omega]
          kernel_rfl
        walk_at "y"
        refine fld_j (v := .int (st.opened + 1)) hx6 cl (T.noat "Watcher" "s7_opened") (by kernel_rfl) ?_
        walk_at "y"
        rw [show st.opened + 1 - 1 = st.opened by omega]
        refine q l H6 (.inl rfl) (fun b o e n1 n2 => (u6 b n1).trans (off4 b o e n1)) ⟨hx6, ?_⟩
        rw [u6 l (Ne.symm nxl), hl4]
        show _ = some (HO.lst ((if n ∈ st.opn then st.opn else st.opn ++ [n]).map V.int))
        first | rw [if_pos c] | rw [if_neg c]
      · walk_at "y"
        refine fld_j (v := .ref l) hx4 cl (T.noat "Watcher" "s7_open") (by kernel_rfl) ?_
        refine ⟨tyL hl4, ?_⟩
        walk_at "y"
        refine appU_i hl4 (by rw [List.length_map]; exact Nat.lt_of_le_of_lt hol (by decide)) fun H5 hl5 u5 => ?_
        walk_at "y"
        have hx5 := (u5 x nxl).trans hx4
        rw [show st.opn.map V.int ++ [V.int n] = (st.opn ++ [n]).map V.int by simp] at hl5
        have off5 : ∀ b o, H b = some o → b ≠ x → b ≠ l → H5 b = some o := fun b o e n1 n2 => (u5 b n2).trans (off4 b o e n1)
        refine fld_j (v := .int st.most) hx5 cl (T.noat "Watcher" "s7_most") (by kernel_rfl) ?_
        walk_at "y"
        refine fld_j (v := .ref l) hx5 cl (T.noat "Watcher" "s7_open") (by kernel_rfl) ?_
        walk_at "y"
        refine rLen2_l (SqL.of hl5) ?_ (List.length_map ..)
        refine ⟨_, _, rfl, ?_⟩
        walk_at "y"
        refine fstU_i (fs' := (WSt.step st (.op n)).fs l) hx5 cl (T.noat "Watcher" "s7_most") (ltB (by kernel_rfl)) (?_) fun H6 hx6 u6 => ?_
        · rw [show WSt.step st (.op n) = ⟨st.seen + 1, st.opened + 1, st.made, st.opn ++ [n], if (((st.opn ++ [n]).length : Nat) : Int) > st.most then (((st.opn ++ [n]).length : Nat) : Int) else st.most⟩ by
            show WSt.mk _ _ _ _ _ = _
            first | rw [if_pos c] | rw [if_neg c]
            congr 1
            rw [Int.max_def]
            split <;> split <;> omega]
          kernel_rfl
        walk_at "y"
        refine fld_j (v := .int (st.opened + 1)) hx6 cl (T.noat "Watcher" "s7_opened") (by kernel_rfl) ?_
        walk_at "y"
        rw [show st.opened + 1 - 1 = st.opened by omega]
        refine q l H6 (.inl rfl) (fun b o e n1 n2 => (u6 b n1).trans (off5 b o e n1 n2)) ⟨hx6, ?_⟩
        rw [u6 l (Ne.symm nxl), hl5]
        show _ = some (HO.lst ((if n ∈ st.opn then st.opn else st.opn ++ [n]).map V.int))
        first | rw [if_pos c] | rw [if_neg c]
    | sh n =>
      refine gStar_3U (SqT.of hp2) fun d H3 hd hd3 s3 => ?_
      walk_at "y"
      refine fld_j (v := .ref l) (s3 _ _ hx2) cl (T.noat "Watcher" "s7_open") (by kernel_rfl) ?_
      refine rIn2_f (b := true) (SqL.of (s3 _ _ hl2)) rfl (flat_ints _) ?_
      rw [inV_ints]
      walk_at "y"
      refine lc_b true ?_
      walk_at "y"
      refine fld_j (v := .ref l) (s3 _ _ hx2) cl (T.noat "Watcher" "s7_open") (by kernel_rfl) ?_
      refine ⟨l, rfl, ⟨_, SqL.of (s3 _ _ hl2)⟩, lc_pure (walk_b (b := true) (xs := st.opn.map V.int)) (by rw [List.length_map]; exact Nat.le_trans hol sz4) (fun i => (st.opn[i]?).bind fun m => if m = n then none else some m) (firm_FR V.int) (fun H' s => s _ _ (s3 _ _ hl2)) (fun i H0 x H1 y => by obtain ⟨rfl, _⟩ := y; exact Same.refl _) (fun i x H0 H5 hi s0 s5 y N C hC hN => ?_) fun D H5 vs hD s5 h5 pr => ?_⟩
      · obtain ⟨rfl, e1⟩ := y
        rw [List.getElem?_map] at e1
        cases e2 : st.opn[i]? with
        | none => rw [e2] at e1; cases e1
        | some m =>
          rw [e2] at e1
          cases e1
          walk_at "y"
          refine ⟨rfl, ?_⟩
          walk_at "y"
          by_cases cm : m = n
          · walk_at "y"
            exact hN (by rw [e2]; simp [cm]) _ (Same.refl _)
          · walk_at "y"
            exact hC _ _ m (Same.refl _) (by rw [e2]; simp [cm]) rfl
      · rw [paired_FR pr, List.length_map, filterMap_ix, filterMap_ne] at h5
        walk_at "y"
        refine fstU_i (fs' := (WSt.step st (.sh n)).fs D) (s5 _ _ (s3 _ _ hx2)) cl (T.noat "Watcher" "s7_open") (ltB (by kernel_rfl)) (by kernel_rfl) fun H6 hx6 u6 => ?_
        walk_at "y"
        have nxD : D ≠ x := fun z => by rw [z] at hD; rw [s3 _ _ hx2] at hD; cases hD
        refine q D H6 (.inr ?_) (fun b o e n1 n2 => (u6 b n1).trans (s5 _ _ (s3 _ _ (off2 b o e n1)))) ⟨hx6, ?_⟩
        · cases e1 : H D with
          | none => rfl
          | some o => rw [s3 _ _ (off2 D o e1 nxD)] at hD; cases hD
        · rw [u6 D nxD, h5]
          rfl
    | fa n fk fl =>
      refine gStar_3U (SqT.of hp2) fun d H3 hd hd3 s3 => ?_
      walk_at "y"
      refine faugU_i (k := st.made) (fs' := (WSt.step st (.fa n fk fl)).fs l) (s3 _ _ hx2) cl (T.noat "Watcher" "s7_made") (ltB (by kernel_rfl)) (by kernel_rfl) (by kernel_rfl) fun H4 hx4 u4 => ?_
      walk_at "y"
      refine fld_j (v := .int (st.made + 1)) hx4 cl (T.noat "Watcher" "s7_made") (by kernel_rfl) ?_
      walk_at "y"
      rw [show st.made + 1 - 1 = st.made by omega]
      exact q l H4 (.inl rfl) (fun b o e n1 _ => (u4 b n1).trans (s3 _ _ (off2 b o e n1))) ⟨hx4, (u4 l (Ne.symm nxl)).trans (s3 _ _ hl2)⟩
    | no n =>
      refine gStar_3U (SqT.of hp2) fun d H3 hd hd3 s3 => ?_
      walk_at "y"
      exact q l H3 (.inl rfl) (fun b o e n1 _ => s3 _ _ (off2 b o e n1)) ⟨s3 _ _ hx2, s3 _ _ hl2⟩
end

end L77
namespace L77
open PySem PySem.Spec PyProof.Rows L2
variable {gd : Bool}
local macro_rules | `(tactic| walk_at "y1") => `(tactic| with_reducible first
  | refine tSeq_i ?_ | refine tAsg_i ?_ | refine tCons_i ?_ | refine tNil_i ?_ | refine tC_i ?_ | refine tOp_i ?_ | refine tIfS_i ?_ | refine tTest_i ?_ | refine exBl_i ?_ | refine tRet_i ?_ | refine tCall_i ?_
  | refine tCB_i ?_ | refine tLst_i ?_ | refine tTup_i ?_ | refine rI0_i ?_ | refine tDrop_i ?_ | refine tNext_i ?_ | refine tB_i ?_ | refine tAnd_i ?_ | refine tOr_i ?_ | refine tNot_i ?_ | refine tAndV_i ?_ | refine tOrV_i ?_ | refine tNotV_i ?_
  | refine tYes_i ?_ | refine tTM_i ?_ | refine tPar_i ?_ | refine tSl_i ?_ | refine tNoPart_i ?_ | refine tPart_i ?_ | refine part_i ?_ | refine tMake_i ?_ | refine tProp_i ?_ | refine tCallOG_i ?_ | refine tVeI_i ?_ | refine tOst_i ?_ | refine tMkO_i ?_ | refine sFld_i ?_ | refine fldaug_i ?_ | refine gCons_i ?_ | refine gNil_i ?_ | refine tChain_i ?_ | refine tBM_i ?_ | refine rAdd2_i ?_ | refine rLe2_i ?_ | refine rEq2_i ?_ | refine rEq2_ss ?_ | refine rNe2_i ?_ | refine rNe2_ss ?_ | refine rIsN_i ?_ | refine rNotN_i ?_ | refine tTup_i2 ?_ | refine tIf_i ?_ | refine tUn_i ?_ | refine tDGet_i ?_ | refine sDPut_i ?_ | refine tFld_i ?_ | refine tRetN_i ?_ | refine tBreak_i ?_ | refine tCont_i ?_ | refine rU_i ?_)
local macro_rules | `(tactic| walk_at "yhead") => `(tactic| dsimp only [L2.start, List.map, List.length_cons, List.length_nil, Nat.reduceAdd, Nat.reduceSub, List.replicate, List.cons_append, List.nil_append])
local macro_rules | `(tactic| walk_at "y2") => `(tactic| first
  | walk_at "y1"
  | ((with_reducible refine tVar_i (v := ?v) ?h ?q); (case h => rfl))
  | ((with_reducible refine gName_i ?_); (dsimp only [L2.wipe, List.set]))
  | with_reducible refine iteT ?_ | with_reducible refine iteF ?_ | with_reducible refine iteNT ?_ | with_reducible refine iteNF ?_
  | ((with_reducible refine iteDT ?h ?q); (case h => first | decide +kernel | omega | assumption | exact nv1 | exact nv2 | exact nv3 | exact nv4)) | ((with_reducible refine iteDF ?h ?q); (case h => first | decide +kernel | omega | assumption | exact nv1 | exact nv2 | exact nv3 | exact nv4))
  | ((with_reducible refine iteNDT ?h ?q); (case h => first | decide +kernel | omega | assumption | exact nv1 | exact nv2 | exact nv3 | exact nv4)) | ((with_reducible refine iteNDF ?h ?q); (case h => first | decide +kernel | omega | assumption | exact nv1 | exact nv2 | exact nv3 | exact nv4))
  | ((with_reducible refine rIsi2_1 (T := ?T) (b := true) ?ty ?h ?q); (case ty => first | exact ty_str | exact ty_int | exact ty_bl | exact ty_non); (case h => decide +kernel))
  | ((with_reducible refine rIsi2_1 (T := ?T) (b := false) ?ty ?h ?q); (case ty => first | exact ty_str | exact ty_int | exact ty_bl | exact ty_non); (case h => decide +kernel))
  | ((with_reducible refine rEq2_s ?h ?q); (case h => rfl)) | ((with_reducible refine rNe2_s ?h ?q); (case h => rfl))
  | ((with_reducible refine rEq_i ?h ?q); (case h => rfl)) | ((with_reducible refine rNe_i ?h ?q); (case h => rfl)))
local macro_rules | `(tactic| walk_at "y") => `(tactic| repeat walk_at "y2")

section
variable {P : Program} {w : World} {K : PySem.W.Frag} {mg : Str → Option Value} {base : Heap}
theorem cO (T : Sy K mg) : StX.CallO K (He.ga K "Watcher") (He.ma K (He.ga K "Watcher") "__call__") := by
  have m := T.meth "Watcher" "__call__"
  obtain ⟨fd, F⟩ := F_Watcher___call__ T
  obtain ⟨oc, od, dV, kV, doc, pm, an, cdv, ct, osl, _, lk, _⟩ := F.ex
  refine ⟨m.at_, m.fn, ?_⟩
  unfold PySem.W.fnIn
  rw [show K.lookup (He.ma K (He.ga K "Watcher") "__call__") = _ from lk]
theorem pe_wq (T : Sy K mg) {X : Cx} {j : Nat} {e fe : Expr} {es : List Expr} {tf : TE} {t : TA} {pos : Pos} (hK : X.K = K) (hm : X.mg = mg) (z : RG gd j X.A) (hf : PE X fe tf) (ha : PA X (e :: es) t) (hk : 7 ≤ j := by decide)
    (ht : eval (.Call fe (e :: es) [] pos) X.env = (do callWith pos (← eval fe X.env) [] (backTo pos (starEach (e :: es) X.env)) (backToKw pos (keywordEach [] X.env))) := by rfl)
    (he : starEach (e :: es) X.env = (false, eval e X.env) :: starEach es X.env := by rfl) (hpl : (backTo pos (starEach es X.env)).any (·.1) = false := by rfl) : PE X (.Call fe (e :: es) [] pos) (tCallOG (He.ga K "Watcher") (spWQ K) E0 tf t) := by
  subst hK hm
  obtain ⟨fd, F, b⟩ := f_call (P := X.prog) (w := X.w) (base := X.base) (gd := gd) T
  exact pe_callOG hf (cO T) F (z.mono hk) b pass0 ha ht he hpl
/-- the watcher after i events -/
def stAt (es : List Ev) (i : Nat) : WSt := (es.take i).foldl WSt.step .new
theorem stAt_succ {es : List Ev} {i : Nat} {e : Ev} (h : es[i]? = some e) : stAt es (i + 1) = (stAt es i).step e := by
  obtain ⟨hi, e1⟩ := List.getElem?_eq_some_iff.mp h
  unfold stAt
  rw [List.take_succ, h]
  simp
theorem step_opn (s : WSt) (e : Ev) : (s.step e).opn.length ≤ s.opn.length + 1 := by
  cases e with
  | op n =>
    show (if n ∈ s.opn then s.opn else s.opn ++ [n]).length ≤ _
    split <;> simp
  | sh n => exact Nat.le_trans (List.length_filter_le ..) (Nat.le_succ _)
  | _ => exact Nat.le_succ _
theorem stAt_opn (es : List Ev) : ∀ i, (stAt es i).opn.length ≤ i
  | 0 => Nat.le_refl _
  | i + 1 => by
    cases h : es[i]? with
    | some e => rw [stAt_succ h]; exact Nat.le_trans (step_opn _ _) (Nat.succ_le_succ (stAt_opn es i))
    | none =>
      have hl := List.getElem?_eq_none_iff.mp h
      have e1 : stAt es (i + 1) = stAt es i := by unfold stAt; rw [List.take_of_length_le (by omega), List.take_of_length_le (by omega)]
      rw [e1]
      exact Nat.le_succ_of_le (stAt_opn es i)
/-- a watcher that came behind H0 -/
structure WS (K : PySem.W.Frag) (H0 H : Hp) (x dx l : Addr) (s : WSt) : Prop where
  x0 : H0 x = none
  l0 : H0 l = none
  sm : Same H0 H
  at_ : WAt K H x dx l s
theorem WS.mono {H0 H H' : Hp} {x dx l : Addr} {s : WSt} (h : WS K H0 H x dx l s) (k : Same H H') : WS K H0 H' x dx l s := ⟨h.x0, h.l0, h.sm.trans k, k _ _ h.at_.1, k _ _ h.at_.2⟩
/-- a call of the watcher -/
theorem wq_i {H0 H : Hp} {x dx l p : Addr} {s : WSt} {e : Ev} {Q : VK} {E : XK} (h : WS K H0 H x dx l s) (hol : s.opn.length ≤ 100) (hp : H p = some (.tup e.xs)) (ok : e.ok)
    (q : ∀ l' H', WS K H0 H' x dx l' (s.step e) → (l' = l ∨ H l' = none) → (∀ b o, H b = some o → b ≠ x → b ≠ l → H' b = some o) → Q (.bl (s.ret e)) H') :
    (∃ dx fs, H x = some (.ins (He.ga K "Watcher") dx fs)) ∧ spWQ K [V.ref x, V.ref p] H Q E := by
  refine ⟨⟨_, _, h.at_.1⟩, _, _, rfl, x, dx, l, s, rfl, h.at_, hol, p, e, rfl, hp, ok, fun l' H' hl' off hw => ?_⟩
  refine q l' H' ⟨h.x0, ?_, fun b o e => ?_, hw⟩ hl' off
  · rcases hl' with rfl | hn
    · exact h.l0
    · exact h.sm.free hn
  · exact off b o (h.sm _ _ e) (ne_of_none e h.x0) (ne_of_none e h.l0)
/-- Watcher() -/
theorem wnew_i {H : Hp} {N : Addr → Hp → Prop} {E : XK} (q : ∀ x dx l H', WS K H H' x dx l .new → N x H') :
    ∀ x dx, H x = none → H dx = none → dx ≠ x → spWInit K (V.ref x :: ([] ++ [])) (upd (upd H dx (.own x)) x (.ins (He.ga K "Watcher") dx [])) (fun v H2 => v = .non ∧ N x H2) E := by
  intro x dx hx hdx ne
  refine ⟨_, rfl, x, dx, rfl, upd_same, fun l H' hl off hw => ⟨rfl, q x dx l H' ⟨hx, ?_, fun b o e => ?_, hw⟩⟩⟩
  · have n1 : l ≠ x := fun z => by rw [z, upd_same] at hl; cases hl
    have n2 : l ≠ dx := fun z => by rw [z, upd_ne ne, upd_same] at hl; cases hl
    rwa [upd_ne n1, upd_ne n2] at hl
  · have n1 : b ≠ x := ne_of_none e hx
    exact off b o (by rw [upd_ne n1, upd_ne (ne_of_none e hdx)]; exact e) n1
def flawsOf (es : List Ev) : List Int := (List.range es.length).filterMap fun i => (es[i]?).bind fun e => if (stAt es i).ret e then none else some (i : Nat)
def spFlaws : Sp := sp1 fun x H Q _ => ∃ b p es, x = .ref p ∧ LogAt b H p es ∧ ∀ D H', H D = none → Same H H' → H' D = some (.lst ((flawsOf es).map V.int)) → Q (.ref D) H'
theorem sc_flaws : FnScope ["log", "watcher", "place", "event"] ["log"] (defScope (top 32)) := ⟨rfl, rfl, rfl, by decide +kernel, rfl, by decide +kernel, by decide +kernel⟩
theorem c_flaws (T : Sy K mg) : Cal gd P w K mg base (CX P w) 9 "flaws" spFlaws := by
  refine T.calX (F_flaws T) sc_flaws sp1_len (fun cdv f A outer s H vs Q E z h => ?_) (fun _ _ _ _ _ _ us hl => match us, hl with | [_], _ => rfl)
  have hu1 := hu_1 z; have hu2 := hu_2 z; have hu3 := hu_3 z
  obtain ⟨x0, rfl, h⟩ := h
  obtain ⟨b, p, es, rfl, lg, q⟩ := h
  refine ⟨_, (pss_cons (ps_expr (pe_cX (c_check_log T) z (passes_call (takes_of rfl rfl rfl rfl) (fun _ _ _ _ h => h)) (pa_cons (pv 0) pa_nil))) (pss_cons (ps_set (i := 1) sc_flaws.nd rfl (by first | exact Or.inl rfl | exact Or.inr rfl) (pe_mk0 (m_Watcher T) z)) (pss_one (ps_ret (pe_lc (own := [("place", 2), ("event", 3)]) (g := gTup K 2 (gCons (gName 2) (gCons (gName 3) gNil))) (by rfl) sc_flaws.nd (pi_enum2K (K := K) rfl (by rfl) (T.free "enumerate") (pv 0)) (blkOk_by (own := [("place", 2), ("event", 3)]) (N := ["log", "watcher", "place", "event"]) (sc := (defScope (top 32))) (by decide +kernel)) (fun _ _ _ _ _ => (pg_tupK (K := K) rfl (by rfl) (pgs_cons (pg_name (i := 2) sc_flaws.nd rfl (by first | exact Or.inl rfl | exact Or.inr rfl)) (pgs_cons (pg_name (i := 3) sc_flaws.nd rfl (by first | exact Or.inl rfl | exact Or.inr rfl)) pgs_nil)))) (fun _ _ _ _ _ => pts_one (pt_not (pt_val (pe_wq T rfl rfl z (pv 1) (pa_cons (pv 3) pa_nil))))) (fun _ _ _ _ _ => (pv 2))))))), ?_⟩
  obtain ⟨vs, h1, h2, ok, hl⟩ := id lg
  have ll : vs.length = es.length := h2.length
  walk_at "yhead"; walk_at "y"
  refine ⟨_, rfl, .inl ⟨b, p, es, rfl, lg, fun H1 s1 => ?_⟩⟩
  walk_at "y"
  refine wnew_i fun x dx l H2 ws => ?_
  walk_at "y"
  refine lc_eb b ?_
  walk_at "y"
  refine ⟨p, vs, rfl, SqB.of (ws.sm _ _ (s1 _ _ h1)), fun D hD => ?_⟩
  have nD1 : H1 D = none := ws.sm.free hD
  refine lc_it walk_eb (Pv := fun i H' => ∃ l, WS K H1 H' x dx l (stAt es i) ∧ D ≠ x ∧ D ≠ l ∧ H' D = some (.lst (((List.range i).filterMap fun i => (es[i]?).bind fun e => if (stAt es i).ret e then none else some ((i : Nat) : Int)).map V.int))) ?_ (fun i H' _ hp => let ⟨l, ws, _⟩ := hp; ws.sm _ _ (s1 _ _ h1)) (fun i v H3 H4 hi hp y => ?_) fun H' hp => ?_
  · have nx := ne_of_none ws.at_.1 hD
    have nl := ne_of_none ws.at_.2 hD
    exact ⟨l, ⟨ws.x0, ws.l0, fun b o e => by rw [upd_ne (ne_of_none e (ws.sm.free hD))]; exact ws.sm b o e, (upd_ne nx).trans ws.at_.1, (upd_ne nl).trans ws.at_.2⟩, Ne.symm nx, Ne.symm nl, upd_same⟩
  · obtain ⟨l, ws, nx, nl, hD3⟩ := hp
    obtain ⟨tt, v1, v2, rfl, ht, rfl, e1, e2⟩ := y
    cases e1
    have sY := same_upd (o := .tup [.int i, v2]) ht
    have ws4 := ws.mono sY
    obtain ⟨t, ev, rfl, e3, e4⟩ := LogAt.get (b := b) (p := p) ((firm_TR _).all (sT (s1.trans ws4.sm)) h2) e2
    refine gTup_i (SqT.of upd_same) ?_
    have hD4 := sY _ _ hD3
    generalize upd H3 tt (.tup [.int i, .ref t]) = H4 at *
    walk_at "y"
    refine ⟨rfl, ?_⟩
    walk_at "y"
    refine ⟨x, rfl, ?_⟩
    walk_at "y"
    refine wq_i ws4 (Nat.le_trans (stAt_opn es i) (by omega)) e4 (ok _ (List.mem_of_getElem? e3)) fun l' H5 ws' hl' off => ?_
    walk_at "y"
    have hD5 := off _ _ hD4 nx nl
    have nl' : D ≠ l' := by
      rcases hl' with rfl | hn
      · exact nl
      · exact ne_of_none hD4 hn
    rw [← stAt_succ e3] at ws'
    cases hr : (stAt es i).ret ev with
    | true =>
      walk_at "y"
      refine ⟨l', ws', nx, nl', ?_⟩
      rw [hD5, filterMap_snoc]
      simp [e3, hr]
    | false =>
      walk_at "y"
      refine ⟨_, hD5, ?_, l', ⟨ws'.x0, ws'.l0, fun b o e => by rw [upd_ne (ne_of_none e nD1)]; exact ws'.sm b o e, (upd_ne (Ne.symm nx)).trans ws'.at_.1, (upd_ne (Ne.symm nl')).trans ws'.at_.2⟩, nx, nl', ?_⟩
      · rw [List.length_map]
        exact Nat.lt_of_le_of_lt (Nat.le_trans (List.length_filterMap_le ..) (by simp; omega)) (show 16 < sizeLine from Nat.lt_of_lt_of_le (by decide) (sz4 (n := 17)))
      · rw [upd_same, filterMap_snoc]
        simp [e3, hr]
  · obtain ⟨l, ws, nx, nl, hD3⟩ := hp
    rw [ll] at hD3
    exact q D H' (s1.free nD1) (s1.trans ws.sm) hD3
end

end L77
namespace L77
open PySem PySem.Spec PyProof.Rows L2
variable {gd : Bool}
local macro_rules | `(tactic| walk_at "y1") => `(tactic| with_reducible first
  | refine tSeq_i ?_ | refine tAsg_i ?_ | refine tCons_i ?_ | refine tNil_i ?_ | refine tC_i ?_ | refine tOp_i ?_ | refine tIfS_i ?_ | refine tTest_i ?_ | refine exBl_i ?_ | refine tRet_i ?_ | refine tCall_i ?_
  | refine tCB_i ?_ | refine tLst_i ?_ | refine tTup_i ?_ | refine rI0_i ?_ | refine tDrop_i ?_ | refine tNext_i ?_ | refine tB_i ?_ | refine tAnd_i ?_ | refine tOr_i ?_ | refine tNot_i ?_ | refine tAndV_i ?_ | refine tOrV_i ?_ | refine tNotV_i ?_
  | refine tIf_i ?_ | refine tUn_i ?_ | refine tDGet_i ?_ | refine sDPut_i ?_ | refine tFld_i ?_ | refine tRetN_i ?_ | refine tBreak_i ?_ | refine tCont_i ?_ | refine rU_i ?_)
local macro_rules | `(tactic| walk_at "yhead") => `(tactic| dsimp only [L2.start, List.map, List.length_cons, List.length_nil, Nat.reduceAdd, Nat.reduceSub, List.replicate, List.cons_append, List.nil_append])
local macro_rules | `(tactic| walk_at "y2") => `(tactic| first
  | walk_at "y1"
  | ((with_reducible refine tVar_i (v := ?v) ?h ?q); (case h => rfl))
  | ((with_reducible refine gName_i ?_); (dsimp only [List.set]))
  | ((with_reducible refine rEq_i ?h ?q); (case h => rfl)) | ((with_reducible refine rNe_i ?h ?q); (case h => rfl)))
local macro_rules | `(tactic| walk_at "y") => `(tactic| repeat walk_at "y2")

/-! `in` and index over lists of instances of one own class -/
theorem eqAt_ins {A : Around} {s : Shared} {a b C : Addr} (xa : s.heap.CmpInst a C [.type "object"]) (xb : s.heap.CmpInst b C [.type "object"]) (hu : A.units < cLine) : SeqAt.EqAt A s (.ref a) (.ref b) (decide (a = b)) := fun prog w E Q hq => by
  obtain ⟨hp, g, d, t, os⟩ := s
  unfold eqBool
  refine wpAny_holding ?_
  by_cases e : a = b
  · subst e
    rw [decide_eq_true rfl] at hq
    wp_walk
    exact hq
  · rw [decide_eq_false e] at hq
    refine wpAny_ite_split (fun hab => absurd (by have := eq_of_beq hab; injection this) e) (fun _ => ?_)
    exact wpAny_bind (PySem.richCompare_eq_other PySem.F.cmp_object PySem.F.cmp_object xa xb e hu (wpAny_truthy_bool hq))
theorem vals_refs : ∀ {as : List Addr} {its : List Value}, Vals (as.map V.ref) its → its = as.map Value.ref
  | [], _, .nil => rfl
  | a :: as, _, .cons r t => by
    cases (show _ = Value.ref a from r)
    rw [vals_refs t]
    rfl
section
variable {X : Cx} {K : PySem.W.Frag}
def InsAll (K : PySem.W.Frag) (H : Hp) (as : List Addr) : Prop := ∃ C, CmpC K C ∧ ∀ a ∈ as, ∃ dx fs, H a = some (.ins C dx fs)
def rNotInI (K : PySem.W.Frag) : R2 := fun x y H Q => ∃ p as a, x = .ref a ∧ y = .ref p ∧ H p = some (.lst (as.map V.ref)) ∧ InsAll K H (a :: as) ∧ Q (.bl (!decide (a ∈ as))) H
def isRef (a : Addr) : Value → Bool | .ref b => decide (b = a) | _ => false
theorem any_isRef {a : Addr} : ∀ as : List Addr, (as.map Value.ref).any (isRef a) = decide (a ∈ as)
  | [] => by simp
  | b :: as => by
    rw [List.map_cons, List.any_cons, any_isRef as]
    show (decide (b = a) || decide (a ∈ as)) = _
    by_cases e : b = a
    · simp [e]
    · simp [e, Ne.symm e]
theorem op_notInI (hu : X.A.units + 65 < cLine) : OpR X (compareOp .NotIn) (rNotInI X.K) := by
  intro pins s σ H x y v u Q I rx ry h
  obtain ⟨p, as, a, rfl, rfl, hp, ⟨C, T, hc⟩, q⟩ := h
  cases (show v = Value.ref a from rx)
  cases (show u = Value.ref p from ry)
  obtain ⟨its, rv, pl, hz⟩ := I.list (SqL.of hp)
  have hl : s.heap.IsList p its.toArray := by
    obtain ⟨o, m, e, c, d, q⟩ := pl
    exact ⟨o, e, c, m, q⟩
  have ci : ∀ b ∈ a :: as, s.heap.CmpInst b C [.type "object"] := fun b hb => by
    obtain ⟨dx, fs, e⟩ := hc b hb
    obtain ⟨o, e1, e2⟩ := ins_at I.hok e
    exact T.inst I.kIn e1 e2
  rw [vals_refs rv] at hl
  have hs : X.A.in1.units < cLine := by show X.A.units + 1 < cLine; omega
  refine SeqAt.notIn_listAt (isRef a) hl (fun v hv => ?_) ?_
  · obtain ⟨b, hb, rfl⟩ := List.mem_map.mp (show v ∈ as.map Value.ref by simpa using hv)
    exact eqAt_ins (ci b (List.mem_cons_of_mem _ hb)) (ci a List.mem_cons_self) hs
  · refine ⟨.bl _, H, I, rfl, ?_⟩
    rw [show (as.map Value.ref).toArray.any (isRef a) = (as.map Value.ref).any (isRef a) from List.any_toArray .., any_isRef]
    exact q
def rIdxI (K : PySem.W.Frag) : V → List V → Hp → VK → Prop := fun x xs H Q => ∃ p as a, x = .ref p ∧ xs = [.ref a] ∧ H p = some (.lst (as.map V.ref)) ∧ InsAll K H as ∧ a ∈ as ∧ Q (.int (as.idxOf a : Nat)) H
theorem mt_idxI (hK : X.K = K) (hu : X.A.units + 65 < cLine) : MtR X "list.index" (rIdxI K) := by
  subst hK
  intro pins s σ H x xs v us Q I rx rs h
  obtain ⟨p, as, a, rfl, rfl, hp, ⟨C, T, hc⟩, ha, q⟩ := h
  cases (show v = Value.ref p from rx)
  obtain ⟨u, rfl, hu0⟩ := vals1 rs
  cases (show u = Value.ref a from hu0)
  obtain ⟨its, rv, pl, hz⟩ := I.list (SqL.of hp)
  have hl : s.heap.IsList p its.toArray := by
    obtain ⟨o, m, e, c, d, q⟩ := pl
    exact ⟨o, e, c, m, q⟩
  have hn : as.length ≤ sizeLine := by simpa using hz
  have ci : ∀ b ∈ as, s.heap.CmpInst b C [.type "object"] := fun b hb => by
    obtain ⟨dx, fs, e⟩ := hc b hb
    obtain ⟨o, e1, e2⟩ := ins_at I.hok e
    exact T.inst I.kIn e1 e2
  have hs : X.A.in1.units < cLine := by show X.A.units + 1 < cLine; omega
  refine SeqAt.call_list_index (ks := as) (k := a) hl ⟨?_, fun j h1 h2 => ?_⟩ hn ha ⟨.int _, H, I.tok _, ⟨_, rfl⟩, q⟩
  · rw [vals_refs rv, List.length_map]
  · have e : its[j] = .ref as[j] := by
      have := vals_refs rv
      subst this
      simp
    rw [e]
    exact eqAt_ins (ci _ (List.getElem_mem h2)) (ci a ha) hs
/-- a tuple that holds no such datum -/
def rNotInDT (K : PySem.W.Frag) : R2 := fun x y H Q => ∃ d ds, Dp K H x d ∧ Dp K H y (.tuple ds) ∧ SeqAt.shaped d = true ∧ SeqAt.shaped (.tuple ds) = true ∧ Q (.bl (!ds.any fun z => PyData.eqv z d)) H
theorem op_notInDT (hu : X.A.units + 65 < cLine) : OpR X (compareOp .NotIn) (rNotInDT X.K) := by
  intro pins s σ H x y v u Q I rx ry h
  obtain ⟨d, ds, hd, he, sd, se, q⟩ := h
  obtain ⟨as, r1⟩ := Dp.reads I d x v hd rx
  obtain ⟨bs, r2⟩ := Dp.reads I (.tuple ds) y u he ry
  exact SeqAt.notIn_tuple_reads r2 r1 (SeqAt.canLay_of_shaped se) (SeqAt.canLay_of_shaped sd) (room_in_shaped sd hu) ⟨.bl _, H, I, rfl, q⟩
def rNotInDB (K : PySem.W.Frag) : R2 := fun x y H Q => rNotInD K x y H Q ∨ rNotInDT K x y H Q
theorem op_notInDB (hu : X.A.units + 65 < cLine) : OpR X (compareOp .NotIn) (rNotInDB X.K) := (op_notInD hu).or (op_notInDT hu)
end

end L77
namespace L77
open PySem PySem.Spec PyProof.Rows L2
variable {gd : Bool}
local macro_rules | `(tactic| walk_at "y1") => `(tactic| with_reducible first
  | refine tSeq_i ?_ | refine tAsg_i ?_ | refine tCons_i ?_ | refine tNil_i ?_ | refine tC_i ?_ | refine tOp_i ?_ | refine tIfS_i ?_ | refine tTest_i ?_ | refine exBl_i ?_ | refine tRet_i ?_ | refine tCall_i ?_
  | refine tCB_i ?_ | refine tLst_i ?_ | refine tTup_i ?_ | refine rI0_i ?_ | refine tDrop_i ?_ | refine tNext_i ?_ | refine tB_i ?_ | refine tAnd_i ?_ | refine tOr_i ?_ | refine tNot_i ?_ | refine tAndV_i ?_ | refine tOrV_i ?_ | refine tNotV_i ?_
  | refine tIf_i ?_ | refine tUn_i ?_ | refine tDGet_i ?_ | refine sDPut_i ?_ | refine tFld_i ?_ | refine tRetN_i ?_ | refine tBreak_i ?_ | refine tCont_i ?_ | refine rU_i ?_)
local macro_rules | `(tactic| walk_at "yhead") => `(tactic| dsimp only [L2.start, List.map, List.length_cons, List.length_nil, Nat.reduceAdd, Nat.reduceSub, List.replicate, List.cons_append, List.nil_append])
local macro_rules | `(tactic| walk_at "y2") => `(tactic| first
  | walk_at "y1"
  | ((with_reducible refine tVar_i (v := ?v) ?h ?q); (case h => rfl))
  | ((with_reducible refine gName_i ?_); (dsimp only [List.set]))
  | ((with_reducible refine rEq_i ?h ?q); (case h => rfl)) | ((with_reducible refine rNe_i ?h ?q); (case h => rfl)))
local macro_rules | `(tactic| walk_at "y") => `(tactic| repeat walk_at "y2")

/-! calls with keywords -/
section
variable {X : Cx} {CX : CXT} {k m : Nat} {f : Addr} {fd : FuncData} {ps ks : List Str} {sp : Sp} {E : XK} {x : Str} {p pos : Pos} {e : Expr} {es : List Expr} {kws : List Keyword} {t tk : TA} {g : List Value → List Value → List Value} {gV : List V → List V → List V}
theorem runGN {pins : List (Addr × Obj)} {σ : L2.St} {H : Hp} {s : Shared} {Q : VK} {us ws : List Value} {vs zs : List V} (F : FnG gd X.prog X.w X.K X.mg X.base CX k f fd ps sp) (z : RG gd k X.A) (hb : KBn X.K fd ps m ks g gV) (hx : Passes CX X E)
    (I : Inv X pins σ H s) (r : Vals vs us) (rz : Vals zs ws) (l1 : vs.length = m) (l2 : zs.length = ks.length) (h : sp (gV vs zs) H Q E) : wpAny (model X.prog X.w) X.A (call (.ref f) us (ks.zip ws)) (EP X pins σ Q) X.xe s := by
  have r2 := hb.rel r rz
  refine wpAny_call (codeAny_mono (F.run X.A X.stack s H ⟨us, ks.zip ws⟩ (g us ws) (gV vs zs) Q E z I.env0 (hb.to s us ws I.kIn (r.length.symm.trans l1) (rz.length.symm.trans l2)) r2 h) fun r s' hq => ?_)
  cases r with
  | error e => exact hx pins σ H s e s' I hq
  | ok fl => cases fl <;> first | exact I.after hq | exact False.elim hq
theorem pe_callNG (F : FnG gd X.prog X.w X.K X.mg X.base CX k f fd ps sp) (z : RG gd k X.A) (hg : Gl X x) (hm : X.mg x = some (.ref f)) (hk : PySem.W.keepIn X.K (.ref f) = true) (hb : KBn X.K fd ps m ks g gV) (hx : Passes CX X E)
    (ha : PA X (e :: es) t) (hkw : PK X kws tk) (hall : (backToKw pos (keywordEach kws X.env)).all (·.1.isSome) = true := by rfl) (hks : (backToKw pos (keywordEach kws X.env)).filterMap (·.1) = ks := by rfl)
    (hdb : (x == ("__debug__" : Str)) = false := by decide) (he : starEach (e :: es) X.env = (false, eval e X.env) :: starEach es X.env := by rfl)
    (hpl : ((backTo pos (starEach (e :: es) X.env)).any (·.1) || (backToKw pos (keywordEach kws X.env)).any (·.1.isNone)) = false := by rfl) :
    PE X (.Call (.Name x p) (e :: es) kws pos) (tCallN m ks.length sp gV E t tk) := by
  refine ⟨fun pins s σ H Q I h => ?_⟩
  refine wpAny_Call_Name_kw (ld_glob I hg hm ?_ hdb)
  refine PySem.W.callWith_KW (h₀ := X.base) I.ok.mod.kin hk hall (thn (ha.run pos pins s σ H _ I h) fun us s1 ⟨vs, H1, I1, r, q⟩ => ?_) hpl he
  refine thn (hkw.run pos pins s1 σ H1 _ I1 q) fun ws s2 ⟨zs, H2, I2, rz, l1, l2, q2⟩ => ⟨I2.kIn, ?_⟩
  rw [hks]
  exact runGN F z hb hx I2 r rz l1 l2 q2
end
/-- a def with one parameter and one keyword-only one, that has a default -/
structure CalKw (gd : Bool) (P : Program) (w : World) (K : PySem.W.Frag) (mg : Str → Option Value) (base : Heap) (CX : CXT) (k : Nat) (x kw : Str) (d : V) (sp : Sp) : Prop where
  ex : ∃ (f : Addr) (fd : FuncData) (ps : List Str) (ds : List Value), FnG gd P w K mg base CX k f fd ps sp ∧ mg x = some (.ref f) ∧ PySem.W.keepIn K (.ref f) = true ∧ Vals [d] ds ∧ Binds K fd ps ds ∧
    KBn K fd ps 1 [kw] (fun us ws => us ++ ws) (fun vs zs => vs ++ zs)
section
variable {X : Cx} {CX : CXT} {k j : Nat} {kw : Str} {d : V} {sp : Sp} {E : XK} {x : Str} {p pos kp : Pos} {e a : Expr} {t : TA} {ta : TE}
theorem pe_k1 (c : CalKw gd X.prog X.w X.K X.mg X.base CX k x kw d sp) (z : RG gd j X.A) (hx : Passes CX X E) (ha : PA X [e] t) (hk : k ≤ j := by decide) (hg : Gl X x := by rfl)
    (hdb : (x == ("__debug__" : Str)) = false := by decide) (he : starEach [e] X.env = (false, eval e X.env) :: starEach [] X.env := by rfl) (hpl : (backTo pos (starEach [] X.env)).any (·.1) = false := by rfl) :
    PE X (.Call (.Name x p) [e] [] pos) (tCall sp [d] E t) := by
  obtain ⟨f, fd, ps, ds, F, hm, kp, hv, b, _⟩ := c.ex
  exact pe_callG F (z.mono hk) hg hm kp b hv hx ha hdb he hpl
theorem pe_k2 (c : CalKw gd X.prog X.w X.K X.mg X.base CX k x kw d sp) (z : RG gd j X.A) (hx : Passes CX X E) (ha : PA X [e] t) (hkw : PK X [⟨some kw, a, kp⟩] (tCons ta tNil)) (hk : k ≤ j := by decide) (hg : Gl X x := by rfl)
    (hall : (backToKw pos (keywordEach [⟨some kw, a, kp⟩] X.env)).all (·.1.isSome) = true := by rfl) (hks : (backToKw pos (keywordEach [⟨some kw, a, kp⟩] X.env)).filterMap (·.1) = [kw] := by rfl)
    (hdb : (x == ("__debug__" : Str)) = false := by decide) (he : starEach [e] X.env = (false, eval e X.env) :: starEach [] X.env := by rfl)
    (hpl : ((backTo pos (starEach [e] X.env)).any (·.1) || (backToKw pos (keywordEach [⟨some kw, a, kp⟩] X.env)).any (·.1.isNone)) = false := by rfl) :
    PE X (.Call (.Name x p) [e] [⟨some kw, a, kp⟩] pos) (tCallN 1 1 sp (fun vs zs => vs ++ zs) E t (tCons ta tNil)) := by
  obtain ⟨f, fd, ps, ds, F, hm, kp, hv, _, b⟩ := c.ex
  exact pe_callNG F (z.mono hk) hg hm kp b hx ha hkw hall hks hdb he hpl
end
theorem tCallN_i {n m : Nat} {sp : Sp} {gV : List V → List V → List V} {E : XK} {t tk : TA} {σ : L2.St} {H : Hp} {Q : VK} (q : t σ H fun vs H1 => tk σ H1 fun zs H2 => vs.length = n ∧ zs.length = m ∧ sp (gV vs zs) H2 Q E) : tCallN n m sp gV E t tk σ H Q := q

end L77
namespace L77
open PySem PySem.Spec PyProof.Rows L2
variable {gd : Bool}
local macro_rules | `(tactic| walk_at "y1") => `(tactic| with_reducible first
  | refine tSeq_i ?_ | refine tAsg_i ?_ | refine tCons_i ?_ | refine tNil_i ?_ | refine tC_i ?_ | refine tOp_i ?_ | refine tIfS_i ?_ | refine tTest_i ?_ | refine exBl_i ?_ | refine tRet_i ?_ | refine tCall_i ?_
  | refine tCB_i ?_ | refine tLst_i ?_ | refine tTup_i ?_ | refine rI0_i ?_ | refine tDrop_i ?_ | refine tNext_i ?_ | refine tB_i ?_ | refine tAnd_i ?_ | refine tOr_i ?_ | refine tNot_i ?_ | refine tAndV_i ?_ | refine tOrV_i ?_ | refine tNotV_i ?_
  | refine tYes_i ?_ | refine tTM_i ?_ | refine tPar_i ?_ | refine tSl_i ?_ | refine tNoPart_i ?_ | refine tPart_i ?_ | refine part_i ?_ | refine tMake_i ?_ | refine tProp_i ?_ | refine tCallOG_i ?_ | refine tVeI_i ?_ | refine tOst_i ?_ | refine tMkO_i ?_ | refine sFld_i ?_ | refine fldaug_i ?_ | refine gCons_i ?_ | refine gNil_i ?_ | refine tChain_i ?_ | refine tBM_i ?_ | refine rAdd2_i ?_ | refine rLe2_i ?_ | refine rEq2_i ?_ | refine rEq2_ss ?_ | refine rNe2_i ?_ | refine rNe2_ss ?_ | refine rIsN_i ?_ | refine rNotN_i ?_ | refine tTup_i2 ?_ | refine tIf_i ?_ | refine tUn_i ?_ | refine tDGet_i ?_ | refine sDPut_i ?_ | refine tFld_i ?_ | refine tRetN_i ?_ | refine tBreak_i ?_ | refine tCont_i ?_ | refine rU_i ?_)
local macro_rules | `(tactic| walk_at "yhead") => `(tactic| dsimp only [L2.start, List.map, List.length_cons, List.length_nil, Nat.reduceAdd, Nat.reduceSub, List.replicate, List.cons_append, List.nil_append])
local macro_rules | `(tactic| walk_at "y2") => `(tactic| first
  | walk_at "y1"
  | ((with_reducible refine tVar_i (v := ?v) ?h ?q); (case h => rfl))
  | ((with_reducible refine gName_i ?_); (dsimp only [L2.wipe, List.set]))
  | with_reducible refine iteT ?_ | with_reducible refine iteF ?_ | with_reducible refine iteNT ?_ | with_reducible refine iteNF ?_
  | ((with_reducible refine iteDT ?h ?q); (case h => first | decide +kernel | omega | assumption | exact nv1 | exact nv2 | exact nv3 | exact nv4)) | ((with_reducible refine iteDF ?h ?q); (case h => first | decide +kernel | omega | assumption | exact nv1 | exact nv2 | exact nv3 | exact nv4))
  | ((with_reducible refine iteNDT ?h ?q); (case h => first | decide +kernel | omega | assumption | exact nv1 | exact nv2 | exact nv3 | exact nv4)) | ((with_reducible refine iteNDF ?h ?q); (case h => first | decide +kernel | omega | assumption | exact nv1 | exact nv2 | exact nv3 | exact nv4))
  | ((with_reducible refine rIsi2_1 (T := ?T) (b := true) ?ty ?h ?q); (case ty => first | exact ty_str | exact ty_int | exact ty_bl | exact ty_non); (case h => decide +kernel))
  | ((with_reducible refine rIsi2_1 (T := ?T) (b := false) ?ty ?h ?q); (case ty => first | exact ty_str | exact ty_int | exact ty_bl | exact ty_non); (case h => decide +kernel))
  | ((with_reducible refine rEq2_s ?h ?q); (case h => rfl)) | ((with_reducible refine rNe2_s ?h ?q); (case h => rfl))
  | ((with_reducible refine rEq_i ?h ?q); (case h => rfl)) | ((with_reducible refine rNe_i ?h ?q); (case h => rfl)))
local macro_rules | `(tactic| walk_at "y") => `(tactic| repeat walk_at "y2")

section
/-! the links after raise_under and with_cause -/
theorem ctx_get {fs : List Flt1} {i : Nat} {r : Flt1} (h : fs[i]? = some r) : ctxOf fs i = r.c := by unfold ctxOf; rw [h]; rfl
theorem get_lt {α : Type} {xs : List α} {i : Nat} (h : i < xs.length) : ∃ x, xs[i]? = some x := ⟨_, List.getElem?_eq_getElem h⟩
theorem ctx_setF {fs : List Flt1} {e : Nat} (he : e < fs.length) (g : Flt1 → Flt1) (i : Nat) : ctxOf (setF fs e g) i = if i = e then ((fs[e]?).map g).bind Flt1.c else ctxOf fs i := by
  obtain ⟨r, hr⟩ := get_lt he
  unfold ctxOf
  rw [setF_get g hr i]
  by_cases c : i = e
  · rw [if_pos c, if_pos c, hr]; rfl
  · rw [if_neg c, if_neg c]
theorem cause_setF {fs : List Flt1} {e : Nat} (he : e < fs.length) (g : Flt1 → Flt1) (i : Nat) : causeOf (setF fs e g) i = if i = e then ((fs[e]?).map g).bind Flt1.u else causeOf fs i := by
  obtain ⟨r, hr⟩ := get_lt he
  unfold causeOf
  rw [setF_get g hr i]
  by_cases c : i = e
  · rw [if_pos c, if_pos c, hr]; rfl
  · rw [if_neg c, if_neg c]
theorem ctx_raise {fs : List Flt1} {f h e : Nat} (hf : f < fs.length) (he : e < fs.length) (i : Nat) : ctxOf (raiseE fs f h e) i = if i = f then some h else if i = e then none else ctxOf fs i := by
  unfold raiseE
  obtain ⟨r, hr⟩ := get_lt he
  obtain ⟨q, hq⟩ := get_lt (show f < (setF fs e fun r => { r with c := none }).length by rw [setF_len]; exact hf)
  rw [ctx_setF (by rw [setF_len]; exact hf), hq, ctx_setF he, hr]
  rfl
theorem cause_raise {fs : List Flt1} {f h e : Nat} (hf : f < fs.length) (he : e < fs.length) (i : Nat) : causeOf (raiseE fs f h e) i = causeOf fs i := by
  unfold raiseE
  obtain ⟨r, hr⟩ := get_lt he
  obtain ⟨q, hq⟩ := get_lt (show f < (setF fs e fun r => { r with c := none }).length by rw [setF_len]; exact hf)
  have e1 : ∀ i, causeOf (setF fs e fun r => { r with c := none }) i = causeOf fs i := fun i => by
    rw [cause_setF he, hr]
    by_cases c : i = e
    · rw [if_pos c, c]; unfold causeOf; rw [hr]; rfl
    · rw [if_neg c]
  rw [cause_setF (by rw [setF_len]; exact hf), hq]
  by_cases c : i = f
  · rw [if_pos c, c, ← e1 f]; unfold causeOf; rw [hq]; rfl
  · rw [if_neg c, e1]
theorem EndAt.ends {nx nx' : Nat → Option Nat} {f : Nat} (hn : ∀ i, i ≠ f → ∀ j, nx i = some j → j ≠ f → nx' i = nx i) {h e : Nat} (p : EndAt nx f h e) (h1 : h ≠ f) (h2 : nx' e = none) : ∃ m, Ends_ nx' m h := by
  induction p with
  | stop _ => exact ⟨0, .last h2⟩
  | @step h j e hj ne _ ih =>
    obtain ⟨m, hm⟩ := ih ne h2
    exact ⟨m + 1, .step ((hn h h1 j hj ne).trans hj) hm⟩
theorem EndAt.at_end {nx : Nat → Option Nat} {f h e : Nat} (p : EndAt nx f h e) (h1 : h ≠ f) : e ≠ f ∧ (nx e = none ∨ nx e = some f) := by
  induction p with
  | stop s => exact ⟨h1, s⟩
  | step _ ne _ ih => exact ih ne
theorem EndAt.lt {fs : List Flt1} (hc : ∀ r ∈ fs, ∀ j, r.c = some j → j < fs.length) {f h e : Nat} (p : EndAt (ctxOf fs) f h e) (hh : h < fs.length) : e < fs.length := by
  induction p with
  | stop _ => exact hh
  | @step h j e hj _ _ ih =>
    obtain ⟨r, hr⟩ := get_lt hh
    rw [ctx_get hr] at hj
    exact ih (hc r (List.mem_of_getElem? hr) j hj)
theorem acyc_raise {fs : List Flt1} {f h e : Nat} (ac : Acyc fs) (hf : f < fs.length) (he : e < fs.length) (hn : h ≠ f) (p : EndAt (ctxOf fs) f h e) : Acyc (raiseE fs f h e) := by
  have nx := ctx_raise (h := h) hf he
  obtain ⟨ne, ne2⟩ := p.at_end hn
  obtain ⟨mh, hmh⟩ := p.ends (nx' := ctxOf (raiseE fs f h e)) (fun i h1 j hj h2 => by
    rw [nx i, if_neg h1]
    by_cases c : i = e
    · subst c
      rcases ne2 with z | z
      · rw [hj] at z; cases z
      · rw [hj] at z; cases z; exact absurd rfl h2
    · rw [if_neg c]) hn (by rw [nx e, if_neg ne, if_pos rfl])
  have hfE : Ends_ (ctxOf (raiseE fs f h e)) (mh + 1) f := .step (by rw [nx f, if_pos rfl]) hmh
  intro i
  obtain ⟨n, hnE⟩ := ac i
  induction hnE with
  | @last i hl =>
    by_cases c : i = f
    · subst c; exact ⟨_, hfE⟩
    · exact ⟨0, .last (by rw [nx i, if_neg c]; split; rfl; exact hl)⟩
  | @step n i j hl _ ih =>
    by_cases c : i = f
    · subst c; exact ⟨_, hfE⟩
    · by_cases c2 : i = e
      · exact ⟨0, .last (by rw [nx i, if_neg c, if_pos c2])⟩
      · obtain ⟨m, hm⟩ := ih
        exact ⟨m + 1, .step (by rw [nx i, if_neg c, if_neg c2]; exact hl) hm⟩
theorem ctx_cause {fs : List Flt1} {f : Nat} {s : Option Nat} (hf : f < fs.length) (i : Nat) : ctxOf (causeE fs f s) i = ctxOf fs i := by
  unfold causeE
  obtain ⟨r, hr⟩ := get_lt hf
  rw [ctx_setF hf, hr]
  by_cases c : i = f
  · rw [if_pos c, c]; unfold ctxOf; rw [hr]; rfl
  · rw [if_neg c]
theorem acyc_cause {fs : List Flt1} {f : Nat} {s : Option Nat} (ac : Acyc fs) (hf : f < fs.length) : Acyc (causeE fs f s) := by
  have e : ctxOf (causeE fs f s) = ctxOf fs := funext fun i => ctx_cause hf i
  unfold Acyc
  rw [e]
  exact ac
/-! the way of cycle_of -/
def cyc (nx : Nat → Option Nat) : Nat → List Nat → Option Nat → List Nat
  | 0, _, _ => []
  | _ + 1, _, none => []
  | n + 1, ps, some h => if h ∈ ps then ps.drop (ps.idxOf h) else cyc nx n (ps ++ [h]) (nx h)
def cycOf (nx : Nat → Option Nat) (n f : Nat) : List Nat := cyc nx (n + 1) [] (some f)
theorem nodup_len : ∀ {n : Nat} {ps : List Nat}, ps.Nodup → (∀ i ∈ ps, i < n) → ps.length ≤ n
  | 0, ps, _, h => by
    cases ps with
    | nil => exact Nat.le_refl _
    | cons a r => exact absurd (h a List.mem_cons_self) (Nat.not_lt_zero _)
  | n + 1, ps, nd, h => by
    have q := nodup_len (n := n) (nd.erase n) fun i hi => by
      have h1 := h i (List.mem_of_mem_erase hi)
      have h2 : i ≠ n := fun e => by subst e; exact (nd.mem_erase_iff.mp hi).1 rfl
      omega
    by_cases c : n ∈ ps
    · rw [List.length_erase_of_mem c] at q; omega
    · rw [List.erase_of_not_mem c] at q; omega
end
section
variable {P : Program} {w : World} {K : PySem.W.Frag} {mg : Str → Option Value} {base : Heap}
def spWord (K : PySem.W.Frag) : Sp := sp2 fun v p H Q _ => ∃ (a : Addr) (ws : List Str), p = .ref a ∧ H a = some (.tup (ws.map V.str)) ∧ ((∃ s, v = .str s ∧ Q (.bl (inV (.str s) (ws.map V.str))) H) ∨ (∃ T, TyX K H v (.type T) ∧ kitB T "str" = some false ∧ Q (.bl false) H))
theorem sc_s7_is_word : FnScope ["value", "words"] ["value", "words"] (defScope (top 28)) := ⟨rfl, rfl, rfl, by decide +kernel, rfl, by decide +kernel, by decide +kernel⟩
theorem c_s7_is_word (T : Sy K mg) : Cal gd P w K mg base CX0 1 "s7_is_word" (spWord K) := by
  refine T.cal (F_s7_is_word T) sc_s7_is_word sp2_len (fun cdv f A outer s H vs Q E z h => ?_) (fun _ _ _ _ _ _ us hl => match us, hl with | [_, _], _ => rfl)
  have hu1 := hu_1 z; have hu2 := hu_2 z; have hu3 := hu_3 z
  obtain ⟨x0, x1, rfl, h⟩ := h
  refine ⟨_, (pss_one (ps_ret (pe_and (pe_callB (r := rIsi2 K) call_isi2 (by rfl) (T.free "isinstance") (by decide +kernel) (pa_cons (pv 0) (pa_cons (pe_bltn (v := .ty "str") (u := .type "str") (by rfl) (T.free "str") (by decide +kernel) rfl) pa_nil))) (pe_one (pe_cmpR (r := rIn2 K) (op_in2 hu2) (pv 0) (pv 1) rfl))))), ?_⟩
  obtain ⟨a, ws, rfl, ha, h⟩ := h
  rcases h with ⟨s, rfl, q⟩ | ⟨T, ty, e, q⟩
  · walk_at "yhead"; walk_at "y"
    refine rIn2_f (b := false) (SqT.of ha) rfl (List.all_eq_true.mpr fun v hv => ?_) q
    obtain ⟨x, _, rfl⟩ := List.mem_map.mp hv
    rfl
  · walk_at "yhead"; walk_at "y"
    refine rIsi2_1 ty e ?_
    walk_at "y"
    exact q
/-- a value of a built-in type -/
def NotF (K : PySem.W.Frag) (H : Hp) (v : V) : Prop := ∃ T, TyX K H v (.type T) ∧ (fastBuiltinMro T).map (·.contains (.ref (He.ga K "Fault"))) = some false
/-- what an exception of the class c is told of -/
def RaiseX (K : PySem.W.Frag) (c f : Str) (v : V) (H : Hp) (E : XK) : Prop := ∀ d H', H d = none → Same H H' → H' d = some (.xd [(f, v)]) → E (.ref (He.ga K c)) (some d) H'
theorem RaiseX.mono {c f : Str} {v : V} {H H1 : Hp} {E : XK} (h : RaiseX K c f v H E) (s : Same H H1) : RaiseX K c f v H1 E := fun d H' hd s' e => h d H' (s.free hd) (s.trans s') e
theorem mkx_r {c f : Str} {v : V} {H : Hp} {E : XK} (q : RaiseX K c f v H E) :
    ([v] : List V).length ≤ 1000 ∧ ∀ a, H a = none → spExI K c f (.ref a :: ([v] ++ [])) (upd H a (exo a (He.ga K c) none))
      (fun u H2 => u = .non ∧ ∃ (d : Addr) (fs : List (Str × V)), H2 a = some (exo a (He.ga K c) (some d)) ∧ H2 d = some (exd d fs) ∧ H d = none ∧ E (.ref (He.ga K c)) (some d) (upd (del H2 a) d (.xd fs))) (fun _ _ _ => False) := mkx_i q
def spSNF (K : PySem.W.Frag) : Sp := sp1 fun v H Q E => (IsF K H v ∧ Q .non H) ∨ (NotF K H v ∧ RaiseX K "BadFault" "value" v H E)
theorem sc_s7_need_fault : FnScope ["value"] ["value"] (defScope (top 33)) := ⟨rfl, rfl, rfl, by decide +kernel, rfl, by decide +kernel, by decide +kernel⟩
theorem c_s7_need_fault (T : Sy K mg) : Cal gd P w K mg base (CX P w) 3 "s7_need_fault" (spSNF K) := by
  refine T.calX (F_s7_need_fault T) sc_s7_need_fault sp1_len (fun cdv f A outer s H vs Q E z h => ?_) (fun _ _ _ _ _ _ us hl => match us, hl with | [_], _ => rfl)
  have hu1 := hu_1 z; have hu2 := hu_2 z; have hu3 := hu_3 z
  obtain ⟨x0, rfl, h⟩ := h
  refine ⟨_, (pss_one (ps_if (pt_not (pt_val (pe_callB (r := rIsi2 K) call_isi2 (by rfl) (T.free "isinstance") (by decide +kernel) (pa_cons (pv 0) (pa_cons (pe_gl (T.glo "Fault")) pa_nil))))) (pss_one (ps_raise rfl (takes_of rfl rfl rfl rfl) (pmk_x (x_BadFault T) z.r (pa_cons (pv 0) pa_nil)))) pss_nil)), ?_⟩
  rcases h with ⟨⟨a, dx, fs, rfl, ha⟩, q⟩ | ⟨⟨U, ty, e⟩, q⟩
  · walk_at "yhead"; walk_at "y"
    refine rIsi2_o (b := true) (ty_ins ha (T.cls "Fault") T.xF.fi) kit_self ?_
    walk_at "y"
    exact q
  · walk_at "yhead"; walk_at "y"
    refine rIsi2_o (b := false) ty (kit_bt T.xF.fi e) ?_
    walk_at "y"
    exact mkx_r q
end

end L77
namespace L77
open PySem PySem.Spec PyProof.Rows L2
variable {gd : Bool}
local macro_rules | `(tactic| walk_at "y1") => `(tactic| with_reducible first
  | refine tSeq_i ?_ | refine tAsg_i ?_ | refine tCons_i ?_ | refine tNil_i ?_ | refine tC_i ?_ | refine tOp_i ?_ | refine tIfS_i ?_ | refine tTest_i ?_ | refine exBl_i ?_ | refine tRet_i ?_ | refine tCall_i ?_
  | refine tCB_i ?_ | refine tLst_i ?_ | refine tTup_i ?_ | refine rI0_i ?_ | refine tDrop_i ?_ | refine tNext_i ?_ | refine tB_i ?_ | refine tAnd_i ?_ | refine tOr_i ?_ | refine tNot_i ?_ | refine tAndV_i ?_ | refine tOrV_i ?_ | refine tNotV_i ?_
  | refine tYes_i ?_ | refine tTM_i ?_ | refine tPar_i ?_ | refine tSl_i ?_ | refine tNoPart_i ?_ | refine tPart_i ?_ | refine part_i ?_ | refine tMake_i ?_ | refine tProp_i ?_ | refine tCallOG_i ?_ | refine tVeI_i ?_ | refine tOst_i ?_ | refine tMkO_i ?_ | refine sFld_i ?_ | refine fldaug_i ?_ | refine gCons_i ?_ | refine gNil_i ?_ | refine tChain_i ?_ | refine tBM_i ?_ | refine rAdd2_i ?_ | refine rLe2_i ?_ | refine rEq2_i ?_ | refine rEq2_ss ?_ | refine rNe2_i ?_ | refine rNe2_ss ?_ | refine rIsN_i ?_ | refine rNotN_i ?_ | refine tTup_i2 ?_ | refine tIf_i ?_ | refine tUn_i ?_ | refine tDGet_i ?_ | refine sDPut_i ?_ | refine tFld_i ?_ | refine tRetN_i ?_ | refine tBreak_i ?_ | refine tCont_i ?_ | refine rU_i ?_)
local macro_rules | `(tactic| walk_at "yhead") => `(tactic| dsimp only [L2.start, List.map, List.length_cons, List.length_nil, Nat.reduceAdd, Nat.reduceSub, List.replicate, List.cons_append, List.nil_append])
local macro_rules | `(tactic| walk_at "y2") => `(tactic| first
  | walk_at "y1"
  | ((with_reducible refine tVar_i (v := ?v) ?h ?q); (case h => rfl))
  | ((with_reducible refine gName_i ?_); (dsimp only [L2.wipe, List.set]))
  | with_reducible refine iteT ?_ | with_reducible refine iteF ?_ | with_reducible refine iteNT ?_ | with_reducible refine iteNF ?_
  | ((with_reducible refine iteDT ?h ?q); (case h => first | decide +kernel | omega | assumption | exact nv1 | exact nv2 | exact nv3 | exact nv4)) | ((with_reducible refine iteDF ?h ?q); (case h => first | decide +kernel | omega | assumption | exact nv1 | exact nv2 | exact nv3 | exact nv4))
  | ((with_reducible refine iteNDT ?h ?q); (case h => first | decide +kernel | omega | assumption | exact nv1 | exact nv2 | exact nv3 | exact nv4)) | ((with_reducible refine iteNDF ?h ?q); (case h => first | decide +kernel | omega | assumption | exact nv1 | exact nv2 | exact nv3 | exact nv4))
  | ((with_reducible refine rIsi2_1 (T := ?T) (b := true) ?ty ?h ?q); (case ty => first | exact ty_str | exact ty_int | exact ty_bl | exact ty_non); (case h => decide +kernel))
  | ((with_reducible refine rIsi2_1 (T := ?T) (b := false) ?ty ?h ?q); (case ty => first | exact ty_str | exact ty_int | exact ty_bl | exact ty_non); (case h => decide +kernel))
  | ((with_reducible refine rEq2_s ?h ?q); (case h => rfl)) | ((with_reducible refine rNe2_s ?h ?q); (case h => rfl))
  | ((with_reducible refine rEq_i ?h ?q); (case h => rfl)) | ((with_reducible refine rNe_i ?h ?q); (case h => rfl)))
local macro_rules | `(tactic| walk_at "y") => `(tactic| repeat walk_at "y2")

section
variable {P : Program} {w : World} {K : PySem.W.Frag} {mg : Str → Option Value} {base : Heap}
def ad (fs : List Flt1) (i : Nat) : Addr := ((fs[i]?).map Flt1.a).getD 0
theorem adr_ad {fs : List Flt1} {i : Nat} (h : i < fs.length) : adr fs i = .ref (ad fs i) := by
  obtain ⟨r, e, a⟩ := adr_of h
  rw [a]
  unfold ad
  rw [e]
  rfl
theorem ad_at {fs : List Flt1} {i : Nat} {r : Flt1} (e : fs[i]? = some r) : ad fs i = r.a := by unfold ad; rw [e]; rfl
theorem FAt.ad_inj {H : Hp} {fs : List Flt1} (h : FAt K H fs) {i j : Nat} (hi : i < fs.length) (hj : j < fs.length) (e : ad fs i = ad fs j) : i = j := by
  obtain ⟨r, er⟩ := get_lt hi
  obtain ⟨q, eq⟩ := get_lt hj
  rw [ad_at er, ad_at eq] at e
  exact h.nd i j r q er eq e
theorem FAt.mem_ad {H : Hp} {fs : List Flt1} (h : FAt K H fs) {j : Nat} {ps : List Nat} (hj : j < fs.length) (hp : ∀ i ∈ ps, i < fs.length) : (ad fs j ∈ ps.map (ad fs)) ↔ j ∈ ps := by
  constructor
  · intro m
    obtain ⟨i, hi, e⟩ := List.mem_map.mp m
    rw [← h.ad_inj (hp i hi) hj e]
    exact hi
  · exact fun m => List.mem_map_of_mem m
theorem FAt.idx_ad {H : Hp} {fs : List Flt1} (h : FAt K H fs) {j : Nat} (hj : j < fs.length) : ∀ {ps : List Nat}, (∀ i ∈ ps, i < fs.length) → (ps.map (ad fs)).idxOf (ad fs j) = ps.idxOf j
  | [], _ => rfl
  | a :: ps, hp => by
    rw [List.map_cons, List.idxOf_cons, List.idxOf_cons, h.idx_ad hj fun i hi => hp i (List.mem_cons_of_mem _ hi)]
    by_cases e : a = j
    · subst e; simp
    · have e2 : ad fs a ≠ ad fs j := fun z => e (h.ad_inj (hp a List.mem_cons_self) hj z)
      rw [show (ad fs a == ad fs j) = false from by simpa using e2, show (a == j) = false from by simpa using e]
theorem FAt.insAll {H : Hp} {fs : List Flt1} (h : FAt K H fs) (x : XF K) {ps : List Nat} (hp : ∀ i ∈ ps, i < fs.length) : InsAll K H (ps.map (ad fs)) := ⟨_, x.cm, fun a ha => by
  obtain ⟨i, hi, rfl⟩ := List.mem_map.mp ha
  obtain ⟨r, er⟩ := get_lt (hp i hi)
  exact ⟨_, _, by rw [ad_at er]; exact h.at_ i r er⟩⟩
theorem frow_u {k l : Str} {n : Int} {c u : V} {h : Bool} : List.lookup (Str.ofString "s1_cause") (frow k l n c u h) = some u := by kernel_rfl
theorem frow_n {k l : Str} {n : Int} {c u : V} {h : Bool} : List.lookup (Str.ofString "s1_number") (frow k l n c u h) = some (.int n) := by kernel_rfl
theorem frow_k {k l : Str} {n : Int} {c u : V} {h : Bool} : List.lookup (Str.ofString "s1_kind") (frow k l n c u h) = some (.str k) := by kernel_rfl
theorem frow_l {k l : Str} {n : Int} {c u : V} {h : Bool} : List.lookup (Str.ofString "s1_label") (frow k l n c u h) = some (.str l) := by kernel_rfl
def linkOf (b : Bool) : Str := if b then "context" else "cause"
def nxOf (b : Bool) (fs : List Flt1) : Nat → Option Nat := if b then ctxOf fs else causeOf fs
def NotW (K : PySem.W.Frag) (H : Hp) (v : V) : Prop := (∃ s, v = .str s ∧ inV (.str s) [.str "context", .str "cause"] = false) ∨ ∃ T, TyX K H v (.type T) ∧ kitB T "str" = some false
def spCyc (K : PySem.W.Frag) : Sp := sp2 fun x l H Q E =>
  (∃ fs f b, FAt K H fs ∧ fs.length ≤ 100 ∧ f < fs.length ∧ x = adr fs f ∧ l = .str (linkOf b) ∧ ∀ D H', H D = none → Same H H' → H' D = some (.lst ((cycOf (nxOf b fs) fs.length f).map fun n : Nat => V.int n)) → Q (.ref D) H') ∨
  (NotF K H x ∧ RaiseX K "BadFault" "value" x H E) ∨ (IsF K H x ∧ (NotW K H l ∧ ∀ H', Same H H' → NotW K H' l) ∧ RaiseX K "BadName" "value" l H E)
theorem nx_lt {H : Hp} {fs : List Flt1} (h : FAt K H fs) {b : Bool} {i j : Nat} (e : nxOf b fs i = some j) : j < fs.length := by
  cases b with
  | true =>
    have e : (fs[i]?).bind Flt1.c = some j := e
    cases q : fs[i]? with
    | none => rw [q] at e; cases e
    | some r => rw [q] at e; exact h.c r (List.mem_of_getElem? q) j e
  | false =>
    have e : (fs[i]?).bind Flt1.u = some j := e
    cases q : fs[i]? with
    | none => rw [q] at e; cases e
    | some r => rw [q] at e; exact h.u r (List.mem_of_getElem? q) j e
theorem sc_cycle_of : FnScope ["fault", "link", "passed", "here", "one"] ["fault", "link"] (defScope (top 34)) := ⟨rfl, rfl, rfl, by decide +kernel, rfl, by decide +kernel, by decide +kernel⟩
theorem c_cycle_of (T : Sy K mg) : CalKw gd P w K mg base (CX P w) 6 "cycle_of" "link" (.str "context") (spCyc K) := by
  obtain ⟨fd, F⟩ := F_cycle_of T
  replace F : FunD K "cycle_of" "cycle_of" _ _ _ [] [("link", V.str "context")] _ fd := F
  obtain ⟨ds, hv, bd⟩ := F.binds0 (ps := ["fault", "link"]) 1 (by simp) rfl fun D doc pm an cdv ct us ks l1 l2 => match us, l1, ks, l2 with | [_], _, [_], _ => ⟨_, _, _, _, _, _, rfl, rfl, rfl⟩
  obtain ⟨mv, kb⟩ := F.kbinds0 (ps := ["fault", "link"]) 1 ["link"] [] (fun us _ ws => us ++ ws) (by simp) (fun q hq => by cases hq) (fun h1 _ h3 => h1.append h3) fun D doc pm an cdv ct us mv ws l1 l2 l3 => match us, l1, mv, l2, ws, l3 with | [_], _, [], _, [_], _ => rfl
  refine ⟨_, fd, ["fault", "link"], ds, FnG.body F sc_cycle_of sp2_len (fun cdv A outer s H vs Q E z h => ?_), T.glo "cycle_of", F.kp, hv, bd, kb⟩
  have hu1 := hu_1 z; have hu2 := hu_2 z; have hu3 := hu_3 z
  obtain ⟨x0, x1, rfl, h⟩ := h
  refine ⟨_, (pss_cons (ps_expr (pe_cX (c_s7_need_fault T) z (passes_call (takes_of rfl rfl rfl rfl) (fun _ _ _ _ h => h)) (pa_cons (pv 0) pa_nil))) (pss_cons (ps_if (pt_not (pt_val (pe_c (c_s7_is_word T) z (pa_cons (pv 1) (pa_cons (pe_tup (pa_cons pe_str (pa_cons pe_str pa_nil))) pa_nil))))) (pss_one (ps_raise rfl (takes_of rfl rfl rfl rfl) (pmk_x (x_BadName T) z.r (pa_cons (pv 1) pa_nil)))) pss_nil) (pss_cons (ps_par (i := 2) (j := 3) (by rfl) sc_cycle_of.nd rfl rfl (by decide) rfl rfl (pa_cons (pe_lst pa_nil) (pa_cons (pv 0) pa_nil)) (by rfl)) (pss_cons (ps_while (passes_of rfl) (PW.pt (pw_and (pt_cmpR (r := rNotN) op_notN (pv 3) pe_non (nomark _)) (pw_and1 (pt_cmpR (r := rNotInI K) (op_notInI hu2) (pv 3) (pv 2) rfl)))) (pss_cons (ps_expr (pe_bmK (K := K) rfl PySem.F.plainAttrs_list PySem.F.slot_list_append PySem.F.type_list_append mt_append2 (pv 2) (pa_cons (pv 3) pa_nil))) (pss_one (ps_set (i := 3) sc_cycle_of.nd rfl (by first | exact Or.inl rfl | exact Or.inr rfl) (pe_ifExp (pt_cmpR (r := rEq2 K) (op_eq2 hu1) (pv 1) pe_str (nomark _)) (pe_prK (K := K) rfl (p_context T) z (pv 3)) (pe_prK (K := K) rfl (p_cause T) z (pv 3))))))) (pss_cons (ps_if (pt_cmpR (r := rIsN) op_isN (pv 3) pe_non (nomark _)) (pss_one (ps_ret (pe_lst pa_nil))) pss_nil) (pss_one (ps_ret (pe_lc (own := [("one", 4)]) (g := gName 4) (by rfl) sc_cycle_of.nd (pi_anyK (K := K) rfl (pe_slice (r := rSl2 K) sl_2 (pv 2) (po_some (pe_bmK (K := K) rfl PySem.F.plainAttrs_list PySem.F.slot_list_index PySem.F.type_list_index (mt_idxI (K := K) rfl hu2) (pv 2) (pa_cons (pv 3) pa_nil))) po_none)) (blkOk_by (own := [("one", 4)]) (N := ["fault", "link", "passed", "here", "one"]) (sc := (defScope (top 34))) (by decide +kernel)) (fun _ _ _ _ _ => (pg_name (i := 4) sc_cycle_of.nd rfl (by first | exact Or.inl rfl | exact Or.inr rfl))) (fun _ _ _ _ _ => pts_nil) (fun _ _ _ _ _ => (pe_prK (K := K) rfl (p_number T) z (pv 4))))))))))), ?_⟩
  rcases h with ⟨fs, f, b, fa, hL, hf, rfl, rfl, q⟩ | ⟨nf, rx⟩ | ⟨isf, ⟨nw, nw2⟩, rx⟩
  rotate_left
  · walk_at "yhead"; walk_at "y"
    exact ⟨_, rfl, .inr ⟨nf, rx⟩⟩
  · walk_at "yhead"; walk_at "y"
    refine ⟨_, rfl, .inl ⟨isf, ?_⟩⟩
    walk_at "y"
    refine ⟨sz4 (by simp), fun p np => ?_⟩
    have sH1 := same_upd (H := H) (o := .tup [.str "context", .str "cause"]) np
    have ep := upd_same (H := H) (a := p) (o := .tup [.str "context", .str "cause"])
    generalize upd H p (.tup [.str "context", .str "cause"]) = H1 at sH1 ep ⊢
    refine ⟨_, _, rfl, p, ["context", "cause"], rfl, ep, ?_⟩
    rcases nw2 _ sH1 with ⟨t, rfl, e⟩ | ⟨U, ty, e⟩
    · refine .inl ⟨t, rfl, ?_⟩
      rw [show ([("context" : Str), "cause"].map V.str) = [.str "context", .str "cause"] from rfl, e]
      walk_at "y"
      exact mkx_r (rx.mono sH1)
    · refine .inr ⟨U, ty, e, ?_⟩
      walk_at "y"
      exact mkx_r (rx.mono sH1)
  · walk_at "yhead"; walk_at "y"
    obtain ⟨rf, ef⟩ := get_lt hf
    rw [adr_ad hf]
    refine ⟨_, rfl, .inl ⟨by rw [ad_at ef]; exact fa.isF ef, ?_⟩⟩
    walk_at "y"
    refine ⟨sz4 (by simp), fun p np => ?_⟩
    have sH1 := same_upd (H := H) (o := .tup [.str "context", .str "cause"]) np
    have ep := upd_same (H := H) (a := p) (o := .tup [.str "context", .str "cause"])
    generalize upd H p (.tup [.str "context", .str "cause"]) = H1 at sH1 ep ⊢
    refine ⟨_, _, rfl, p, ["context", "cause"], rfl, ep, .inl ⟨_, rfl, ?_⟩⟩
    rw [show inV (.str (linkOf b)) ([("context" : Str), "cause"].map V.str) = true by cases b <;> decide +kernel]
    walk_at "y"
    refine ⟨sz4 (by simp), fun l nl => ?_⟩
    have sH2 := same_upd (H := H1) (o := .lst []) nl
    have el := upd_same (H := H1) (a := l) (o := .lst [])
    generalize upd H1 l (.lst []) = H2 at sH2 el ⊢
    walk_at "y"
    refine ⟨_, _, rfl, ?_⟩
    walk_at "y"
    have hn2 : ∀ {n : Nat}, n ≤ 100 → n < sizeLine := fun h => Nat.lt_of_le_of_lt h (sz4 (n := 101))
    refine ⟨fun m σ H' => ∃ (ps : List Nat) (here : Option Nat) (x : Option V), σ = [some (.ref (ad fs f)), some (.str (linkOf b)), some (.ref l), some (lnk fs here), x] ∧ Same H1 H' ∧ H' l = some (.lst ((ps.map (ad fs)).map V.ref)) ∧ ps.Nodup ∧ (∀ i ∈ ps, i < fs.length) ∧ (∀ j, here = some j → j < fs.length) ∧ m + ps.length = fs.length + 1 ∧ cyc (nxOf b fs) m ps here = cycOf (nxOf b fs) fs.length f,
      ⟨fs.length + 1, [], some f, none, by rw [← adr_ad hf]; rfl, sH2, el, List.nodup_nil, fun i hi => (by cases hi), fun j hj => (by cases hj; exact hf), rfl, rfl⟩, fun m σ H' hw => ?_⟩
    obtain ⟨ps, here, x, rfl, sK, hl, nd, hps, hh, hm, hc⟩ := hw
    have fa' := fa.same (sH1.trans sK)
    have nl : H1 l = none := nl
    cases here with
    | none =>
      rw [show lnk fs none = .non from rfl]
      walk_at "y"
      refine ⟨sz4 (by simp), fun D nD => ?_⟩
      have sH3 := same_upd (H := H') (o := .lst []) nD
      have eD := upd_same (H := H') (a := D) (o := .lst [])
      generalize upd H' D (.lst []) = H3 at sH3 eD ⊢
      have e0 : cycOf (nxOf b fs) fs.length f = [] := by rw [← hc]; cases m <;> rfl
      exact q D H3 ((sH1.trans sK).free nD) ((sH1.trans sK).trans sH3) (by rw [e0]; exact eD)
    | some j =>
      have hj := hh j rfl
      obtain ⟨r, er⟩ := get_lt hj
      rw [show lnk fs (some j) = .ref (ad fs j) from adr_ad hj]
      walk_at "y"
      refine ⟨l, ps.map (ad fs), ad fs j, rfl, rfl, hl, fa'.insAll (ps := j :: ps) T.xF (fun i hi => ?_), ?_⟩
      · rcases List.mem_cons.mp hi with rfl | hi
        · exact hj
        · exact hps i hi
      have hle := nodup_len nd hps
      cases m with
      | zero => omega
      | succ m =>
      by_cases c : j ∈ ps
      · rw [decide_eq_true ((fa'.mem_ad hj hps).mpr c)]
        walk_at "y"
        refine lc_b true ?_
        walk_at "y"
        refine ⟨.inl ⟨rfl, _, SqL.of hl⟩, ?_⟩
        walk_at "y"
        refine ⟨l, ps.map (ad fs), ad fs j, rfl, rfl, hl, fa'.insAll T.xF hps, (fa'.mem_ad hj hps).mpr c, ?_⟩
        rw [fa'.idx_ad hj hps]
        refine ⟨_, rfl, ?_⟩
        walk_at "y"
        refine rSl2_l (N := fun _ _ => True) (SqL.of hl) fun g hg => ?_
        rw [cut_from, ← List.map_drop, ← List.map_drop]
        have e0 : cycOf (nxOf b fs) fs.length f = ps.drop (ps.idxOf j) := by
          rw [← hc]
          show (if j ∈ ps then _ else _) = _
          rw [if_pos c]
        rw [e0] at q
        have hqs : ∀ i ∈ ps.drop (ps.idxOf j), i < fs.length := fun i hi => hps i (List.mem_of_mem_drop hi)
        have hql : (ps.drop (ps.idxOf j)).length ≤ 100 := by rw [List.length_drop]; omega
        generalize ps.drop (ps.idxOf j) = qs at *
        have sG := same_upd (o := .lst ((qs.map (ad fs)).map V.ref)) hg
        have eG := upd_same (H := H') (a := g) (o := .lst ((qs.map (ad fs)).map V.ref))
        generalize upd H' g (.lst ((qs.map (ad fs)).map V.ref)) = H3 at sG eG ⊢
        refine ⟨g, rfl, ⟨_, SqL.of eG⟩, lc_pure (walk_b (b := true) (xs := (qs.map (ad fs)).map V.ref)) (by rw [List.length_map, List.length_map]; exact Nat.le_of_lt (hn2 hql)) (fun i => (qs[i]?).bind some) (firm_FR fun n : Nat => V.int n) (fun H' s => s _ _ eG) (fun i H0 x H1 y => by obtain ⟨rfl, _⟩ := y; exact Same.refl _) (fun i x H0 H5 hi s0 s5 y N C hC hN => ?_) fun D H5 vs hD s5 h5 pr => ?_⟩
        · obtain ⟨rfl, e1⟩ := y
          rw [List.getElem?_map, List.getElem?_map] at e1
          cases e2 : qs[i]? with
          | none => rw [e2] at e1; cases e1
          | some n =>
            rw [e2] at e1
            cases e1
            have hn := hqs n (List.mem_of_getElem? e2)
            obtain ⟨rn, ern⟩ := get_lt hn
            walk_at "y"
            refine ⟨rfl, ?_⟩
            walk_at "y"
            refine spFld_i (by rw [ad_at ern]; exact ((fa'.same sG).same s5).at_ n rn ern) frow_n ?_
            exact hC _ _ n (Same.refl _) (by rw [e2]; rfl) rfl
        · rw [paired_FR pr, List.length_map, List.length_map, filterMap_ix, List.filterMap_some] at h5
          exact q D H5 ((sH1.trans (sK.trans sG)).free hD) ((sH1.trans (sK.trans sG)).trans s5) h5
      · rw [decide_eq_false (fun z => c ((fa'.mem_ad hj hps).mp z))]
        refine ⟨_, rfl, ?_⟩
        rw [if_pos (by decide)]
        have hx := fa'.at_ j r er
        refine ⟨fun σ' H3 => σ' = [some (.ref (ad fs f)), some (.str (linkOf b)), some (.ref l), some (lnk fs (nxOf b fs j)), x] ∧ H3 l = some (.lst (((ps ++ [j]).map (ad fs)).map V.ref)) ∧ ∀ b, b ≠ l → H3 b = H' b, fun σ' H3 hn => ?_, ?_⟩
        · obtain ⟨rfl, h3, u3⟩ := hn
          refine ⟨m, Nat.lt_succ_self _, ps ++ [j], nxOf b fs j, x, rfl, fun a o e => ?_, h3, ?_, ?_, fun k hk => nx_lt fa' hk, ?_, ?_⟩
          · rw [u3 a (ne_of_none e nl)]; exact sK _ _ e
          · exact List.nodup_append.mpr ⟨nd, by simp, fun a ha b hb => by simp at hb; subst hb; exact fun z => c (z ▸ ha)⟩
          · intro i hi
            rcases List.mem_append.mp hi with hi | hi
            · exact hps i hi
            · simp at hi; subst hi; exact hj
          · simp only [List.length_append, List.length_cons, List.length_nil]; omega
          · rw [← hc]
            show _ = if j ∈ ps then _ else _
            rw [if_neg c]
        · walk_at "y"
          refine ⟨.inl ⟨rfl, _, SqL.of hl⟩, ?_⟩
          walk_at "y"
          refine appU_i hl (hn2 (by rw [List.length_map, List.length_map]; omega)) fun H3 h3 u3 => ?_
          walk_at "y"
          have hx1 := (fa.same sH1).at_ j r er
          have hx3 : H3 r.a = _ := (u3 _ (ne_of_none hx1 nl)).trans hx
          have h4 : H3 l = some (.lst (((ps ++ [j]).map (ad fs)).map V.ref)) := by rw [h3, List.map_append, List.map_append]; rfl
          rw [ad_at er]
          cases b with
          | true =>
            rw [if_pos (by decide)]
            walk_at "y"
            refine spFld_i hx3 frow_c ?_
            walk_at "y"
            exact ⟨by rw [show nxOf true fs j = r.c from ctx_get er], h4, u3⟩
          | false =>
            rw [if_neg (by decide)]
            walk_at "y"
            refine spFld_i hx3 frow_u ?_
            walk_at "y"
            exact ⟨by rw [show nxOf false fs j = r.u from (by show (fs[j]?).bind Flt1.u = _; rw [er]; rfl)], h4, u3⟩
end

end L77
namespace L77
open PySem PySem.Spec PyProof.Rows L2
variable {gd : Bool}
local macro_rules | `(tactic| walk_at "y1") => `(tactic| with_reducible first
  | refine tSeq_i ?_ | refine tAsg_i ?_ | refine tCons_i ?_ | refine tNil_i ?_ | refine tC_i ?_ | refine tOp_i ?_ | refine tIfS_i ?_ | refine tTest_i ?_ | refine exBl_i ?_ | refine tRet_i ?_ | refine tCall_i ?_
  | refine tCB_i ?_ | refine tLst_i ?_ | refine tTup_i ?_ | refine rI0_i ?_ | refine tDrop_i ?_ | refine tNext_i ?_ | refine tB_i ?_ | refine tAnd_i ?_ | refine tOr_i ?_ | refine tNot_i ?_ | refine tAndV_i ?_ | refine tOrV_i ?_ | refine tNotV_i ?_
  | refine tYes_i ?_ | refine tTM_i ?_ | refine tPar_i ?_ | refine tSl_i ?_ | refine tNoPart_i ?_ | refine tPart_i ?_ | refine part_i ?_ | refine tMake_i ?_ | refine tProp_i ?_ | refine tCallOG_i ?_ | refine tVeI_i ?_ | refine tOst_i ?_ | refine tMkO_i ?_ | refine sFld_i ?_ | refine fldaug_i ?_ | refine gCons_i ?_ | refine gNil_i ?_ | refine tChain_i ?_ | refine tBM_i ?_ | refine rAdd2_i ?_ | refine rLe2_i ?_ | refine rEq2_i ?_ | refine rEq2_ss ?_ | refine rNe2_i ?_ | refine rNe2_ss ?_ | refine rIsN_i ?_ | refine rNotN_i ?_ | refine tTup_i2 ?_ | refine tIf_i ?_ | refine tUn_i ?_ | refine tDGet_i ?_ | refine sDPut_i ?_ | refine tFld_i ?_ | refine tRetN_i ?_ | refine tBreak_i ?_ | refine tCont_i ?_ | refine rU_i ?_)
local macro_rules | `(tactic| walk_at "yhead") => `(tactic| dsimp only [L2.start, List.map, List.length_cons, List.length_nil, Nat.reduceAdd, Nat.reduceSub, List.replicate, List.cons_append, List.nil_append])
local macro_rules | `(tactic| walk_at "y2") => `(tactic| first
  | walk_at "y1"
  | ((with_reducible refine tVar_i (v := ?v) ?h ?q); (case h => rfl))
  | ((with_reducible refine gName_i ?_); (dsimp only [L2.wipe, List.set]))
  | with_reducible refine iteT ?_ | with_reducible refine iteF ?_ | with_reducible refine iteNT ?_ | with_reducible refine iteNF ?_
  | ((with_reducible refine iteDT ?h ?q); (case h => first | decide +kernel | omega | assumption | exact nv1 | exact nv2 | exact nv3 | exact nv4)) | ((with_reducible refine iteDF ?h ?q); (case h => first | decide +kernel | omega | assumption | exact nv1 | exact nv2 | exact nv3 | exact nv4))
  | ((with_reducible refine iteNDT ?h ?q); (case h => first | decide +kernel | omega | assumption | exact nv1 | exact nv2 | exact nv3 | exact nv4)) | ((with_reducible refine iteNDF ?h ?q); (case h => first | decide +kernel | omega | assumption | exact nv1 | exact nv2 | exact nv3 | exact nv4))
  | ((with_reducible refine rIsi2_1 (T := ?T) (b := true) ?ty ?h ?q); (case ty => first | exact ty_str | exact ty_int | exact ty_bl | exact ty_non); (case h => decide +kernel))
  | ((with_reducible refine rIsi2_1 (T := ?T) (b := false) ?ty ?h ?q); (case ty => first | exact ty_str | exact ty_int | exact ty_bl | exact ty_non); (case h => decide +kernel))
  | ((with_reducible refine rEq2_s ?h ?q); (case h => rfl)) | ((with_reducible refine rNe2_s ?h ?q); (case h => rfl))
  | ((with_reducible refine rEq_i ?h ?q); (case h => rfl)) | ((with_reducible refine rNe_i ?h ?q); (case h => rfl)))
local macro_rules | `(tactic| walk_at "y") => `(tactic| repeat walk_at "y2")

/-- what runs on behind a statement, taken out of sight -/
theorem nx_abs {t : TS} {nx bk ct : L2.St → Hp → Prop} {rt : VK} {σ : L2.St} {H : Hp} (M : L2.St → Hp → Prop) (hm : ∀ σ H, M σ H → nx σ H) (h : ∀ R : L2.St → Hp → Prop, (∀ σ H, M σ H → R σ H) → t ⟨R, rt, bk, ct⟩ σ H) : t ⟨nx, rt, bk, ct⟩ σ H := h nx hm
section
variable {P : Program} {w : World} {K : PySem.W.Frag} {mg : Str → Option Value} {base : Heap}
theorem cyc_nil {nx : Nat → Option Nat} : ∀ {m : Nat} {i : Nat}, Ends_ nx m i → ∀ (n : Nat) (ps : List Nat), (∀ a ∈ ps, ∀ k, Ends_ nx k i → ∃ k', k < k' ∧ Ends_ nx k' a) → cyc nx n ps (some i) = []
  | m, i, e, 0, ps, _ => rfl
  | m, i, e, n + 1, ps, hp => by
    have uniq : ∀ {a b j : Nat}, Ends_ nx a j → Ends_ nx b j → a = b := fun {a b j} h1 => by
      induction h1 generalizing b with
      | last h => intro h2; cases h2 with
        | last _ => rfl
        | step h' _ => rw [h] at h'; cases h'
      | step h _ ih => intro h2; cases h2 with
        | last h' => rw [h] at h'; cases h'
        | step h' t' => rw [h] at h'; cases h'; rw [ih t']
    show (if i ∈ ps then _ else cyc nx n (ps ++ [i]) (nx i)) = []
    rw [if_neg fun hi => by
      obtain ⟨k', h1, h2⟩ := hp i hi m e
      have := uniq e h2
      omega]
    cases e with
    | last h => rw [h]; cases n <;> rfl
    | @step m _ j h t =>
      rw [h]
      refine cyc_nil t n (ps ++ [i]) fun a ha k hk => ?_
      have e1 := uniq t hk
      subst e1
      rcases List.mem_append.mp ha with ha | ha
      · obtain ⟨k', h1, h2⟩ := hp a ha (m + 1) (.step h t)
        exact ⟨k', by omega, h2⟩
      · simp at ha
        subst ha
        exact ⟨m + 1, Nat.lt_succ_self _, .step h t⟩
theorem cycOf_acyc {fs : List Flt1} (h : Acyc fs) (n f : Nat) : cycOf (ctxOf fs) n f = [] := by
  obtain ⟨m, e⟩ := h f
  exact cyc_nil e _ _ fun a ha => by cases ha
def kOf (fs : List Flt1) (g : Nat) : Str := ((fs[g]?).map Flt1.k).getD ""
def lOf (fs : List Flt1) (g : Nat) : Str := ((fs[g]?).map Flt1.l).getD ""
abbrev Row := Str × Int
def rowV (r : Row) : List V := [.str r.1, .int r.2]
def auRow (es : List Ev) (fs : List Flt1) (i g : Nat) : List Row := (if g = i then [] else [(("number" : Str), (i : Int))]) ++ (if Ev.fa i (kOf fs g) (lOf fs g) ∈ es then [] else [(("event" : Str), (i : Int))])
def auRows (es : List Ev) (fs : List Flt1) (gs : List Nat) (n : Nat) : List Row := (List.range n).flatMap fun i => match gs[i]? with | some g => auRow es fs i g | none => []
def auditOf (es : List Ev) (fs : List Flt1) (gs : List Nat) : List Row := ((flawsOf es).map fun i => (("flaw" : Str), i)) ++ auRows es fs gs gs.length
theorem auRows_succ {es : List Ev} {fs : List Flt1} {gs : List Nat} {i g : Nat} (h : gs[i]? = some g) : auRows es fs gs (i + 1) = auRows es fs gs i ++ auRow es fs i g := by
  unfold auRows
  rw [List.range_succ, List.flatMap_append]
  simp [h]
theorem auRow_len {es : List Ev} {fs : List Flt1} {i g : Nat} : (auRow es fs i g).length ≤ 2 := by
  unfold auRow
  rw [List.length_append]
  split <;> split <;> simp
theorem auRows_len {es : List Ev} {fs : List Flt1} {gs : List Nat} : ∀ n, (auRows es fs gs n).length ≤ 2 * n
  | 0 => by simp [auRows]
  | n + 1 => by
    have ih := auRows_len (es := es) (fs := fs) (gs := gs) n
    cases h : gs[n]? with
    | some g => rw [auRows_succ h, List.length_append]; have := auRow_len (es := es) (fs := fs) (i := n) (g := g); omega
    | none =>
      have e : auRows es fs gs (n + 1) = auRows es fs gs n := by unfold auRows; rw [List.range_succ, List.flatMap_append]; simp [h]
      rw [e]; omega
theorem flawsOf_len (es : List Ev) : (flawsOf es).length ≤ es.length := by
  unfold flawsOf
  exact Nat.le_trans (List.length_filterMap_le ..) (by simp)
/-- the faults of a list or tuple, by their places -/
structure GsAt (K : PySem.W.Frag) (b : Bool) (H : Hp) (q : Addr) (fs : List Flt1) (gs : List Nat) : Prop where
  f : FAt K H fs
  at_ : H q = some (sq b (gs.map (adr fs)))
  lt : ∀ g ∈ gs, g < fs.length
  kl : ∀ r ∈ fs, KL r.k r.l
  fl : fs.length ≤ 20
  gl : gs.length ≤ 20
theorem GsAt.same {b : Bool} {H H' : Hp} {q : Addr} {fs : List Flt1} {gs : List Nat} (h : GsAt K b H q fs gs) (s : Same H H') : GsAt K b H' q fs gs := ⟨h.f.same s, s _ _ h.at_, h.lt, h.kl, h.fl, h.gl⟩
def spAudit (K : PySem.W.Frag) : Sp := sp2 fun lv fv H Q E => (∃ b p es b2 q fs gs, lv = .ref p ∧ LogAt b H p es ∧ fv = .ref q ∧ GsAt K b2 H q fs gs ∧ Acyc fs ∧ ∀ D H' vs, H D = none → Same H H' → H' D = some (.lst vs) → Paired (TR rowV H') vs (auditOf es fs gs) → Q (.ref D) H') ∨
  (∃ p i, lv = .ref p ∧ H p = some (.lst [.int i]) ∧ ∀ d H', H d = none → Same H H' → H' d = some (.xd [("index", .int 0)]) → E (.ref (He.ga K "BadLog")) (some d) H') ∨
  (∃ b p es s, lv = .ref p ∧ LogAt b H p es ∧ fv = .str s ∧ RaiseX K "BadFault" "value" (.str s) H E) ∨
  (∃ b p es q v0 v1 v2, lv = .ref p ∧ LogAt b H p es ∧ fv = .ref q ∧ H q = some (.lst [v0, v1, v2]) ∧ IsF K H v0 ∧ (∀ H', Same H H' → NotF K H' v1) ∧ RaiseX K "BadFault" "value" v1 H E)
theorem any_fa {es : List Ev} {n : Int} {k l : Str} : ((es.map Ev.d).any fun z => PyData.eqv z (.tuple ((Ev.fa n k l).xs.map vD))) = decide (Ev.fa n k l ∈ es) := by
  induction es with
  | nil => simp
  | cons e es ih =>
    rw [List.map_cons, List.any_cons, ih]
    have e1 : PyData.eqv e.d (.tuple ((Ev.fa n k l).xs.map vD)) = decide (e = .fa n k l) := ev_eqf
    rw [e1]
    by_cases c : e = .fa n k l
    · subst c; simp
    · simp [c, Ne.symm c]
theorem notin_log {b : Bool} {H : Hp} {p : Addr} {t : V} {d : PyData} {vs : List V} {es : List Ev} {Q : VK} (h : H p = some (sq b vs)) (h2 : Paired (TR Ev.xs H) vs es) (ok : ∀ e ∈ es, e.ok) (dt : Dp K H t d) (st : SeqAt.shaped d = true)
    (q : Q (.bl (!(es.map Ev.d).any fun z => PyData.eqv z d)) H) : rNotInDB K t (.ref p) H Q := by
  have dl := dp_log (K := K) h h2
  cases b with
  | true => exact .inl ⟨d, _, dt, dl, st, (sm_log ok).shaped, q⟩
  | false => exact .inr ⟨d, _, dt, dl, st, (sm_logT ok).shaped, q⟩
theorem IsF.same {H H' : Hp} {v : V} (h : IsF K H v) (s : Same H H') : IsF K H' v := by
  obtain ⟨a, dx, fs, rfl, ha⟩ := h
  exact ⟨a, dx, fs, rfl, s _ _ ha⟩
theorem sc_audit : FnScope ["log", "faults", "fault", "place", "found"] ["log", "faults"] (defScope (top 35)) := ⟨rfl, rfl, rfl, by decide +kernel, rfl, by decide +kernel, by decide +kernel⟩
theorem c_audit (T : Sy K mg) : Cal gd P w K mg base (CX P w) 10 "audit" (spAudit K) := by
  refine T.calX (F_audit T) sc_audit sp2_len (fun cdv f A outer s H vs Q E z h => ?_) (fun _ _ _ _ _ _ us hl => match us, hl with | [_, _], _ => rfl)
  have hu1 := hu_1 z; have hu2 := hu_2 z; have hu3 := hu_3 z
  obtain ⟨x0, x1, rfl, h⟩ := h
  refine ⟨_, (pss_cons (ps_expr (pe_cX (c_check_log T) z (passes_call (takes_of rfl rfl rfl rfl) (fun _ _ _ _ h => h)) (pa_cons (pv 0) pa_nil))) (pss_cons (ps_if (pt_not (pt_val (pe_callB (r := rIsi2 K) call_isi2 (by rfl) (T.free "isinstance") (by decide +kernel) (pa_cons (pv 1) (pa_cons (pe_tup (pa_cons (pe_bltn (v := .ty "list") (u := .type "list") (by rfl) (T.free "list") (by decide +kernel) rfl) (pa_cons (pe_bltn (v := .ty "tuple") (u := .type "tuple") (by rfl) (T.free "tuple") (by decide +kernel) rfl) pa_nil))) pa_nil))))) (pss_one (ps_raise rfl (takes_of rfl rfl rfl rfl) (pmk_x (x_BadFault T) z.r (pa_cons (pv 1) pa_nil)))) pss_nil) (pss_cons (ps_for (passes_of rfl) (by rfl) (pi_anyK (K := K) rfl (pv 1)) (pg_name (i := 2) sc_audit.nd rfl (by first | exact Or.inl rfl | exact Or.inr rfl)) (pss_one (ps_expr (pe_cX (c_s7_need_fault T) z (passes_call (takes_of rfl rfl rfl rfl) (fun _ _ _ _ h => h)) (pa_cons (pv 2) pa_nil))))) (pss_cons (ps_setLc (i := 4) (own := [("place", 3)]) (g := gName 3) (by rfl) sc_audit.nd rfl rfl (sw_true rfl rfl rfl (by decide +kernel)) (pi_anyK (K := K) rfl (pe_cX (c_flaws T) z (passes_call (takes_of rfl rfl rfl rfl) (fun _ _ _ _ h => h)) (pa_cons (pv 0) pa_nil))) (blkOk_by (own := [("place", 3)]) (N := ["log", "faults", "fault", "place", "found"]) (sc := (defScope (top 35))) (by decide +kernel)) (fun _ _ _ _ _ => (pg_name (i := 3) sc_audit.nd rfl (by first | exact Or.inl rfl | exact Or.inr rfl))) (fun _ _ _ _ _ => pts_nil) (fun _ _ _ _ _ => (pe_tup (pa_cons pe_str (pa_cons (pv 3) pa_nil))))) (pss_cons (ps_for (passes_of rfl) (by rfl) (pi_enum2K (K := K) rfl (by rfl) (T.free "enumerate") (pv 1)) (pg_tupK (K := K) rfl (by rfl) (pgs_cons (pg_name (i := 3) sc_audit.nd rfl (by first | exact Or.inl rfl | exact Or.inr rfl)) (pgs_cons (pg_name (i := 2) sc_audit.nd rfl (by first | exact Or.inl rfl | exact Or.inr rfl)) pgs_nil))) (pss_cons (ps_if (pt_cmpR (r := rNe2 K) (op_ne2 hu1) (pe_prK (K := K) rfl (p_number T) z (pv 2)) (pv 3) (nomark _)) (pss_one (ps_expr (pe_bmK (K := K) rfl PySem.F.plainAttrs_list PySem.F.slot_list_append PySem.F.type_list_append mt_append2 (pv 4) (pa_cons (pe_tup (pa_cons pe_str (pa_cons (pv 3) pa_nil))) pa_nil)))) pss_nil) (pss_cons (ps_if (pt_cmpR (r := rNotInDB K) (op_notInDB hu2) (pe_tup (pa_cons pe_str (pa_cons (pv 3) (pa_cons (pe_prK (K := K) rfl (p_kind T) z (pv 2)) (pa_cons (pe_prK (K := K) rfl (p_label T) z (pv 2)) pa_nil))))) (pv 0) rfl) (pss_one (ps_expr (pe_bmK (K := K) rfl PySem.F.plainAttrs_list PySem.F.slot_list_append PySem.F.type_list_append mt_append2 (pv 4) (pa_cons (pe_tup (pa_cons pe_str (pa_cons (pv 3) pa_nil))) pa_nil)))) pss_nil) (pss_one (ps_if (pt_cmpR (r := rNe2 K) (op_ne2 hu1) (pe_k1 (c_cycle_of T) z (passes_call (takes_of rfl rfl rfl rfl) (fun _ _ _ _ h => h)) (pa_cons (pv 2) pa_nil)) (pe_lst pa_nil) (nomark _)) (pss_one (ps_expr (pe_bmK (K := K) rfl PySem.F.plainAttrs_list PySem.F.slot_list_append PySem.F.type_list_append mt_append2 (pv 4) (pa_cons (pe_tup (pa_cons pe_str (pa_cons (pv 3) pa_nil))) pa_nil)))) pss_nil))))) (pss_one (ps_ret (pv 4)))))))), ?_⟩
  have isiB : ∀ {b : Bool} {H1 : Hp} {p1 q : Addr} {vs : List V} {Q : VK}, H1 p1 = some (.tup [.ty "list", .ty "tuple"]) → H1 q = some (sq b vs) → Q (.bl true) H1 → rIsi2 K [.ref q, .ref p1] H1 Q := fun {b H1 p1 q vs Q} e h qq => by
    cases b
    · exact rIsi2_2 (b := false) (b2 := true) (ty_sq h) e (by decide +kernel) (by decide +kernel) qq
    · exact rIsi2_2 (b := true) (b2 := false) (ty_sq h) e (by decide +kernel) (by decide +kernel) qq
  rcases h with ⟨b, p, es, b2, q, fs, gs, rfl, lg, rfl, ga, ac, qq⟩ | ⟨p, i, rfl, hp, qq⟩ | ⟨b, p, es, t, rfl, lg, rfl, rx⟩ | ⟨b, p, es, q, v0, v1, v2, rfl, lg, rfl, hq, i0, n1, rx⟩
  rotate_left
  · walk_at "yhead"; walk_at "y"
    exact ⟨_, rfl, .inr ⟨p, i, rfl, hp, qq⟩⟩
  · walk_at "yhead"; walk_at "y"
    refine ⟨_, rfl, .inl ⟨b, p, es, rfl, lg, fun H1 s1 => ?_⟩⟩
    walk_at "y"
    refine ⟨sz4 (by simp), fun T1 nT1 => ?_⟩
    have sH2 := same_upd (H := H1) (o := .tup [.ty "list", .ty "tuple"]) nT1
    have eT1 := upd_same (H := H1) (a := T1) (o := .tup [.ty "list", .ty "tuple"])
    generalize upd H1 T1 (.tup [.ty "list", .ty "tuple"]) = H2 at sH2 eT1 ⊢
    refine rIsi2_2 (b := false) (b2 := false) ty_str eT1 (by decide +kernel) (by decide +kernel) ?_
    refine ⟨_, rfl, ?_⟩
    rw [if_pos (by decide)]
    walk_at "y"
    exact mkx_r (rx.mono (s1.trans sH2))
  · walk_at "yhead"; walk_at "y"
    refine ⟨_, rfl, .inl ⟨b, p, es, rfl, lg, fun H1 s1 => ?_⟩⟩
    walk_at "y"
    refine ⟨sz4 (by simp), fun T1 nT1 => ?_⟩
    have sH2 := same_upd (H := H1) (o := .tup [.ty "list", .ty "tuple"]) nT1
    have eT1 := upd_same (H := H1) (a := T1) (o := .tup [.ty "list", .ty "tuple"])
    generalize upd H1 T1 (.tup [.ty "list", .ty "tuple"]) = H2 at sH2 eT1 ⊢
    have s2 := s1.trans sH2
    refine isiB (b := true) eT1 (s2 _ _ hq) ?_
    walk_at "y"
    refine for_b true ?_
    walk_at "y"
    refine ⟨q, rfl, ⟨_, SqL.of (s2 _ _ hq)⟩, for_it (walk_b (b := true)) (Pv := fun j σ H' => j < 2 ∧ Same H2 H' ∧ ∃ x, σ = [some (.ref p), some (.ref q), x, none, none]) ⟨by decide, Same.refl _, none, rfl⟩ (fun j σ H' _ hj => (s2.trans hj.2.1) _ _ hq) (fun j x σ H0 H' hi hj y => ?_) fun σ H' hj => ?_⟩
    · obtain ⟨hj, s0, x0, rfl⟩ := hj
      obtain ⟨rfl, e1⟩ := y
      walk_at "y"
      have hj2 : j = 0 ∨ j = 1 := by omega
      rcases hj2 with rfl | rfl
      · cases e1
        refine ⟨_, rfl, .inl ⟨i0.same (s2.trans s0), ?_⟩⟩
        walk_at "y"
        exact ⟨by decide, s0, _, rfl⟩
      · cases e1
        exact ⟨_, rfl, .inr ⟨n1 _ (s2.trans s0), rx.mono (s2.trans s0)⟩⟩
    · exact absurd hj.1 (by simp)
  walk_at "yhead"; walk_at "y"
  refine ⟨_, rfl, .inl ⟨b, p, es, rfl, lg, fun H1 s1 => ?_⟩⟩
  walk_at "y"
  refine ⟨sz4 (by simp), fun T1 nT1 => ?_⟩
  have sH2 := same_upd (H := H1) (o := .tup [.ty "list", .ty "tuple"]) nT1
  have eT1 := upd_same (H := H1) (a := T1) (o := .tup [.ty "list", .ty "tuple"])
  generalize upd H1 T1 (.tup [.ty "list", .ty "tuple"]) = H2 at sH2 eT1 ⊢
  have s2 := s1.trans sH2
  refine isiB (b := b2) eT1 (s2 _ _ ga.at_) ?_
  walk_at "y"
  refine for_b b2 ?_
  walk_at "y"
  refine ⟨q, rfl, ⟨_, SqB.of (s2 _ _ ga.at_)⟩, for_it (walk_b (b := b2)) (Pv := fun j σ H' => Same H2 H' ∧ ∃ x, σ = [some (.ref p), some (.ref q), x, none, none]) ⟨Same.refl _, none, rfl⟩ (fun j σ H' _ hj => (s2.trans hj.1) _ _ ga.at_) (fun j x σ H0 H' hi hj y => ?_) fun σ H' hj => ?_⟩
  · obtain ⟨s0, x0, rfl⟩ := hj
    obtain ⟨rfl, e1⟩ := y
    rw [List.getElem?_map] at e1
    cases e2 : gs[j]? with
    | none => rw [e2] at e1; cases e1
    | some g =>
      rw [e2] at e1
      cases e1
      have hg := ga.lt g (List.mem_of_getElem? e2)
      obtain ⟨r, er⟩ := get_lt hg
      walk_at "y"
      refine ⟨_, rfl, .inl ⟨?_, ?_⟩⟩
      · rw [adr_ad hg, ad_at er]
        exact (ga.f.same (s2.trans s0)).isF er
      · walk_at "y"
        exact ⟨s0, _, rfl⟩
  obtain ⟨s3, x3, rfl⟩ := hj
  have s03 := s2.trans s3
  walk_at "y"
  refine lc_b true ?_
  walk_at "y"
  refine ⟨_, rfl, b, p, es, rfl, lg.same s03, fun D1 H4 hD1 s4 e4 => ?_⟩
  have fl := flawsOf_len es
  have hel : es.length ≤ 16 := lg.choose_spec.2.2.2
  have s04 := s03.trans s4
  refine ⟨D1, rfl, ⟨_, SqL.of e4⟩, lc_pure (walk_b (b := true) (xs := (flawsOf es).map V.int)) (by rw [List.length_map]; exact Nat.le_of_lt (Nat.lt_of_le_of_lt (show (flawsOf es).length ≤ 100 by omega) (sz4 (n := 101)))) (fun i => ((flawsOf es)[i]?).bind fun n => some (("flaw" : Str), n)) (firm_TR rowV) (fun H' s => s _ _ e4) (fun i H0 x H1 y => by obtain ⟨rfl, _⟩ := y; exact Same.refl _) (fun i x H0 H5 hi s0 s5 y N C hC hN => ?_) fun D H5 vs hD s5 h5 pr => ?_⟩
  · obtain ⟨rfl, e1⟩ := y
    rw [List.getElem?_map] at e1
    cases e2 : (flawsOf es)[i]? with
    | none => rw [e2] at e1; cases e1
    | some n =>
      rw [e2] at e1
      cases e1
      walk_at "y"
      refine ⟨rfl, ?_⟩
      walk_at "y"
      refine ⟨sz4 (by simp), fun T2 nT2 => ?_⟩
      have sH6 := same_upd (H := H5) (o := .tup [.str "flaw", .int n]) nT2
      have eT2 := upd_same (H := H5) (a := T2) (o := .tup [.str "flaw", .int n])
      generalize upd H5 T2 (.tup [.str "flaw", .int n]) = H6 at sH6 eT2 ⊢
      exact hC _ _ (("flaw" : Str), n) sH6 (by rw [e2]; rfl) ⟨T2, rfl, eT2⟩
  rw [List.length_map, filterMap_ix, show (fun n : Int => some (("flaw" : Str), n)) = some ∘ (fun n => (("flaw" : Str), n)) from rfl, List.filterMap_eq_map] at pr
  have hD0 : H D = none := s04.free hD
  have s05 := s04.trans s5
  walk_at "y"
  refine for_eb b2 ?_
  walk_at "y"
  refine ⟨q, _, rfl, SqB.of (s05 _ _ ga.at_), for_it (walk_eb (b := b2)) (Pv := fun j σ H' => Same H H' ∧ (∃ x y, σ = [some (.ref p), some (.ref q), x, y, some (.ref D)]) ∧ ∃ vs, H' D = some (.lst vs) ∧ Paired (TR rowV H') vs ((flawsOf es).map (fun n => (("flaw" : Str), n)) ++ auRows es fs gs j)) ⟨s05, ⟨_, _, rfl⟩, vs, h5, by rw [show auRows es fs gs 0 = [] from rfl, List.append_nil]; exact pr⟩ (fun j σ H' _ hj => hj.1 _ _ ga.at_) (fun j x σ H0 H' hi hj y => ?_) fun σ H' hj => ?_⟩
  rotate_left
  · obtain ⟨sE, ⟨x, y, rfl⟩, vs', hv, pv⟩ := hj
    walk_at "y"
    rw [List.length_map] at pv
    exact qq D H' vs' hD0 sE hv pv
  obtain ⟨s0, ⟨x0, y0, rfl⟩, vs', hv, pv⟩ := hj
  obtain ⟨tt, v1, v2, rfl, ht, rfl, e1, e2⟩ := y
  cases e1
  replace e2 : (gs.map (adr fs))[j]? = some v2 := e2
  rw [List.getElem?_map] at e2
  cases e3 : gs[j]? with
  | none => rw [e3] at e2; cases e2
  | some g =>
  rw [e3] at e2
  cases e2
  have hg := ga.lt g (List.mem_of_getElem? e3)
  obtain ⟨r, er⟩ := get_lt hg
  rw [adr_ad hg, ad_at er]
  have sY := same_upd (o := .tup [.int j, .ref r.a]) ht
  refine gTup_i (SqT.of upd_same) ?_
  have sHY := s0.trans sY
  have hvY := sY _ _ hv
  have pvY := (firm_TR rowV).all (sT sY) pv
  generalize upd H0 tt (.tup [.int j, .ref r.a]) = H6 at *
  have rl := auRows_len (es := es) (fs := fs) (gs := gs) j
  have hj20 : j < 20 := by rw [List.length_map] at hi; have := ga.gl; omega
  have bnd : ∀ {vs : List V} {rows : List Row} {H : Hp}, Paired (TR rowV H) vs rows → rows.length ≤ 80 → vs.length < sizeLine := fun pr h => by
    rw [pr.length]
    exact Nat.lt_of_le_of_lt h (Nat.lt_of_lt_of_le (by decide) (sz4 (n := 101)))
  let J : List Row → L2.St → Hp → Prop := fun rows σ H' => Same H H' ∧ σ = [some (.ref p), some (.ref q), some (.ref r.a), some (.int j), some (.ref D)] ∧ ∃ vs, H' D = some (.lst vs) ∧ Paired (TR rowV H') vs rows
  let r0 := (flawsOf es).map (fun n => (("flaw" : Str), n)) ++ auRows es fs gs j
  have hr0 : r0.length ≤ 70 := by
    show ((flawsOf es).map (fun n => (("flaw" : Str), n)) ++ auRows es fs gs j).length ≤ 70
    rw [List.length_append, List.length_map]; omega
  let r1 := r0 ++ (if g = j then [] else [(("number" : Str), (j : Int))])
  have hr1 : r1.length ≤ 71 := by
    show (r0 ++ _).length ≤ 71
    rw [List.length_append]; split <;> simp <;> omega
  let r2 := r1 ++ (if Ev.fa j (kOf fs g) (lOf fs g) ∈ es then [] else [(("event" : Str), (j : Int))])
  have step : ∀ {rows : List Row} {row : Row} {H6 H7 : Hp} {T2 : Addr} {vs : List V}, Same H H6 → H6 D = some (.lst vs) → Paired (TR rowV H6) vs rows → H6 T2 = some (.tup (rowV row)) → H7 D = some (.lst (vs ++ [.ref T2])) → (∀ b, b ≠ D → H7 b = H6 b) → Same H H7 ∧ ∃ vs, H7 D = some (.lst vs) ∧ Paired (TR rowV H7) vs (rows ++ [row]) := fun {rows row H6 H7 T2 vs} s hv pv ht h7 u7 => by
    have sT7 : SameT H6 H7 := fun b o e n => by rw [u7 b fun z => by rw [z, hv] at e; exact n _ (Option.some.inj e).symm]; exact e
    exact ⟨fun b o e => by rw [u7 b (ne_of_none e hD0)]; exact s _ _ e, _, h7, paired_append ((firm_TR rowV).all sT7 pv) (.cons ⟨T2, rfl, sT7 _ _ ht fun _ z => nomatch z⟩ .nil)⟩
  iterate 6 walk_at "y2"
  refine nx_abs (J r1) (fun σ7 H7 m7 => ?_) (fun R hR => ?_)
  rotate_left
  · walk_at "y"
    have hx := (ga.f.same sHY).at_ g r er
    refine spFld_i hx frow_n ?_
    walk_at "y"
    by_cases c : g = j
    · walk_at "y"
      exact hR _ _ ⟨sHY, rfl, vs', hvY, by show Paired _ _ (r0 ++ _); rw [if_pos c, List.append_nil]; exact pvY⟩
    · walk_at "y"
      refine ⟨.inl ⟨rfl, _, SqL.of hvY⟩, ?_⟩
      walk_at "y"
      refine ⟨sz4 (by simp), fun T2 nT2 => ?_⟩
      have sH7 := same_upd (H := H6) (o := .tup [.str "number", .int j]) nT2
      have eT2 := upd_same (H := H6) (a := T2) (o := .tup [.str "number", .int j])
      generalize upd H6 T2 (.tup [.str "number", .int j]) = H7 at sH7 eT2 ⊢
      have hv7 := sH7 _ _ hvY
      have pv7 := (firm_TR rowV).all (sT sH7) pvY
      walk_at "y"
      refine appU_i hv7 (bnd pv7 (show r0.length ≤ 80 by omega)) fun H8 h8 u8 => ?_
      obtain ⟨s8, q8⟩ := step (row := (("number" : Str), (j : Int))) (sHY.trans sH7) hv7 pv7 eT2 h8 u8
      exact hR _ _ ⟨s8, rfl, by show ∃ vs, _ ∧ Paired _ vs (r0 ++ _); rw [if_neg c]; exact q8⟩
  obtain ⟨s7, rfl, vs7, hv7, pv7⟩ := m7
  refine tSeq_i ?_
  refine nx_abs (J r2) (fun σ8 H8 m8 => ?_) (fun R hR => ?_)
  rotate_left
  · walk_at "y"
    have hx := (ga.f.same s7).at_ g r er
    refine spFld_i hx frow_k ?_
    walk_at "y"
    refine spFld_i hx frow_l ?_
    walk_at "y"
    refine ⟨sz4 (by simp), fun T3 nT3 => ?_⟩
    have sH8 := same_upd (H := H7) (o := .tup [.str "fault", .int j, .str r.k, .str r.l]) nT3
    have eT3 := upd_same (H := H7) (a := T3) (o := .tup [.str "fault", .int j, .str r.k, .str r.l])
    generalize upd H7 T3 (.tup [.str "fault", .int j, .str r.k, .str r.l]) = H8 at sH8 eT3 ⊢
    replace eT3 : H8 T3 = some (.tup (Ev.fa j r.k r.l).xs) := eT3
    have kl := ga.kl r (List.mem_of_getElem? er)
    have s8 := s7.trans sH8
    have hv8 := sH8 _ _ hv7
    have pv8 := (firm_TR rowV).all (sT sH8) pv7
    obtain ⟨lvs, l1, l2, lok, ll⟩ := lg.same s8
    have dpt := dp_tup (K := K) (SqT.of eT3) (Ev.pl _)
    have smt := (sm_tup (Ev.sm (e := .fa j r.k r.l) ⟨⟨by show (0 : Int) ≤ j; omega, by show (j : Int) ≤ 1000; omega⟩, kl⟩)).shaped
    walk_at "y"
    refine notin_log l1 l2 lok dpt smt ?_
    rw [any_fa]
    have ek : kOf fs g = r.k := by unfold kOf; rw [er]; rfl
    have el : lOf fs g = r.l := by unfold lOf; rw [er]; rfl
    by_cases c : Ev.fa j r.k r.l ∈ es
    · rw [decide_eq_true c]
      walk_at "y"
      exact hR _ _ ⟨s8, rfl, vs7, hv8, by show Paired _ _ (r1 ++ _); rw [ek, el, if_pos c, List.append_nil]; exact pv8⟩
    · rw [decide_eq_false c]
      walk_at "y"
      refine ⟨.inl ⟨rfl, _, SqL.of hv8⟩, ?_⟩
      walk_at "y"
      refine ⟨sz4 (by simp), fun T4 nT4 => ?_⟩
      have sH9 := same_upd (H := H8) (o := .tup [.str "event", .int j]) nT4
      have eT4 := upd_same (H := H8) (a := T4) (o := .tup [.str "event", .int j])
      generalize upd H8 T4 (.tup [.str "event", .int j]) = H9 at sH9 eT4 ⊢
      have hv9 := sH9 _ _ hv8
      have pv9 := (firm_TR rowV).all (sT sH9) pv8
      walk_at "y"
      refine appU_i hv9 (bnd pv9 (show r1.length ≤ 80 by omega)) fun HA hA uA => ?_
      obtain ⟨sA, qA⟩ := step (row := (("event" : Str), (j : Int))) (s8.trans sH9) hv9 pv9 eT4 hA uA
      exact hR _ _ ⟨sA, rfl, by show ∃ vs, _ ∧ Paired _ vs (r1 ++ _); rw [ek, el, if_neg c]; exact qA⟩
  obtain ⟨s8, rfl, vs8, hv8, pv8⟩ := m8
  walk_at "y"
  refine ⟨_, _, rfl, .inl ⟨fs, g, true, ga.f.same s8, by have := ga.fl; omega, hg, ?_, rfl, fun D2 H9 hD2 s9 h9 => ?_⟩⟩
  · rw [adr_ad hg, ad_at er]
  rw [show nxOf true fs = ctxOf fs from rfl, cycOf_acyc ac] at h9
  walk_at "y"
  refine ⟨sz4 (by simp), fun D3 nD3 => ?_⟩
  have sHA := same_upd (H := H9) (o := .lst []) nD3
  have eD3 := upd_same (H := H9) (a := D3) (o := .lst [])
  generalize upd H9 D3 (.lst []) = HA at sHA eD3 ⊢
  refine rNe2_d (dp_ints (ns := []) (sHA _ _ h9)) (dp_ints (ns := []) eD3) (by decide +kernel) (by decide +kernel) ?_
  walk_at "y"
  have s9A := (s8.trans s9).trans sHA
  refine ⟨s9A, ⟨_, _, rfl⟩, vs8, (s9.trans sHA) _ _ hv8, ?_⟩
  rw [auRows_succ e3]
  have pvA := (firm_TR rowV).all (sT (s9.trans sHA)) pv8
  show Paired _ _ (_ ++ (_ ++ ((if g = j then [] else _) ++ _)))
  rw [← List.append_assoc, ← List.append_assoc]
  exact pvA
end

end L77
namespace L77
open PySem PySem.Spec PyProof.Rows L2
variable {gd : Bool}
local macro_rules | `(tactic| walk_at "y1") => `(tactic| with_reducible first
  | refine tSeq_i ?_ | refine tAsg_i ?_ | refine tCons_i ?_ | refine tNil_i ?_ | refine tC_i ?_ | refine tOp_i ?_ | refine tIfS_i ?_ | refine tTest_i ?_ | refine exBl_i ?_ | refine tRet_i ?_ | refine tCall_i ?_
  | refine tCB_i ?_ | refine tLst_i ?_ | refine tTup_i ?_ | refine rI0_i ?_ | refine tDrop_i ?_ | refine tNext_i ?_ | refine tB_i ?_ | refine tAnd_i ?_ | refine tOr_i ?_ | refine tNot_i ?_ | refine tAndV_i ?_ | refine tOrV_i ?_ | refine tNotV_i ?_
  | refine tYes_i ?_ | refine tTM_i ?_ | refine tPar_i ?_ | refine tSl_i ?_ | refine tNoPart_i ?_ | refine tPart_i ?_ | refine part_i ?_ | refine tMake_i ?_ | refine tProp_i ?_ | refine tCallOG_i ?_ | refine tVeI_i ?_ | refine tOst_i ?_ | refine tMkO_i ?_ | refine sFld_i ?_ | refine fldaug_i ?_ | refine gCons_i ?_ | refine gNil_i ?_ | refine tChain_i ?_ | refine tBM_i ?_ | refine rAdd2_i ?_ | refine rLe2_i ?_ | refine rEq2_i ?_ | refine rEq2_ss ?_ | refine rNe2_i ?_ | refine rNe2_ss ?_ | refine rIsN_i ?_ | refine rNotN_i ?_ | refine tTup_i2 ?_ | refine tIf_i ?_ | refine tUn_i ?_ | refine tDGet_i ?_ | refine sDPut_i ?_ | refine tFld_i ?_ | refine tRetN_i ?_ | refine tBreak_i ?_ | refine tCont_i ?_ | refine rU_i ?_)
local macro_rules | `(tactic| walk_at "yhead") => `(tactic| dsimp only [L2.start, List.map, List.length_cons, List.length_nil, Nat.reduceAdd, Nat.reduceSub, List.replicate, List.cons_append, List.nil_append])
local macro_rules | `(tactic| walk_at "y2") => `(tactic| first
  | walk_at "y1"
  | ((with_reducible refine tVar_i (v := ?v) ?h ?q); (case h => rfl))
  | ((with_reducible refine gName_i ?_); (dsimp only [L2.wipe, List.set]))
  | with_reducible refine iteT ?_ | with_reducible refine iteF ?_ | with_reducible refine iteNT ?_ | with_reducible refine iteNF ?_
  | ((with_reducible refine iteDT ?h ?q); (case h => first | decide +kernel | omega | assumption | exact nv1 | exact nv2 | exact nv3 | exact nv4)) | ((with_reducible refine iteDF ?h ?q); (case h => first | decide +kernel | omega | assumption | exact nv1 | exact nv2 | exact nv3 | exact nv4))
  | ((with_reducible refine iteNDT ?h ?q); (case h => first | decide +kernel | omega | assumption | exact nv1 | exact nv2 | exact nv3 | exact nv4)) | ((with_reducible refine iteNDF ?h ?q); (case h => first | decide +kernel | omega | assumption | exact nv1 | exact nv2 | exact nv3 | exact nv4))
  | ((with_reducible refine rIsi2_1 (T := ?T) (b := true) ?ty ?h ?q); (case ty => first | exact ty_str | exact ty_int | exact ty_bl | exact ty_non); (case h => decide +kernel))
  | ((with_reducible refine rIsi2_1 (T := ?T) (b := false) ?ty ?h ?q); (case ty => first | exact ty_str | exact ty_int | exact ty_bl | exact ty_non); (case h => decide +kernel))
  | ((with_reducible refine rEq2_s ?h ?q); (case h => rfl)) | ((with_reducible refine rNe2_s ?h ?q); (case h => rfl))
  | ((with_reducible refine rEq_i ?h ?q); (case h => rfl)) | ((with_reducible refine rNe_i ?h ?q); (case h => rfl)))
local macro_rules | `(tactic| walk_at "y") => `(tactic| repeat walk_at "y2")

section
variable {K : PySem.W.Frag} {σ : L2.St} {H : Hp} {a : Addr} {v y : V} {Q : VK}
theorem tPairs_c {tk tv : TE} {r : List (TE × TE)} {Q : List (V × V) → Hp → Prop} (q : tk σ H fun x H1 => tv σ H1 fun y H2 => tPairs r σ H2 fun ps H3 => Q ((x, y) :: ps) H3) : tPairs ((tk, tv) :: r) σ H Q := q
theorem tPairs_n {Q : List (V × V) → Hp → Prop} (q : Q [] H) : tPairs [] σ H Q := q
theorem dputU_i {N : L2.St → Hp → Prop} {kvs kvs' : List (Key × V)} {k : Key} (h : H a = some (.dK kvs)) (hy : y = kV k) (hl : kvs.length < sizeLine) (e : putK kvs k v = kvs') (q : ∀ H2, H2 a = some (.dK kvs') → (∀ b, b ≠ a → H2 b = H b) → N σ H2) : ∃ a' H4, V.ref a = .ref a' ∧ DPut H a' y v H4 ∧ N σ H4 :=
  dput_i h hy hl (q _ (by rw [upd_same, e]) fun b nb => upd_ne nb)
end
section
variable {P : Program} {w : World} {K : PySem.W.Frag} {mg : Str → Option Value} {base : Heap}
def spMixed : Sp := sp2 fun x y H Q _ => ∃ (c k : Int), x = .int c ∧ y = .int k ∧ 0 ≤ k ∧ k < 1000000000 ∧ ∀ (r : Int) (H' : Hp), 0 ≤ r → r < 2147483647 → Same H H' → Q (.int r) H'
theorem sc__law_mixed : FnScope ["_law_cell", "_law_k", "_law_number"] ["_law_cell", "_law_k"] (defScope (top 37)) := ⟨rfl, rfl, rfl, by decide +kernel, rfl, by decide +kernel, by decide +kernel⟩
theorem c__law_mixed (T : Sy K mg) : Cal gd P w K mg base CX0 1 "_law_mixed" spMixed := by
  refine T.cal (F_law_mixed T) sc__law_mixed sp2_len (fun cdv f A outer s H vs Q E z h => ?_) (fun _ _ _ _ _ _ us hl => match us, hl with | [_, _], _ => rfl)
  have hu1 := hu_1 z; have hu2 := hu_2 z; have hu3 := hu_3 z
  obtain ⟨x0, x1, rfl, h⟩ := h
  obtain ⟨c, k, rfl, rfl, k0, k1, q⟩ := h
  refine ⟨_, (pss_cons (ps_set (i := 2) sc__law_mixed.nd rfl (by first | exact Or.inl rfl | exact Or.inr rfl) (pe_op (r := rAdd2 K) op_add2 (pe_op (r := rAdd2 K) op_add2 (pe_op op_mod (pv 0) (pe_ix (r := rGet K) (ix_get hu3) (pe_lst (pa_cons pe_int (pa_cons pe_int (pa_cons pe_int (pa_cons pe_int pa_nil))))) (pe_op op_mod (pv 1) pe_int) (fun _ _ => rfl))) (pe_op (r := rMul2 K) op_mul2 pe_int (pv 1))) pe_int)) (pss_one (ps_ret (pe_op op_mod (pe_op (r := rMul2 K) op_mul2 (pe_op op_mod (pe_op (r := rMul2 K) op_mul2 (pv 2) (pv 2)) pe_int) pe_int) pe_int)))), ?_⟩
  walk_at "yhead"; walk_at "y"
  refine ⟨sz4 (by simp), fun D nD => ?_⟩
  have sH2 := same_upd (H := H) (o := .lst [.int 1000000007, .int 998244353, .int 2147483629, .int 1000000009]) nD
  have eD := upd_same (H := H) (a := D) (o := .lst [.int 1000000007, .int 998244353, .int 2147483629, .int 1000000009])
  generalize upd H D (.lst [.int 1000000007, .int 998244353, .int 2147483629, .int 1000000009]) = H2 at sH2 eD ⊢
  walk_at "y"
  refine rI_i (show (0 : Int) < 4 by decide) ?_
  have m0 := Int.emod_nonneg k (show (4 : Int) ≠ 0 by decide)
  have m1 := Int.emod_lt_of_pos k (show (0 : Int) < 4 by decide)
  rcases (show k % 4 = 0 ∨ k % 4 = 1 ∨ k % 4 = 2 ∨ k % 4 = 3 by omega) with e | e | e | e <;> rw [e]
  · refine rGet_l (n := 0) (SqL.of eD) rfl ?_
    refine rI_i (show (0 : Int) < 1000000007 by decide) ?_
    walk_at "y"
    refine rMul2_i (.inl ⟨by decide, by decide⟩) ?_
    walk_at "y"
    have q1 := Int.emod_nonneg c (show (1000000007 : Int) ≠ 0 by decide)
    have q2 := Int.emod_lt_of_pos c (show (0 : Int) < 1000000007 by decide)
    generalize he : c % 1000000007 + 7919 * k + 13 = e
    have b1 : 0 ≤ e ∧ e < 100000000000000 := by omega
    refine rMul2_i (.inl ⟨by omega, by omega⟩) ?_
    walk_at "y"
    refine rI_i (show (0 : Int) < 2147483647 by decide) ?_
    walk_at "y"
    have q3 := Int.emod_nonneg (e * e) (show (2147483647 : Int) ≠ 0 by decide)
    have q4 := Int.emod_lt_of_pos (e * e) (show (0 : Int) < 2147483647 by decide)
    refine rMul2_i (.inl ⟨by omega, by omega⟩) ?_
    walk_at "y"
    refine rI_i (show (0 : Int) < 2147483647 by decide) ?_
    exact q _ _ (Int.emod_nonneg _ (by decide)) (Int.emod_lt_of_pos _ (by decide)) sH2
  · refine rGet_l (n := 1) (SqL.of eD) rfl ?_
    refine rI_i (show (0 : Int) < 998244353 by decide) ?_
    walk_at "y"
    refine rMul2_i (.inl ⟨by decide, by decide⟩) ?_
    walk_at "y"
    have q1 := Int.emod_nonneg c (show (998244353 : Int) ≠ 0 by decide)
    have q2 := Int.emod_lt_of_pos c (show (0 : Int) < 998244353 by decide)
    generalize he : c % 998244353 + 7919 * k + 13 = e
    have b1 : 0 ≤ e ∧ e < 100000000000000 := by omega
    refine rMul2_i (.inl ⟨by omega, by omega⟩) ?_
    walk_at "y"
    refine rI_i (show (0 : Int) < 2147483647 by decide) ?_
    walk_at "y"
    have q3 := Int.emod_nonneg (e * e) (show (2147483647 : Int) ≠ 0 by decide)
    have q4 := Int.emod_lt_of_pos (e * e) (show (0 : Int) < 2147483647 by decide)
    refine rMul2_i (.inl ⟨by omega, by omega⟩) ?_
    walk_at "y"
    refine rI_i (show (0 : Int) < 2147483647 by decide) ?_
    exact q _ _ (Int.emod_nonneg _ (by decide)) (Int.emod_lt_of_pos _ (by decide)) sH2
  · refine rGet_l (n := 2) (SqL.of eD) rfl ?_
    refine rI_i (show (0 : Int) < 2147483629 by decide) ?_
    walk_at "y"
    refine rMul2_i (.inl ⟨by decide, by decide⟩) ?_
    walk_at "y"
    have q1 := Int.emod_nonneg c (show (2147483629 : Int) ≠ 0 by decide)
    have q2 := Int.emod_lt_of_pos c (show (0 : Int) < 2147483629 by decide)
    generalize he : c % 2147483629 + 7919 * k + 13 = e
    have b1 : 0 ≤ e ∧ e < 100000000000000 := by omega
    refine rMul2_i (.inl ⟨by omega, by omega⟩) ?_
    walk_at "y"
    refine rI_i (show (0 : Int) < 2147483647 by decide) ?_
    walk_at "y"
    have q3 := Int.emod_nonneg (e * e) (show (2147483647 : Int) ≠ 0 by decide)
    have q4 := Int.emod_lt_of_pos (e * e) (show (0 : Int) < 2147483647 by decide)
    refine rMul2_i (.inl ⟨by omega, by omega⟩) ?_
    walk_at "y"
    refine rI_i (show (0 : Int) < 2147483647 by decide) ?_
    exact q _ _ (Int.emod_nonneg _ (by decide)) (Int.emod_lt_of_pos _ (by decide)) sH2
  · refine rGet_l (n := 3) (SqL.of eD) rfl ?_
    refine rI_i (show (0 : Int) < 1000000009 by decide) ?_
    walk_at "y"
    refine rMul2_i (.inl ⟨by decide, by decide⟩) ?_
    walk_at "y"
    have q1 := Int.emod_nonneg c (show (1000000009 : Int) ≠ 0 by decide)
    have q2 := Int.emod_lt_of_pos c (show (0 : Int) < 1000000009 by decide)
    generalize he : c % 1000000009 + 7919 * k + 13 = e
    have b1 : 0 ≤ e ∧ e < 100000000000000 := by omega
    refine rMul2_i (.inl ⟨by omega, by omega⟩) ?_
    walk_at "y"
    refine rI_i (show (0 : Int) < 2147483647 by decide) ?_
    walk_at "y"
    have q3 := Int.emod_nonneg (e * e) (show (2147483647 : Int) ≠ 0 by decide)
    have q4 := Int.emod_lt_of_pos (e * e) (show (0 : Int) < 2147483647 by decide)
    refine rMul2_i (.inl ⟨by omega, by omega⟩) ?_
    walk_at "y"
    refine rI_i (show (0 : Int) < 2147483647 by decide) ?_
    exact q _ _ (Int.emod_nonneg _ (by decide)) (Int.emod_lt_of_pos _ (by decide)) sH2
/-- the law's state -/
def stK (L c t : Int) : List (Key × V) := [(Sum.inr "left", .int L), (Sum.inr "cell", .int c), (Sum.inr "turns", .int t)]
def spDraw : Sp := sp2 fun x y H Q _ => ∃ (c k : Int), x = .int c ∧ y = .int k ∧ 0 ≤ k ∧ k < 1000000 ∧ ∀ p L H', 0 ≤ L → H p = none → Same H H' → H' p = some (.dK (stK L c (1000 * k))) → Q (.ref p) H'
theorem sc__law_draw : FnScope ["_law_cell", "_law_k"] ["_law_cell", "_law_k"] (defScope (top 38)) := ⟨rfl, rfl, rfl, by decide +kernel, rfl, by decide +kernel, by decide +kernel⟩
theorem c__law_draw (T : Sy K mg) : Cal gd P w K mg base CX0 1 "_law_draw" spDraw := by
  refine T.cal (F_law_draw T) sc__law_draw sp2_len (fun cdv f A outer s H vs Q E z h => ?_) (fun _ _ _ _ _ _ us hl => match us, hl with | [_, _], _ => rfl)
  have hu1 := hu_1 z; have hu2 := hu_2 z; have hu3 := hu_3 z
  obtain ⟨x0, x1, rfl, h⟩ := h
  obtain ⟨c, k, rfl, rfl, k0, k1, q⟩ := h
  refine ⟨_, (pss_one (ps_ret (pe_disp (pps_cons pe_str (pe_ifExp (pt_cmpR op_ge (pv 0) (pe_op op_pow pe_int pe_int) (nomark _)) (pv 0) pe_int) (pps_cons pe_str (pv 0) (pps_cons pe_str (pe_op (r := rMul2 K) op_mul2 pe_int (pv 1)) pps_nil))) (by rfl) (by rfl) (fun z => by cases z) (by decide)))), ?_⟩
  walk_at "yhead"; walk_at "y"
  intro p hp
  refine tPairs_c ?_
  walk_at "y"
  refine rI_i ⟨by decide, by decide, by decide⟩ ?_
  walk_at "y"
  have fin : ∀ L : Int, 0 ≤ L → tPairs [(tC (.str "cell"), tVar 0), (tC (.str "turns"), tOp (rMul2 K) (tC (.int 1000)) (tVar 1))] [some (.int c), some (.int k)] (upd H p (.dK [])) fun ps H2 => H2 p = some (.dK []) ∧ ∃ kvs : List (Key × V), (V.str "left", V.int L) :: ps = kvs.map (fun kv => (kV kv.1, kv.2)) ∧ kvs.length ≤ 15 ∧ Q (.ref p) (upd H2 p (.dK (mergeK [] kvs))) := fun L hL => by
    refine tPairs_c ?_
    walk_at "y"
    refine tPairs_c ?_
    walk_at "y"
    refine rMul2_i (.inl ⟨by decide, by decide⟩) ?_
    refine tPairs_n ?_
    refine ⟨upd_same, stK L c (1000 * k), rfl, by show 3 ≤ 15; decide, ?_⟩
    rw [show mergeK [] (stK L c (1000 * k)) = stK L c (1000 * k) by kernel_rfl, upd_upd]
    exact q p L _ hL hp (same_upd hp) upd_same
  by_cases hc : (10 : Int) ^ (18 : Int).toNat ≤ c
  · walk_at "y"
    exact fin c (Int.le_trans (by decide) hc)
  · walk_at "y"
    exact fin 0 (Int.le_refl _)
def spDigit : Sp := sp2 fun sv zv H Q _ => ∃ p L c t z, sv = .ref p ∧ zv = .int z ∧ H p = some (.dK (stK L c t)) ∧ 0 ≤ L ∧ 0 ≤ t ∧ t < 100000000 ∧ 1 ≤ z ∧ z ≤ 17 ∧
  ∀ d L' t' H', 0 ≤ d → d < z → 0 ≤ L' → t ≤ t' → t' ≤ t + 4 → (∀ b o, H b = some o → b ≠ p → H' b = some o) → H' p = some (.dK (stK L' c t')) → Q (.int d) H'
theorem sc__law_digit : FnScope ["_law_state", "_law_size", "_law_j", "_law_found"] ["_law_state", "_law_size"] (defScope (top 39)) := ⟨rfl, rfl, rfl, by decide +kernel, rfl, by decide +kernel, by decide +kernel⟩
theorem c__law_digit (T : Sy K mg) : Cal gd P w K mg base CX0 2 "_law_digit" spDigit := by
  refine T.cal (F_law_digit T) sc__law_digit sp2_len (fun cdv f A outer s H vs Q E z h => ?_) (fun _ _ _ _ _ _ us hl => match us, hl with | [_, _], _ => rfl)
  have hu1 := hu_1 z; have hu2 := hu_2 z; have hu3 := hu_3 z
  obtain ⟨x0, x1, rfl, h⟩ := h
  obtain ⟨p, L, c, t, n, rfl, rfl, hp, L0, t0, t1, n0, n1, q⟩ := h
  refine ⟨_, (pss_cons (ps_if (pt_cmpR (r := rEq2 K) (op_eq2 hu1) (pe_ix (r := rGet K) (ix_get hu3) (pv 0) pe_str (fun _ _ => rfl)) pe_int (nomark _)) (pss_one (ps_for PassesOwn.never (by rfl) (pi_range1 (by rfl) (T.free "range") (pa_cons pe_int pa_nil)) (pg_name (i := 2) sc__law_digit.nd rfl (by first | exact Or.inl rfl | exact Or.inr rfl)) (pss_cons (ps_dput hu3 (pv 0) pe_str (pe_op (r := rAdd2 K) op_add2 (pe_ix (r := rGet K) (ix_get hu3) (pv 0) pe_str (fun _ _ => rfl)) pe_int) rfl) (pss_one (ps_dput hu3 (pv 0) pe_str (pe_op (r := rAdd2 K) op_add2 (pe_op (r := rMul2 K) op_mul2 (pe_ix (r := rGet K) (ix_get hu3) (pv 0) pe_str (fun _ _ => rfl)) pe_int) (pe_c (c__law_mixed T) z (pa_cons (pe_ix (r := rGet K) (ix_get hu3) (pv 0) pe_str (fun _ _ => rfl)) (pa_cons (pe_ix (r := rGet K) (ix_get hu3) (pv 0) pe_str (fun _ _ => rfl)) pa_nil)))) rfl))))) pss_nil) (pss_cons (ps_set (i := 3) sc__law_digit.nd rfl (by first | exact Or.inl rfl | exact Or.inr rfl) (pe_op op_mod (pe_ix (r := rGet K) (ix_get hu3) (pv 0) pe_str (fun _ _ => rfl)) (pv 1))) (pss_cons (ps_dput hu3 (pv 0) pe_str (pe_op op_fdiv (pe_ix (r := rGet K) (ix_get hu3) (pv 0) pe_str (fun _ _ => rfl)) (pv 1)) rfl) (pss_one (ps_ret (pv 3)))))), ?_⟩
  walk_at "yhead"; walk_at "y"
  refine rGet_d (k := Sum.inr "left") (v := .int L) hp (by kernel_rfl) ?_
  walk_at "y"
  -- what follows the refill
  have fin : ∀ (L' t' : Int) (H' : Hp) (j f : Option V), 0 ≤ L' → t ≤ t' → t' ≤ t + 4 → (∀ b o, H b = some o → b ≠ p → H' b = some o) → H' p = some (.dK (stK L' c t')) →
      tSeq (tAsg (tOp (rI (fun _ j => 0 < j) fun i j => .int (i % j)) (tOp (rGet K) (tVar 0) (tC (.str "left"))) (tVar 1)) (gName 3)) (tSeq (sDPut (tVar 0) (tC (.str "left")) (tOp (rI CDiv fun i j => .int (i / j)) (tOp (rGet K) (tVar 0) (tC (.str "left"))) (tVar 1))) (tRet (tVar 3))) { nx := fun _ H' => Q .non H', rt := Q } [some (.ref p), some (.int n), j, f] H' := fun L' t' H' j f h1 h2 h3 off hp' => by
    walk_at "y"
    refine rGet_d (k := Sum.inr "left") (v := .int L') hp' (by kernel_rfl) ?_
    walk_at "y"
    refine rI_i (show (0 : Int) < n by omega) ?_
    walk_at "y"
    refine rGet_d (k := Sum.inr "left") (v := .int L') hp' (by kernel_rfl) ?_
    walk_at "y"
    refine rI_i ⟨by omega, by omega⟩ ?_
    walk_at "y"
    refine dputU_i (kvs' := stK (L' / n) c t') hp' (k := Sum.inr "left") rfl (Nat.lt_of_lt_of_le (show 3 < 17 by decide) (sz4 (n := 17))) (by kernel_rfl) fun H2 k2 u2 => ?_
    walk_at "y"
    exact q _ _ _ H2 (Int.emod_nonneg _ (by omega)) (Int.emod_lt_of_pos _ (by omega)) (Int.ediv_nonneg h1 (by omega)) h2 h3 (fun b o e nb => (u2 b nb).trans (off b o e nb)) k2
  by_cases hL : L = 0
  · walk_at "y"
    refine for_r1 ?_
    walk_at "y"
    refine ⟨4, rfl, by decide, by decide, for_it walk_range (Pv := fun i σ H' => ∃ L' j, σ = [some (.ref p), some (.int n), j, none] ∧ 0 ≤ L' ∧ (∀ b o, H b = some o → b ≠ p → H' b = some o) ∧ H' p = some (.dK (stK L' c (t + (i : Nat))))) ⟨L, none, rfl, L0, fun b o e _ => e, by simpa using hp⟩ (fun _ _ _ _ _ => trivial) (fun i x σ H2 H3 hi hp y => ?_) fun σ H' hp => ?_⟩
    · obtain ⟨L', j, rfl, h0, off, hp2⟩ := hp
      obtain ⟨rfl, rfl⟩ := y
      have i4 : i < 4 := hi
      walk_at "y"
      refine rGet_d (k := Sum.inr "turns") (v := .int (t + (i : Nat))) hp2 (by kernel_rfl) ?_
      walk_at "y"
      refine dputU_i (kvs' := stK L' c (t + (i : Nat) + 1)) hp2 (k := Sum.inr "turns") rfl (Nat.lt_of_lt_of_le (show 3 < 17 by decide) (sz4 (n := 17))) (by kernel_rfl) fun H3 k3 u3 => ?_
      walk_at "y"
      refine rGet_d (k := Sum.inr "left") (v := .int L') k3 (by kernel_rfl) ?_
      walk_at "y"
      refine rMul2_i (.inr ⟨by decide, by decide⟩) ?_
      walk_at "y"
      refine rGet_d (k := Sum.inr "cell") (v := .int c) k3 (by kernel_rfl) ?_
      walk_at "y"
      refine rGet_d (k := Sum.inr "turns") (v := .int (t + (i : Nat) + 1)) k3 (by kernel_rfl) ?_
      refine ⟨_, _, rfl, c, _, rfl, rfl, by omega, by omega, fun r H4 r0 r1 s4 => ?_⟩
      walk_at "y"
      have k4 := s4 _ _ k3
      refine dputU_i (kvs' := stK (L' * 2147483647 + r) c (t + (i : Nat) + 1)) k4 (k := Sum.inr "left") rfl (Nat.lt_of_lt_of_le (show 3 < 17 by decide) (sz4 (n := 17))) (by kernel_rfl) fun H5 k5 u5 => ?_
      walk_at "y"
      refine ⟨L' * 2147483647 + r, _, rfl, by omega, fun b o e nb => (u5 b nb).trans (s4 _ _ ((u3 b nb).trans (off b o e nb))), ?_⟩
      rw [k5, show t + ((i + 1 : Nat) : Int) = t + (i : Nat) + 1 by omega]
    · obtain ⟨L', j, rfl, h0, off, hp2⟩ := hp
      exact fin L' _ H' j none h0 (by omega) (by omega) off hp2
  · refine iteDF hL ?_
    exact fin L t H none none L0 (by omega) (by omega) (fun b o e _ => e) hp
end

end L77
namespace L77
open PySem PySem.Spec PyProof.Rows L2
variable {gd : Bool}
local macro_rules | `(tactic| walk_at "y1") => `(tactic| with_reducible first
  | refine tSeq_i ?_ | refine tAsg_i ?_ | refine tCons_i ?_ | refine tNil_i ?_ | refine tC_i ?_ | refine tOp_i ?_ | refine tIfS_i ?_ | refine tTest_i ?_ | refine exBl_i ?_ | refine tRet_i ?_ | refine tCall_i ?_
  | refine tCB_i ?_ | refine tLst_i ?_ | refine tTup_i ?_ | refine rI0_i ?_ | refine tDrop_i ?_ | refine tNext_i ?_ | refine tB_i ?_ | refine tAnd_i ?_ | refine tOr_i ?_ | refine tNot_i ?_ | refine tAndV_i ?_ | refine tOrV_i ?_ | refine tNotV_i ?_
  | refine tYes_i ?_ | refine tTM_i ?_ | refine tPar_i ?_ | refine tSl_i ?_ | refine tNoPart_i ?_ | refine tPart_i ?_ | refine part_i ?_ | refine tMake_i ?_ | refine tProp_i ?_ | refine tCallOG_i ?_ | refine tVeI_i ?_ | refine tOst_i ?_ | refine tMkO_i ?_ | refine sFld_i ?_ | refine fldaug_i ?_ | refine gCons_i ?_ | refine gNil_i ?_ | refine tChain_i ?_ | refine tBM_i ?_ | refine rAdd2_i ?_ | refine rLe2_i ?_ | refine rEq2_i ?_ | refine rEq2_ss ?_ | refine rNe2_i ?_ | refine rNe2_ss ?_ | refine rIsN_i ?_ | refine rNotN_i ?_ | refine tTup_i2 ?_ | refine tIf_i ?_ | refine tUn_i ?_ | refine tDGet_i ?_ | refine sDPut_i ?_ | refine tFld_i ?_ | refine tRetN_i ?_ | refine tBreak_i ?_ | refine tCont_i ?_ | refine rU_i ?_)
local macro_rules | `(tactic| walk_at "yhead") => `(tactic| dsimp only [L2.start, List.map, List.length_cons, List.length_nil, Nat.reduceAdd, Nat.reduceSub, List.replicate, List.cons_append, List.nil_append])
local macro_rules | `(tactic| walk_at "y2") => `(tactic| first
  | walk_at "y1"
  | ((with_reducible refine tVar_i (v := ?v) ?h ?q); (case h => rfl))
  | ((with_reducible refine gName_i ?_); (dsimp only [L2.wipe, List.set]))
  | with_reducible refine iteT ?_ | with_reducible refine iteF ?_ | with_reducible refine iteNT ?_ | with_reducible refine iteNF ?_
  | ((with_reducible refine iteDT ?h ?q); (case h => first | decide +kernel | omega | assumption | exact nv1 | exact nv2 | exact nv3 | exact nv4)) | ((with_reducible refine iteDF ?h ?q); (case h => first | decide +kernel | omega | assumption | exact nv1 | exact nv2 | exact nv3 | exact nv4))
  | ((with_reducible refine iteNDT ?h ?q); (case h => first | decide +kernel | omega | assumption | exact nv1 | exact nv2 | exact nv3 | exact nv4)) | ((with_reducible refine iteNDF ?h ?q); (case h => first | decide +kernel | omega | assumption | exact nv1 | exact nv2 | exact nv3 | exact nv4))
  | ((with_reducible refine rIsi2_1 (T := ?T) (b := true) ?ty ?h ?q); (case ty => first | exact ty_str | exact ty_int | exact ty_bl | exact ty_non); (case h => decide +kernel))
  | ((with_reducible refine rIsi2_1 (T := ?T) (b := false) ?ty ?h ?q); (case ty => first | exact ty_str | exact ty_int | exact ty_bl | exact ty_non); (case h => decide +kernel))
  | ((with_reducible refine rEq2_s ?h ?q); (case h => rfl)) | ((with_reducible refine rNe2_s ?h ?q); (case h => rfl))
  | ((with_reducible refine rEq_i ?h ?q); (case h => rfl)) | ((with_reducible refine rNe_i ?h ?q); (case h => rfl)))
local macro_rules | `(tactic| walk_at "y") => `(tactic| repeat walk_at "y2")

section
variable {X : Cx} {k j : Nat} {x : Str} {sp : Sp} {p pos : Pos} {e : Expr} {es : List Expr} {t : TA}
/-- a class made, with arguments -/
theorem pe_mkA {K : PySem.W.Frag} (hK : X.K = K) (c : Mak gd X.prog X.w K X.mg X.base CX0 k x sp) (z : RG gd j X.A) (ha : PA X (e :: es) t) (hk : k + 1 ≤ j := by decide) (hg : Gl X x := by rfl)
    (hdb : (x == ("__debug__" : Str)) = false := by decide) (he : starEach (e :: es) X.env = (false, eval e X.env) :: starEach es X.env := by rfl) (hpl : (backTo pos (starEach es X.env)).any (·.1) = false := by rfl) :
    PE X (.Call (.Name x p) (e :: es) [] pos) (tMake (He.ga K x) sp [] E0 t) := by
  subst hK
  obtain ⟨f, fd, ps, M, F, hm, b⟩ := c.ex
  exact pe_makeG M F (z.mono hk) hg hm b .nil pass0 ha hdb he hpl
end
section
variable {P : Program} {w : World} {K : PySem.W.Frag} {mg : Str → Option Value} {base : Heap}
theorem setF_all {p : Flt1 → Prop} {fs : List Flt1} {i : Nat} {g : Flt1 → Flt1} (h : ∀ r ∈ fs, p r) (hg : ∀ r, p r → p (g r)) : ∀ q ∈ setF fs i g, p q := by
  intro q hq
  unfold setF at hq
  split at hq
  · rename_i r e
    rcases List.mem_or_eq_of_mem_set hq with hq | rfl
    · exact h q hq
    · exact hg r (h r (List.mem_of_getElem? e))
  · exact h q hq
theorem setF_adr {fs : List Flt1} {i : Nat} {g : Flt1 → Flt1} (hg : ∀ r, (g r).a = r.a) : adr (setF fs i g) = adr fs := by
  funext j
  cases e : fs[i]? with
  | some r => exact lnk_setF e (hg r) (some j)
  | none => unfold setF; rw [e]
theorem raise_adr {fs : List Flt1} {f h e : Nat} : adr (raiseE fs f h e) = adr fs := by
  unfold raiseE
  rw [setF_adr (fun _ => by rfl), setF_adr (fun _ => by rfl)]
theorem raise_len {fs : List Flt1} {f h e : Nat} : (raiseE fs f h e).length = fs.length := by unfold raiseE; rw [setF_len, setF_len]
theorem raise_all {p : Flt1 → Prop} {fs : List Flt1} {f h e : Nat} (hp : ∀ r ∈ fs, p r) (h1 : ∀ r c, p r → p { r with c := c }) : ∀ q ∈ raiseE fs f h e, p q := setF_all (setF_all hp fun r => h1 r none) fun r => h1 r (some h)
theorem FAt.snoc {H : Hp} {fs : List Flt1} (h : FAt K H fs) (nl : ∀ r ∈ fs, r.c = none ∧ r.u = none) {r : Flt1} (hc : r.c = none) (hu : r.u = none) (hr : FaultAt K H r.a r.dx r.k r.l (fs.length : Nat) .non .non r.h) (new : ∀ q ∈ fs, q.a ≠ r.a) : FAt K H (fs ++ [r]) := by
  have cs : ∀ {i : Nat} {q : Flt1}, (fs ++ [r])[i]? = some q → fs[i]? = some q ∨ (i = fs.length ∧ q = r) := fun {i q} e => by
    by_cases c : i < fs.length
    · rw [List.getElem?_append_left c] at e; exact .inl e
    · rw [List.getElem?_append_right (Nat.le_of_not_lt c)] at e
      have c2 : i - fs.length = 0 := by
        have := (List.getElem?_eq_some_iff.mp e).1
        simp at this
        omega
      rw [c2] at e
      exact .inr ⟨by omega, (Option.some.inj e).symm⟩
  have ln : ∀ q ∈ fs ++ [r], q.c = none ∧ q.u = none := fun q hq => by
    rcases List.mem_append.mp hq with hq | hq
    · exact nl q hq
    · simp at hq; subst hq; exact ⟨hc, hu⟩
  refine ⟨fun i q e => ?_, fun i j q p e1 e2 ea => ?_, fun q hq j hj => ?_, fun q hq j hj => ?_⟩
  · have l2 := ln q (List.mem_of_getElem? e)
    rw [l2.1, l2.2]
    rcases cs e with e | ⟨rfl, rfl⟩
    · have := h.at_ i q e
      rw [(nl q (List.mem_of_getElem? e)).1, (nl q (List.mem_of_getElem? e)).2] at this
      exact this
    · exact hr
  · rcases cs e1 with e1 | ⟨rfl, rfl⟩ <;> rcases cs e2 with e2 | ⟨rfl, rfl⟩
    · exact h.nd i j q p e1 e2 ea
    · exact absurd ea (new q (List.mem_of_getElem? (by assumption)))
    · exact absurd ea.symm (new p (List.mem_of_getElem? (by assumption)))
    · rfl
  · rw [(ln q hq).1] at hj; cases hj
  · rw [(ln q hq).2] at hj; cases hj
theorem adrs {fs : List Flt1} : (List.range fs.length).map (adr fs) = fs.map fun r => V.ref r.a := by
  refine List.ext_getElem? fun i => ?_
  rw [List.getElem?_map, List.getElem?_map]
  by_cases h : i < fs.length
  · rw [List.getElem?_range h]
    obtain ⟨r, e⟩ := get_lt h
    rw [e]
    show some (adr fs i) = some _
    unfold adr
    rw [e]
  · rw [List.getElem?_eq_none (by simpa using h), List.getElem?_eq_none (by simpa using h)]
    rfl
/-- the law's faults: made behind H0, in a list at D -/
structure FW (K : PySem.W.Frag) (H0 H : Hp) (D : Addr) (fs : List Flt1) : Prop where
  f : FAt K H fs
  at_ : H D = some (.lst (fs.map fun r => V.ref r.a))
  kl : ∀ r ∈ fs, KL r.k r.l
  ac : Acyc fs
  new : ∀ r ∈ fs, H0 r.a = none
  D0 : H0 D = none
theorem FW.off {H0 H H' : Hp} {D p : Addr} {fs : List Flt1} (h : FW K H0 H D fs) (s : ∀ b o, H b = some o → b ≠ p → H' b = some o) (hp : H0 p ≠ none) : FW K H0 H' D fs :=
  ⟨h.f.off fun r hr => by
    obtain ⟨i, hi⟩ := List.getElem?_of_mem hr
    have e := h.f.at_ i r hi
    have n : r.a ≠ p := fun z => hp (z ▸ h.new r hr)
    rw [s _ _ e n]
    exact (show _ = H r.a from e.symm), s _ _ h.at_ fun z => hp (z ▸ h.D0), h.kl, h.ac, h.new, h.D0⟩
theorem FW.same {H0 H H' : Hp} {D : Addr} {fs : List Flt1} (h : FW K H0 H D fs) (s : Same H H') : FW K H0 H' D fs := ⟨h.f.same s, s _ _ h.at_, h.kl, h.ac, h.new, h.D0⟩
theorem FW.gs {H0 H : Hp} {D : Addr} {fs : List Flt1} (h : FW K H0 H D fs) (hl : fs.length ≤ 20) : GsAt K true H D fs (List.range fs.length) := ⟨h.f, by rw [adrs]; exact h.at_, fun g hg => List.mem_range.mp hg, h.kl, hl, by rw [List.length_range]; exact hl⟩
theorem FW.nD {H0 H : Hp} {D : Addr} {fs : List Flt1} (h : FW K H0 H D fs) : ∀ r ∈ fs, r.a ≠ D := fun r hr z => by
  obtain ⟨i, hi⟩ := List.getElem?_of_mem hr
  have e : H r.a = _ := h.f.at_ i r hi
  rw [z, h.at_] at e
  cases e
theorem FW.raise {H0 H H' : Hp} {D : Addr} {fs : List Flt1} (h : FW K H0 H D fs) {f g e : Nat} (hf : f < fs.length) (hg : g < fs.length) (hn : g ≠ f) (ee : EndAt (ctxOf fs) f g e) (fa : FAt K H' (raiseE fs f g e)) (off : ∀ b, (∀ r ∈ fs, r.a ≠ b) → H' b = H b) : FW K H0 H' D (raiseE fs f g e) :=
  ⟨fa, by rw [← adrs, raise_adr, raise_len, adrs, off D h.nD]; exact h.at_, raise_all (p := fun r => KL r.k r.l) h.kl fun r c z => z, acyc_raise h.ac hf (ee.lt h.f.c hg) hn ee, raise_all (p := fun r => H0 r.a = none) h.new fun r c z => z, h.D0⟩
theorem FW.cause {H0 H H' : Hp} {D : Addr} {fs : List Flt1} (h : FW K H0 H D fs) {f : Nat} {s : Option Nat} (hf : f < fs.length) (fa : FAt K H' (causeE fs f s)) (off : ∀ b, (∀ r ∈ fs, r.a ≠ b) → H' b = H b) : FW K H0 H' D (causeE fs f s) :=
  ⟨fa, by rw [← adrs, show (causeE fs f s).length = fs.length from setF_len .., show adr (causeE fs f s) = adr fs from setF_adr (fun _ => by rfl), adrs, off D h.nD]; exact h.at_, setF_all (p := fun r => KL r.k r.l) h.kl fun r z => z, acyc_cause h.ac hf, setF_all (p := fun r => H0 r.a = none) h.new fun r z => z, h.D0⟩
def spFaults (K : PySem.W.Frag) : Sp := sp1 fun sv H Q _ => ∃ p L c t, sv = .ref p ∧ H p = some (.dK (stK L c t)) ∧ 0 ≤ L ∧ 0 ≤ t ∧ t < 10000000 ∧ ∀ D fs L' t' H', FW K H H' D fs → 1 ≤ fs.length → fs.length ≤ 6 → (∀ b o, H b = some o → b ≠ p → H' b = some o) → H' p = some (.dK (stK L' c t')) → 0 ≤ L' → t ≤ t' → t' ≤ t + 300 → Q (.ref D) H'
theorem kinds_at {d : Int} (h0 : 0 ≤ d) (h1 : d < 3) : ∃ (n : Nat) (kk : Str), d = n ∧ ([.str "Error", .str "Stop", .str "Exit"] : List V)[n]? = some (.str kk) ∧ isKindB kk = true ∧ smV (.str kk) = true := by
  rcases (show d = 0 ∨ d = 1 ∨ d = 2 by omega) with rfl | rfl | rfl
  · exact ⟨0, "Error", rfl, rfl, by decide +kernel, by decide +kernel⟩
  · exact ⟨1, "Stop", rfl, rfl, by decide +kernel, by decide +kernel⟩
  · exact ⟨2, "Exit", rfl, rfl, by decide +kernel, by decide +kernel⟩
theorem xyz_at (i : Nat) : ∃ (n : Nat) (c : Nat), ((0 : Int) + (i : Nat)) % 3 = n ∧ (Str.ofString "xyz").cps.toList[n]? = some c ∧ isLabelB ⟨#[c]⟩ = true ∧ smV (.str ⟨#[c]⟩) = true ∧ smV (.str (PyData.shown (.str ⟨#[c]⟩))) = true := by
  rcases (show ((0 : Int) + (i : Nat)) % 3 = 0 ∨ ((0 : Int) + (i : Nat)) % 3 = 1 ∨ ((0 : Int) + (i : Nat)) % 3 = 2 by omega) with e | e | e
  · exact ⟨0, 120, e, by decide +kernel, by decide +kernel, by decide +kernel, by decide +kernel⟩
  · exact ⟨1, 121, e, by decide +kernel, by decide +kernel, by decide +kernel, by decide +kernel⟩
  · exact ⟨2, 122, e, by decide +kernel, by decide +kernel, by decide +kernel, by decide +kernel⟩
theorem FAt.nil {H : Hp} : FAt K H [] := ⟨fun i r e => (by simp at e), fun i j r q e => (by simp at e), fun r hr => (by cases hr), fun r hr => (by cases hr)⟩
theorem sc__law_faults : FnScope ["_law_state", "_law_kinds", "_law_k", "_law_found", "_law_turn", "_law_one", "_law_other", "_law_way"] ["_law_state"] (defScope (top 40)) := ⟨rfl, rfl, rfl, by decide +kernel, rfl, by decide +kernel, by decide +kernel⟩
theorem c__law_faults (T : Sy K mg) : Cal gd P w K mg base CX0 5 "_law_faults" (spFaults K) := by
  refine T.cal (F_law_faults T) sc__law_faults sp1_len (fun cdv f A outer s H vs Q E z h => ?_) (fun _ _ _ _ _ _ us hl => match us, hl with | [_], _ => rfl)
  have hu1 := hu_1 z; have hu2 := hu_2 z; have hu3 := hu_3 z
  obtain ⟨x0, rfl, h⟩ := h
  obtain ⟨p, L, c, t, rfl, hp, L0, t0, t1, q⟩ := h
  refine ⟨_, (pss_cons (ps_set (i := 1) sc__law_faults.nd rfl (by first | exact Or.inl rfl | exact Or.inr rfl) (pe_lst (pa_cons pe_str (pa_cons pe_str (pa_cons pe_str pa_nil))))) (pss_cons (ps_setLc (i := 3) (own := [("_law_k", 2)]) (g := gName 2) (by rfl) sc__law_faults.nd rfl rfl (sw_true rfl rfl rfl (by decide +kernel)) (pi_range1 (by rfl) (T.free "range") (pa_cons (pe_op (r := rAdd2 K) op_add2 pe_int (pe_c (c__law_digit T) z (pa_cons (pv 0) (pa_cons pe_int pa_nil)))) pa_nil)) (blkOk_by (own := [("_law_k", 2)]) (N := ["_law_state", "_law_kinds", "_law_k", "_law_found", "_law_turn", "_law_one", "_law_other", "_law_way"]) (sc := (defScope (top 40))) (by decide +kernel)) (fun _ _ _ _ _ => (pg_name (i := 2) sc__law_faults.nd rfl (by first | exact Or.inl rfl | exact Or.inr rfl))) (fun _ _ _ _ _ => pts_nil) (fun _ _ _ _ _ => (pe_mkA (K := K) rfl (m_Fault T) z (pa_cons (pe_ix (r := rGet K) (ix_get hu3) (pv 1) (pe_c (c__law_digit T) z (pa_cons (pv 0) (pa_cons pe_int pa_nil))) (fun _ _ => rfl)) (pa_cons (pe_ix (r := rGet K) (ix_get hu3) pe_str (pe_op op_mod (pv 2) pe_int) (fun _ _ => rfl)) (pa_cons (pv 2) pa_nil)))))) (pss_cons (ps_for PassesOwn.never (by rfl) (pi_range1 (by rfl) (T.free "range") (pa_cons (pe_c (c__law_digit T) z (pa_cons (pv 0) (pa_cons pe_int pa_nil))) pa_nil)) (pg_name (i := 4) sc__law_faults.nd rfl (by first | exact Or.inl rfl | exact Or.inr rfl)) (pss_cons (ps_par (i := 5) (j := 6) (by rfl) sc__law_faults.nd rfl rfl (by decide) rfl rfl (pa_cons (pe_ix (r := rGet K) (ix_get hu3) (pv 3) (pe_c (c__law_digit T) z (pa_cons (pv 0) (pa_cons (pe_callB (r := rLen2 K) call_len2 (by rfl) (T.free "len") (by decide +kernel) (pa_cons (pv 3) pa_nil)) pa_nil))) (fun _ _ => rfl)) (pa_cons (pe_ix (r := rGet K) (ix_get hu3) (pv 3) (pe_c (c__law_digit T) z (pa_cons (pv 0) (pa_cons (pe_callB (r := rLen2 K) call_len2 (by rfl) (T.free "len") (by decide +kernel) (pa_cons (pv 3) pa_nil)) pa_nil))) (fun _ _ => rfl)) pa_nil)) (by rfl)) (pss_cons (ps_set (i := 7) sc__law_faults.nd rfl (by first | exact Or.inl rfl | exact Or.inr rfl) (pe_c (c__law_digit T) z (pa_cons (pv 0) (pa_cons pe_int pa_nil)))) (pss_one (ps_if (pt_cmpR (r := rEq2 K) (op_eq2 hu1) (pv 7) pe_int (nomark _)) (pss_one (ps_expr (pe_c (c_raise_under T) z (pa_cons (pv 5) (pa_cons (pv 6) pa_nil))))) (pss_one (ps_expr (pe_c (c_with_cause T) z (pa_cons (pv 5) (pa_cons (pe_ix (r := rGet K) (ix_get hu3) (pe_lst (pa_cons (pv 6) (pa_cons pe_non pa_nil))) (pe_callTy call_int1 (by rfl) (T.free "int") (by decide +kernel) (pa_cons (pe_cmpR (r := rEq2 K) (op_eq2 hu1) (pe_c (c__law_digit T) z (pa_cons (pv 0) (pa_cons pe_int pa_nil))) pe_int (nomark _)) pa_nil)) (fun _ _ => rfl)) pa_nil)))))))))) (pss_one (ps_ret (pv 3)))))), ?_⟩
  have np : H p ≠ none := by rw [hp]; simp
  walk_at "yhead"; walk_at "y"
  refine ⟨sz4 (by simp), fun G nG => ?_⟩
  have sH1 := same_upd (H := H) (o := .lst [.str "Error", .str "Stop", .str "Exit"]) nG
  have eG := upd_same (H := H) (a := G) (o := .lst [.str "Error", .str "Stop", .str "Exit"])
  generalize upd H G (.lst [.str "Error", .str "Stop", .str "Exit"]) = H1 at sH1 eG ⊢
  walk_at "y"
  refine lc_r1 ?_
  walk_at "y"
  refine ⟨_, _, rfl, p, L, c, t, 6, rfl, rfl, sH1 _ _ hp, L0, t0, by omega, by decide, by decide, fun d1 L1 t2 H2 a1 a2 a3 a4 a5 off2 k2 => ?_⟩
  have off02 : ∀ b o, H b = some o → b ≠ p → H2 b = some o := fun b o e nb => off2 _ _ (sH1 _ _ e) nb
  have Gp : G ≠ p := Ne.symm (ne_of_none hp nG)
  have eG2 := off2 _ _ eG Gp
  walk_at "y"
  refine ⟨_, rfl, by omega, by omega, fun D hD => ?_⟩
  have hD0 : H D = none := by
    cases e : H D with
    | none => rfl
    | some o =>
      by_cases c : D = p
      · rw [c, k2] at hD; cases hD
      · rw [off02 _ _ e c] at hD; cases hD
  refine lc_it walk_range (Pv := fun i H' => ∃ L' t' fs, (∀ b o, H b = some o → b ≠ p → H' b = some o) ∧ H' p = some (.dK (stK L' c t')) ∧ 0 ≤ L' ∧ t ≤ t' ∧ t' ≤ t + 4 + 4 * i ∧ H' G = some (.lst [.str "Error", .str "Stop", .str "Exit"]) ∧ FAt K H' fs ∧ H' D = some (.lst (fs.map fun r => V.ref r.a)) ∧ (∀ r ∈ fs, KL r.k r.l) ∧ (∀ r ∈ fs, H r.a = none) ∧ (∀ r ∈ fs, r.c = none ∧ r.u = none) ∧ fs.length = i) ?_ (fun i H' _ hp => trivial) (fun i v H3 H4 hi hp3 y => ?_) fun H' hp3 => ?_
  · exact ⟨L1, t2, [], fun b o e nb => by rw [upd_ne (ne_of_none e hD0)]; exact off02 b o e nb, by rw [upd_ne (ne_of_none k2 hD)]; exact k2, a3, by omega, by omega, by rw [upd_ne (ne_of_none eG2 hD)]; exact eG2, .nil, upd_same, (fun r hr => by cases hr), (fun r hr => by cases hr), (fun r hr => by cases hr), rfl⟩
  · obtain ⟨L3, t3, fs, off3, k3, b1, b2, b3, eG3, fa, hD3, kl, new, nl, fl⟩ := hp3
    obtain ⟨rfl, rfl⟩ := y
    walk_at "y"
    refine ⟨rfl, ?_⟩
    walk_at "y"
    refine ⟨_, _, rfl, p, L3, c, t3, 3, rfl, rfl, k3, b1, by omega, by omega, by decide, by decide, fun d4 L4 t4 H4 e1 e2 e3 e4 e5 off4 k4 => ?_⟩
    have off34 : ∀ b o, H b = some o → b ≠ p → H4 b = some o := fun b o e nb => off4 _ _ (off3 _ _ e nb) nb
    have eG4 := off4 _ _ eG3 Gp
    have Dp : D ≠ p := fun z => by rw [z, hp] at hD0; cases hD0
    have hD4 := off4 _ _ hD3 Dp
    have fa4 : FAt K H4 fs := fa.off fun r hr => by
      obtain ⟨i, hi⟩ := List.getElem?_of_mem hr
      have e := fa.at_ i r hi
      rw [off4 _ _ e fun z => np (z ▸ new r hr)]
      exact Eq.symm (show _ = _ from e)
    obtain ⟨n, kk, rfl, en, kkb, kks⟩ := kinds_at e1 e2
    refine rGet_l (SqL.of eG4) en ?_
    walk_at "y"
    refine rI_i (show (0 : Int) < 3 by decide) ?_
    obtain ⟨n2, c2, e6, e7, llb, lls, llr⟩ := xyz_at i
    rw [e6]
    refine rGet_s (sz4 (n := 3)) e7 ?_
    walk_at "y"
    intro x dx hx hdx ne
    have kl1 : KL kk ⟨#[c2]⟩ := ⟨kkb, llb, kks, lls, llr⟩
    refine ⟨x, dx, kk, ⟨#[c2]⟩, _, rfl, upd_same, kl1.kl, kl1.ll, kkb, llb, by omega, fun H5 off5 f5 => ⟨rfl, ?_⟩⟩
    have s45 : Same H4 H5 := fun b o e => by
      have n1 := ne_of_none e hx
      exact off5 b o (by rw [upd_ne n1, upd_ne (ne_of_none e hdx)]; exact e) n1
    have hD5 := s45 _ _ hD4
    have hx0 : H x = none := by
      cases e : H x with
      | none => rfl
      | some o =>
        by_cases cc : x = p
        · rw [cc, k4] at hx; cases hx
        · rw [off34 _ _ e cc] at hx; cases hx
    have nxD : x ≠ D := Ne.symm (ne_of_none hD4 hx)
    refine ⟨_, hD5, ?_, L4, t4, fs ++ [⟨x, dx, kk, ⟨#[c2]⟩, none, none, false⟩], ?_, ?_, e3, by omega, by omega, ?_, ?_, ?_, ?_, ?_, ?_, ?_⟩
    · rw [List.length_map, fl]
      exact Nat.lt_of_lt_of_le (show i < 17 by omega) (sz4 (n := 17))
    · intro b o e nb
      rw [upd_ne (ne_of_none e hD0)]
      exact s45 _ _ (off34 _ _ e nb)
    · rw [upd_ne (Ne.symm Dp)]
      exact s45 _ _ k4
    · rw [upd_ne (ne_of_none eG2 hD)]
      exact s45 _ _ eG4
    · have fa5 := fa4.same s45
      refine FAt.snoc (fa5.off fun r hr => upd_ne fun z => ?_) nl rfl rfl ?_ fun q hq z => ?_
      · obtain ⟨m, hm⟩ := List.getElem?_of_mem hr
        have e := fa5.at_ m r hm
        rw [z] at e
        rw [show H5 D = _ from e] at hD5
        cases hD5
      · show upd H5 D _ x = _
        rw [upd_ne nxD, fl]
        have f5' : H5 x = _ := f5
        rw [f5']
        show _ = some (HO.ins _ _ (frow kk ⟨#[c2]⟩ _ _ _ _))
        rw [show (0 : Int) + (i : Nat) = (i : Nat) by omega]
      · obtain ⟨m, hm⟩ := List.getElem?_of_mem hq
        have e : H4 q.a = _ := fa4.at_ m q hm
        have z : q.a = x := z
        rw [z, hx] at e
        cases e
    · rw [upd_same, List.map_append]
      rfl
    · intro r hr
      rcases List.mem_append.mp hr with hr | hr
      · exact kl r hr
      · simp at hr; subst hr; exact kl1
    · intro r hr
      rcases List.mem_append.mp hr with hr | hr
      · exact new r hr
      · simp at hr; subst hr; exact hx0
    · intro r hr
      rcases List.mem_append.mp hr with hr | hr
      · exact nl r hr
      · simp at hr; subst hr; exact ⟨rfl, rfl⟩
    · rw [List.length_append, fl]; rfl
  · obtain ⟨L3, t3, fs, off3, k3, b1, b2, b3, eG3, fa, hD3, kl, new, nl, fl⟩ := hp3
    have fw : FW K H H' D fs := ⟨fa, hD3, kl, fun i => ⟨0, .last (by
      unfold ctxOf
      cases e : fs[i]? with
      | none => rfl
      | some r => exact (nl r (List.mem_of_getElem? e)).1)⟩, new, hD0⟩
    have Dp : D ≠ p := fun z => by rw [z, hp] at hD0; cases hD0
    walk_at "y"
    refine for_r1 ?_
    walk_at "y"
    refine ⟨_, _, rfl, p, L3, c, t3, 12, rfl, rfl, k3, b1, by omega, by omega, by decide, by decide, fun d4 L4 t4 H4 e1 e2 e3 e4 e5 off4 k4 => ?_⟩
    walk_at "y"
    have fw4 := fw.off off4 np
    refine ⟨_, rfl, by omega, by omega, for_it walk_range (Pv := fun i σ H' => ∃ L' t' fs a b c' d, σ = [some (.ref p), some (.ref G), none, some (.ref D), a, b, c', d] ∧ (∀ b o, H b = some o → b ≠ p → H' b = some o) ∧ H' p = some (.dK (stK L' c t')) ∧ 0 ≤ L' ∧ t ≤ t' ∧ t' ≤ t + 40 + 20 * i ∧ FW K H H' D fs ∧ 1 ≤ fs.length ∧ fs.length ≤ 6)
      ⟨L4, t4, fs, none, none, none, none, rfl, fun b o e nb => off4 _ _ (off3 _ _ e nb) nb, k4, e3, by omega, by omega, fw4, by omega, by omega⟩ (fun _ _ _ _ _ => trivial) (fun i x σ H5 H6 hi hp5 y => ?_) fun σ H7 hp7 => ?_⟩
    rotate_left
    · obtain ⟨L7, t7, fs7, _, _, _, _, rfl, off7, k7, g1, g2, g3, fw7, g4, g5⟩ := hp7
      walk_at "y"
      exact q D fs7 L7 t7 H7 fw7 g4 g5 off7 k7 g1 g2 (by omega)
    clear hD3 kl new nl fl fw4 fa fw
    obtain ⟨L5, t5, fs, _, _, _, _, rfl, off5, k5, g1, g2, g3, fw5, g4, g5⟩ := hp5
    obtain ⟨rfl, rfl⟩ := y
    have i12 : i < 12 := by omega
    have ix : ∀ {d : Int}, 0 ≤ d → d < (fs.length : Nat) → ∃ n r, d = ((n : Nat) : Int) ∧ n < fs.length ∧ fs[n]? = some r ∧ (fs.map fun r => V.ref r.a)[n]? = some (.ref r.a) ∧ V.ref r.a = adr fs n := fun {d} h0 h1 => by
      obtain ⟨r, er⟩ := get_lt (show d.toNat < fs.length by omega)
      exact ⟨d.toNat, r, by omega, by omega, er, by rw [List.getElem?_map, er]; rfl, (show lnk fs (some d.toNat) = _ from lnk_some er).symm⟩
    have lm : (fs.map fun r => V.ref r.a).length = fs.length := List.length_map ..
    walk_at "y"
    refine rLen2_l (SqL.of fw5.at_) ?_ lm
    walk_at "y"
    refine ⟨_, _, rfl, p, L5, c, t5, (fs.length : Nat), rfl, rfl, k5, g1, by omega, by omega, by omega, by omega, fun d6 L6 t6 H6 i1 i2 i3 i4 i5 off6 k6 => ?_⟩
    obtain ⟨n6, r6, rfl, l6, er6, em6, ea6⟩ := ix i1 i2
    have fw6 := fw5.off off6 np
    refine rGet_l (SqL.of fw6.at_) em6 ?_
    walk_at "y"
    refine rLen2_l (SqL.of fw6.at_) ?_ lm
    walk_at "y"
    refine ⟨_, _, rfl, p, L6, c, t6, (fs.length : Nat), rfl, rfl, k6, i3, by omega, by omega, by omega, by omega, fun d7 L7 t7 H7 j1 j2 j3 j4 j5 off7 k7 => ?_⟩
    obtain ⟨n7, r7, rfl, l7, er7, em7, ea7⟩ := ix j1 j2
    have fw7 := fw6.off off7 np
    refine rGet_l (SqL.of fw7.at_) em7 ?_
    walk_at "y"
    refine ⟨_, _, rfl, ?_⟩
    walk_at "y"
    refine ⟨_, _, rfl, p, L7, c, t7, 3, rfl, rfl, k7, j3, by omega, by omega, by omega, by omega, fun d8 L8 t8 H8 m1 m2 m3 m4 m5 off8 k8 => ?_⟩
    have fw8 := fw7.off off8 np
    have off58 : ∀ b o, H b = some o → b ≠ p → H8 b = some o := fun b o e nb => off8 _ _ (off7 _ _ (off6 _ _ (off5 _ _ e nb) nb) nb) nb
    have nr : ∀ {gs : List Flt1} {b : Addr} {o : HO}, (∀ r ∈ gs, H r.a = none) → H b = some o → ∀ r ∈ gs, r.a ≠ b := fun h e r hr z => by
      have := h r hr
      rw [z, e] at this
      cases this
    walk_at "y"
    by_cases hd : d8 = 0
    · subst hd
      walk_at "y"
      refine ⟨_, _, rfl, fs, n6, n7, fw8.f, l6, ea6, .inr ⟨l7, ea7, fw8.ac, fun _ => ?_, fun hne e H9 ee fa9 off9 => ?_⟩⟩
      · walk_at "y"
        exact ⟨L8, t8, fs, _, _, _, _, rfl, off58, k8, m3, by omega, by omega, fw8, g4, g5⟩
      · walk_at "y"
        exact ⟨L8, t8, _, _, _, _, _, rfl, fun b o e nb => (off9 b (nr fw8.new e)).trans (off58 b o e nb), (off9 p (nr fw8.new hp)).trans k8, m3, by omega, by omega, fw8.raise l6 l7 hne ee fa9 off9, by rw [raise_len]; exact g4, by rw [raise_len]; exact g5⟩
    · walk_at "y"
      refine ⟨sz4 (by simp), fun B nB => ?_⟩
      have sH9 := same_upd (H := H8) (o := .lst [.ref r7.a, .non]) nB
      have eB := upd_same (H := H8) (a := B) (o := .lst [.ref r7.a, .non])
      generalize upd H8 B (.lst [.ref r7.a, .non]) = H9 at sH9 eB ⊢
      walk_at "y"
      have fw9 := fw8.same sH9
      refine ⟨_, _, rfl, p, L8, c, t8, 6, rfl, rfl, sH9 _ _ k8, m3, by omega, by omega, by omega, by omega, fun d10 L10 t10 H10 o1 o2 o3 o4 o5 off10 k10 => ?_⟩
      have fw10 := fw9.off off10 np
      have Bp : B ≠ p := Ne.symm (ne_of_none k8 nB)
      have eB10 := off10 _ _ eB Bp
      have off510 : ∀ b o, H b = some o → b ≠ p → H10 b = some o := fun b o e nb => off10 _ _ (sH9 _ _ (off58 _ _ e nb)) nb
      walk_at "y"
      refine .inr ⟨_, rfl, ?_⟩
      by_cases hz : d10 = 0
      · subst hz
        refine rGet_l (n := 1) (SqL.of eB10) rfl ?_
        refine ⟨_, _, rfl, fs, n6, none, fw10.f, l6, ea6, rfl, fun j hj => (by cases hj), fun H11 fa11 off11 => ?_⟩
        walk_at "y"
        exact ⟨L10, t10, _, _, _, _, _, rfl, fun b o e nb => (off11 b (nr fw10.new e)).trans (off510 b o e nb), (off11 p (nr fw10.new hp)).trans k10, o3, by omega, by omega, fw10.cause l6 fa11 off11, by rw [show (causeE fs n6 none).length = fs.length from setF_len ..]; exact g4, by rw [show (causeE fs n6 none).length = fs.length from setF_len ..]; exact g5⟩
      · rw [decide_eq_false hz]
        refine rGet_l (n := 0) (SqL.of eB10) rfl ?_
        refine ⟨_, _, rfl, fs, n6, some n7, fw10.f, l6, ea6, ea7, fun j hj => (by cases hj; exact l7), fun H11 fa11 off11 => ?_⟩
        walk_at "y"
        exact ⟨L10, t10, _, _, _, _, _, rfl, fun b o e nb => (off11 b (nr fw10.new e)).trans (off510 b o e nb), (off11 p (nr fw10.new hp)).trans k10, o3, by omega, by omega, fw10.cause l6 fa11 off11, by rw [show (causeE fs n6 (some n7)).length = fs.length from setF_len ..]; exact g4, by rw [show (causeE fs n6 (some n7)).length = fs.length from setF_len ..]; exact g5⟩
end

end L77
namespace L77
open PySem PySem.Spec PyProof.Rows L2
variable {gd : Bool}
local macro_rules | `(tactic| walk_at "y1") => `(tactic| with_reducible first
  | refine tSeq_i ?_ | refine tAsg_i ?_ | refine tCons_i ?_ | refine tNil_i ?_ | refine tC_i ?_ | refine tOp_i ?_ | refine tIfS_i ?_ | refine tTest_i ?_ | refine exBl_i ?_ | refine tRet_i ?_ | refine tCall_i ?_
  | refine tCB_i ?_ | refine tLst_i ?_ | refine tTup_i ?_ | refine rI0_i ?_ | refine tDrop_i ?_ | refine tNext_i ?_ | refine tB_i ?_ | refine tAnd_i ?_ | refine tOr_i ?_ | refine tNot_i ?_ | refine tAndV_i ?_ | refine tOrV_i ?_ | refine tNotV_i ?_
  | refine tYes_i ?_ | refine tTM_i ?_ | refine tPar_i ?_ | refine tSl_i ?_ | refine tNoPart_i ?_ | refine tPart_i ?_ | refine part_i ?_ | refine tMake_i ?_ | refine tProp_i ?_ | refine tCallOG_i ?_ | refine tVeI_i ?_ | refine tOst_i ?_ | refine tMkO_i ?_ | refine sFld_i ?_ | refine fldaug_i ?_ | refine gCons_i ?_ | refine gNil_i ?_ | refine tChain_i ?_ | refine tBM_i ?_ | refine rAdd2_i ?_ | refine rLe2_i ?_ | refine rEq2_i ?_ | refine rEq2_ss ?_ | refine rNe2_i ?_ | refine rNe2_ss ?_ | refine rIsN_i ?_ | refine rNotN_i ?_ | refine tTup_i2 ?_ | refine tIf_i ?_ | refine tUn_i ?_ | refine tDGet_i ?_ | refine sDPut_i ?_ | refine tFld_i ?_ | refine tRetN_i ?_ | refine tBreak_i ?_ | refine tCont_i ?_ | refine rU_i ?_)
local macro_rules | `(tactic| walk_at "yhead") => `(tactic| dsimp only [L2.start, List.map, List.length_cons, List.length_nil, Nat.reduceAdd, Nat.reduceSub, List.replicate, List.cons_append, List.nil_append])
local macro_rules | `(tactic| walk_at "y2") => `(tactic| first
  | walk_at "y1"
  | ((with_reducible refine tVar_i (v := ?v) ?h ?q); (case h => rfl))
  | ((with_reducible refine gName_i ?_); (dsimp only [L2.wipe, List.set]))
  | with_reducible refine iteT ?_ | with_reducible refine iteF ?_ | with_reducible refine iteNT ?_ | with_reducible refine iteNF ?_
  | ((with_reducible refine iteDT ?h ?q); (case h => first | decide +kernel | omega | assumption | exact nv1 | exact nv2 | exact nv3 | exact nv4)) | ((with_reducible refine iteDF ?h ?q); (case h => first | decide +kernel | omega | assumption | exact nv1 | exact nv2 | exact nv3 | exact nv4))
  | ((with_reducible refine iteNDT ?h ?q); (case h => first | decide +kernel | omega | assumption | exact nv1 | exact nv2 | exact nv3 | exact nv4)) | ((with_reducible refine iteNDF ?h ?q); (case h => first | decide +kernel | omega | assumption | exact nv1 | exact nv2 | exact nv3 | exact nv4))
  | ((with_reducible refine rIsi2_1 (T := ?T) (b := true) ?ty ?h ?q); (case ty => first | exact ty_str | exact ty_int | exact ty_bl | exact ty_non); (case h => decide +kernel))
  | ((with_reducible refine rIsi2_1 (T := ?T) (b := false) ?ty ?h ?q); (case ty => first | exact ty_str | exact ty_int | exact ty_bl | exact ty_non); (case h => decide +kernel))
  | ((with_reducible refine rEq2_s ?h ?q); (case h => rfl)) | ((with_reducible refine rNe2_s ?h ?q); (case h => rfl))
  | ((with_reducible refine rEq_i ?h ?q); (case h => rfl)) | ((with_reducible refine rNe_i ?h ?q); (case h => rfl)))
local macro_rules | `(tactic| walk_at "y") => `(tactic| repeat walk_at "y2")

section
/-! the two ways to a cycle give the same -/
variable {nx : Nat → Option Nat} {N f : Nat}
def itN (nx : Nat → Option Nat) (f : Nat) : Nat → Option Nat
  | 0 => some f
  | k + 1 => (itN nx f k).bind nx
theorem it_none {e : Nat} (h : itN nx f e = none) : ∀ d, itN nx f (e + d) = none
  | 0 => h
  | d + 1 => by
    show (itN nx f (e + d)).bind nx = none
    rw [it_none h d]
    rfl
theorem getD_snoc {ps : List Nat} {h i : Nat} (hi : i ≤ ps.length) : (ps ++ [h]).getD i 0 = if i < ps.length then ps.getD i 0 else h := by
  by_cases c : i < ps.length
  · rw [if_pos c, List.getD_eq_getElem?_getD, List.getElem?_append_left c, ← List.getD_eq_getElem?_getD]
  · rw [if_neg c, List.getD_eq_getElem?_getD, List.getElem?_append_right (by omega), show i - ps.length = 0 by omega]
    rfl
theorem cyc_spec (hN : ∀ i j, nx i = some j → j < N) (hf : f < N) : ∀ (m k : Nat) (ps : List Nat), m + k = N + 1 → ps.length = k → (∀ i < k, itN nx f i = some (ps.getD i 0)) → ps.Nodup → (∀ i ∈ ps, i < N) →
    (cyc nx m ps (itN nx f k) = [] ∧ itN nx f N = none) ∨ ∃ (qs : List Nat) (j : Nat), cyc nx m ps (itN nx f k) = qs.drop j ∧ j < qs.length ∧ qs.length ≤ N ∧ qs.Nodup ∧ (∀ i < qs.length, itN nx f i = some (qs.getD i 0)) ∧ itN nx f qs.length = some (qs.getD j 0)
  | 0, k, ps, hm, hl, _, nd, lt => by
    have := nodup_len nd lt
    omega
  | m + 1, k, ps, hm, hl, hi, nd, lt => by
    have lk : ∀ h, itN nx f k = some h → h < N := fun h e => by
      cases k with
      | zero => cases e; exact hf
      | succ k =>
        have e : (itN nx f k).bind nx = some h := e
        cases q : itN nx f k with
        | none => rw [q] at e; cases e
        | some a => rw [q] at e; exact hN a h e
    cases q : itN nx f k with
    | none =>
      refine .inl ⟨rfl, ?_⟩
      have := it_none q (N - k)
      rwa [show k + (N - k) = N by omega] at this
    | some h =>
      show ((if h ∈ ps then _ else cyc nx m (ps ++ [h]) (nx h)) = [] ∧ _) ∨ ∃ qs j, (if h ∈ ps then _ else cyc nx m (ps ++ [h]) (nx h)) = _ ∧ _
      by_cases c : h ∈ ps
      · rw [if_pos c]
        have hlt := List.idxOf_lt_length_iff.mpr c
        refine .inr ⟨ps, ps.idxOf h, rfl, hlt, nodup_len nd lt, nd, fun i h2 => hi i (by omega), ?_⟩
        rw [hl, q, List.getD_eq_getElem?_getD, List.getElem?_eq_getElem hlt, List.getElem_idxOf hlt]
        rfl
      · rw [if_neg c]
        have e : nx h = itN nx f (k + 1) := by show _ = (itN nx f k).bind nx; rw [q]; rfl
        rw [e]
        refine cyc_spec hN hf m (k + 1) (ps ++ [h]) (by omega) (by simp [hl]) (fun i h2 => ?_) (List.nodup_append.mpr ⟨nd, by simp, fun a ha b hb => by simp at hb; subst hb; exact fun z => c (z ▸ ha)⟩) fun i h2 => ?_
        · rw [getD_snoc (by omega)]
          by_cases c2 : i < ps.length
          · rw [if_pos c2]; exact hi i (by omega)
          · rw [if_neg c2, show i = k by omega]; exact q
        · rcases List.mem_append.mp h2 with h2 | h2
          · exact lt i h2
          · simp at h2; subst h2; exact lk _ q
/-- a round of nx -/
structure CC (nx : Nat → Option Nat) (L : List Nat) : Prop where
  pos : 0 < L.length
  nx : ∀ i < L.length, nx (L.getD i 0) = some (L.getD ((i + 1) % L.length) 0)
  nd : L.Nodup
theorem getD_inj {L : List Nat} (nd : L.Nodup) {i j : Nat} (hi : i < L.length) (hj : j < L.length) (e : L.getD i 0 = L.getD j 0) : i = j := by
  rw [List.getD_eq_getElem?_getD, List.getD_eq_getElem?_getD, List.getElem?_eq_getElem hi, List.getElem?_eq_getElem hj] at e
  have pw := List.pairwise_iff_getElem.mp nd
  have e : L[i] = L[j] := e
  rcases Nat.lt_trichotomy i j with h | h | h
  · exact absurd e (pw i j hi hj h)
  · exact h
  · exact absurd e.symm (pw j i hj hi h)
theorem CC.steps {L M : List Nat} (a : CC nx L) (b : CC nx M) (h0 : L.getD 0 0 = M.getD 0 0) : ∀ i, i < L.length → L.getD i 0 = M.getD (i % M.length) 0
  | 0, _ => by rw [Nat.zero_mod]; exact h0
  | i + 1, hi => by
    have ih := CC.steps a b h0 i (by omega)
    have h1 := a.nx i (by omega)
    have h2 := b.nx (i % M.length) (Nat.mod_lt _ b.pos)
    rw [ih, h2, Nat.mod_eq_of_lt hi] at h1
    rw [← Option.some.inj h1, Nat.mod_add_mod]
theorem CC.uniq {L M : List Nat} (a : CC nx L) (b : CC nx M) (h0 : L.getD 0 0 = M.getD 0 0) : L = M := by
  have le : ∀ {L M : List Nat}, CC nx L → CC nx M → L.getD 0 0 = M.getD 0 0 → L.length ≤ M.length := fun {L M} a b h0 => by
    by_cases c : M.length < L.length
    · have e := a.steps b h0 M.length c
      rw [Nat.mod_self, ← h0] at e
      have := getD_inj a.nd c a.pos e
      have := b.pos
      omega
    · omega
  have e : L.length = M.length := Nat.le_antisymm (le a b h0) (le b a h0.symm)
  refine List.ext_getElem e fun i h1 h2 => ?_
  have s := a.steps b h0 i h1
  rw [Nat.mod_eq_of_lt h2, List.getD_eq_getElem?_getD, List.getD_eq_getElem?_getD, List.getElem?_eq_getElem h1, List.getElem?_eq_getElem h2] at s
  exact s
theorem rot_len {L : List Nat} (k : Nat) : (L.drop k ++ L.take k).length = L.length := by
  rw [List.length_append, List.length_drop, List.length_take]; omega
theorem rot_getD {L : List Nat} {k i : Nat} (hk : k < L.length) (hi : i < L.length) : (L.drop k ++ L.take k).getD i 0 = L.getD ((i + k) % L.length) 0 := by
  rw [List.getD_eq_getElem?_getD, List.getD_eq_getElem?_getD]
  by_cases c : i + k < L.length
  · rw [List.getElem?_append_left (by rw [List.length_drop]; omega), List.getElem?_drop, Nat.mod_eq_of_lt c, Nat.add_comm]
  · rw [List.getElem?_append_right (by rw [List.length_drop]; omega), List.length_drop, List.getElem?_take, if_pos (by omega), Nat.mod_eq_sub_mod (by omega), Nat.mod_eq_of_lt (by omega)]
    congr 2
    omega
theorem CC.rot {L : List Nat} (a : CC nx L) {k : Nat} (hk : k < L.length) : CC nx (L.drop k ++ L.take k) where
  pos := by rw [rot_len]; exact a.pos
  nx := fun i hi => by
    rw [rot_len] at hi ⊢
    rw [rot_getD hk hi, rot_getD hk (Nat.mod_lt _ a.pos), a.nx _ (Nat.mod_lt _ a.pos), Nat.mod_add_mod, Nat.mod_add_mod]
    congr 3
    omega
  nd := by
    have h : (L.take k ++ L.drop k).Nodup := by rw [List.take_append_drop]; exact a.nd
    rw [List.nodup_append] at h ⊢
    exact ⟨h.2.1, h.1, fun x hx y hy => (h.2.2 y hy x hx).symm⟩
/-- what the law's helper finds -/
theorem law_round (hN : ∀ i j, nx i = some j → j < N) (hf : f < N) : (cycOf nx N f = [] ∧ itN nx f N = none) ∨
    ∃ (qs : List Nat) (j h : Nat) (R : List Nat), cycOf nx N f = qs.drop j ∧ j < qs.length ∧ (∀ i ≤ j, itN nx f i = some (qs.getD i 0)) ∧ itN nx f N = some h ∧ CC nx R ∧ R.getD 0 0 = h ∧ (∀ i ≤ j, qs.getD i 0 ∈ R ↔ i = j) ∧
      R.drop (R.idxOf (qs.getD j 0)) ++ R.take (R.idxOf (qs.getD j 0)) = cycOf nx N f ∧ R.length ≤ N ∧ (∀ i ∈ R, i < N) ∧ ∀ i ∈ qs, i < N := by
  rcases cyc_spec hN hf (N + 1) 0 [] rfl rfl (fun i h => absurd h (Nat.not_lt_zero _)) List.nodup_nil (fun i h => by cases h) with h | ⟨qs, j, e, hj, hq, nd, hi, hl⟩
  · exact .inl h
  · have gd : ∀ i, (qs.drop j).getD i 0 = qs.getD (j + i) 0 := fun i => by rw [List.getD_eq_getElem?_getD, List.getElem?_drop, ← List.getD_eq_getElem?_getD]
    have ln : (qs.drop j).length = qs.length - j := List.length_drop ..
    have nxq : ∀ i, i < qs.length → nx (qs.getD i 0) = itN nx f (i + 1) := fun i h => by show _ = (itN nx f i).bind nx; rw [hi i h]; rfl
    have cc : CC nx (qs.drop j) := ⟨by omega, fun i h => by
      rw [gd, gd, nxq _ (by omega)]
      by_cases c : i + 1 < (qs.drop j).length
      · rw [Nat.mod_eq_of_lt c, show j + i + 1 = j + (i + 1) by omega]
        exact hi _ (by omega)
      · have c2 : i + 1 = (qs.drop j).length := by omega
        rw [c2, Nat.mod_self, show j + i + 1 = qs.length by omega]
        exact hl, nd.sublist (List.drop_sublist ..)⟩
    have onC : ∀ d, itN nx f (j + d) = some ((qs.drop j).getD (d % (qs.drop j).length) 0) := fun d => by
      induction d with
      | zero => rw [Nat.zero_mod, gd]; exact hi j hj
      | succ d ih =>
        show (itN nx f (j + d)).bind nx = _
        rw [ih]
        show nx _ = _
        rw [cc.nx _ (Nat.mod_lt _ cc.pos), Nat.mod_add_mod]
    have hN' := onC (N - j)
    rw [show j + (N - j) = N by omega] at hN'
    have hs : (N - j) % (qs.drop j).length < (qs.drop j).length := Nat.mod_lt _ cc.pos
    generalize (N - j) % (qs.drop j).length = s at hN' hs
    have ccR := cc.rot hs
    have mem : ∀ x, x ∈ (qs.drop j).drop s ++ (qs.drop j).take s ↔ x ∈ qs.drop j := fun x => by
      rw [List.mem_append]
      have : x ∈ (qs.drop j).take s ++ (qs.drop j).drop s ↔ x ∈ qs.drop j := by rw [List.take_append_drop]
      rw [List.mem_append] at this
      exact ⟨fun h => this.mp h.symm, fun h => (this.mpr h).symm⟩
    have getD_mem : ∀ {L : List Nat} {i : Nat}, i < L.length → L.getD i 0 ∈ L := fun {L i} h => by
      rw [List.getD_eq_getElem?_getD, List.getElem?_eq_getElem h]
      exact List.getElem_mem h
    have x0 : qs.getD j 0 ∈ (qs.drop j).drop s ++ (qs.drop j).take s := (mem _).mpr (by have := getD_mem (L := qs.drop j) (i := 0) cc.pos; rwa [gd] at this)
    have hidx := List.idxOf_lt_length_iff.mpr x0
    have ltq : ∀ i ∈ qs, i < N := fun x hx => by
      obtain ⟨i, h1, h2⟩ := List.mem_iff_getElem.mp hx
      have h3 := hi i h1
      rw [List.getD_eq_getElem?_getD, List.getElem?_eq_getElem h1, h2] at h3
      cases i with
      | zero => cases h3; exact hf
      | succ i =>
        have h3 : (itN nx f i).bind nx = some x := h3
        cases q : itN nx f i with
        | none => rw [q] at h3; cases h3
        | some a => rw [q] at h3; exact hN a x h3
    refine .inr ⟨qs, j, _, (qs.drop j).drop s ++ (qs.drop j).take s, e, hj, fun i h => hi i (by omega), hN', ccR, ?_, fun i h => ?_, ?_, ?_, ?_, ltq⟩
    · rw [rot_getD hs cc.pos, Nat.zero_add, Nat.mod_eq_of_lt hs]
    · rw [mem]
      constructor
      · intro hm
        obtain ⟨i2, h1, h2⟩ := List.mem_iff_getElem.mp hm
        have h3 : qs.getD (j + i2) 0 = qs.getD i 0 := by rw [← gd, List.getD_eq_getElem?_getD, List.getElem?_eq_getElem h1, h2]; rfl
        have := getD_inj nd (by omega) (by omega) h3
        omega
      · intro z
        subst z
        have := getD_mem (L := qs.drop i) (i := 0) cc.pos
        rwa [gd] at this
    · rw [show cycOf nx N f = _ from e]
      refine (ccR.rot hidx).uniq cc ?_
      rw [rot_getD hidx ccR.pos, Nat.zero_add, Nat.mod_eq_of_lt hidx, List.getD_eq_getElem?_getD, List.getElem?_eq_getElem hidx, List.getElem_idxOf hidx, gd]
      rfl
    · rw [rot_len, ln]; omega
    · intro i h
      exact ltq i (List.mem_of_mem_drop ((mem i).mp h))
end

end L77
namespace L77
open PySem PySem.Spec PyProof.Rows L2
variable {gd : Bool}
local macro_rules | `(tactic| walk_at "y1") => `(tactic| with_reducible first
  | refine tSeq_i ?_ | refine tAsg_i ?_ | refine tCons_i ?_ | refine tNil_i ?_ | refine tC_i ?_ | refine tOp_i ?_ | refine tIfS_i ?_ | refine tTest_i ?_ | refine exBl_i ?_ | refine tRet_i ?_ | refine tCall_i ?_
  | refine tCB_i ?_ | refine tLst_i ?_ | refine tTup_i ?_ | refine rI0_i ?_ | refine tDrop_i ?_ | refine tNext_i ?_ | refine tB_i ?_ | refine tAnd_i ?_ | refine tOr_i ?_ | refine tNot_i ?_ | refine tAndV_i ?_ | refine tOrV_i ?_ | refine tNotV_i ?_
  | refine tYes_i ?_ | refine tTM_i ?_ | refine tPar_i ?_ | refine tSl_i ?_ | refine tNoPart_i ?_ | refine tPart_i ?_ | refine part_i ?_ | refine tMake_i ?_ | refine tProp_i ?_ | refine tCallOG_i ?_ | refine tVeI_i ?_ | refine tOst_i ?_ | refine tMkO_i ?_ | refine sFld_i ?_ | refine fldaug_i ?_ | refine gCons_i ?_ | refine gNil_i ?_ | refine tChain_i ?_ | refine tBM_i ?_ | refine rAdd2_i ?_ | refine rLe2_i ?_ | refine rEq2_i ?_ | refine rEq2_ss ?_ | refine rNe2_i ?_ | refine rNe2_ss ?_ | refine rIsN_i ?_ | refine rNotN_i ?_ | refine tTup_i2 ?_ | refine tIf_i ?_ | refine tUn_i ?_ | refine tDGet_i ?_ | refine sDPut_i ?_ | refine tFld_i ?_ | refine tRetN_i ?_ | refine tBreak_i ?_ | refine tCont_i ?_ | refine rU_i ?_)
local macro_rules | `(tactic| walk_at "yhead") => `(tactic| dsimp only [L2.start, List.map, List.length_cons, List.length_nil, Nat.reduceAdd, Nat.reduceSub, List.replicate, List.cons_append, List.nil_append])
local macro_rules | `(tactic| walk_at "y2") => `(tactic| first
  | walk_at "y1"
  | ((with_reducible refine tVar_i (v := ?v) ?h ?q); (case h => rfl))
  | ((with_reducible refine gName_i ?_); (dsimp only [L2.wipe, List.set]))
  | with_reducible refine iteT ?_ | with_reducible refine iteF ?_ | with_reducible refine iteNT ?_ | with_reducible refine iteNF ?_
  | ((with_reducible refine iteDT ?h ?q); (case h => first | decide +kernel | omega | assumption | exact nv1 | exact nv2 | exact nv3 | exact nv4)) | ((with_reducible refine iteDF ?h ?q); (case h => first | decide +kernel | omega | assumption | exact nv1 | exact nv2 | exact nv3 | exact nv4))
  | ((with_reducible refine iteNDT ?h ?q); (case h => first | decide +kernel | omega | assumption | exact nv1 | exact nv2 | exact nv3 | exact nv4)) | ((with_reducible refine iteNDF ?h ?q); (case h => first | decide +kernel | omega | assumption | exact nv1 | exact nv2 | exact nv3 | exact nv4))
  | ((with_reducible refine rIsi2_1 (T := ?T) (b := true) ?ty ?h ?q); (case ty => first | exact ty_str | exact ty_int | exact ty_bl | exact ty_non); (case h => decide +kernel))
  | ((with_reducible refine rIsi2_1 (T := ?T) (b := false) ?ty ?h ?q); (case ty => first | exact ty_str | exact ty_int | exact ty_bl | exact ty_non); (case h => decide +kernel))
  | ((with_reducible refine rEq2_s ?h ?q); (case h => rfl)) | ((with_reducible refine rNe2_s ?h ?q); (case h => rfl))
  | ((with_reducible refine rEq_i ?h ?q); (case h => rfl)) | ((with_reducible refine rNe_i ?h ?q); (case h => rfl)))
local macro_rules | `(tactic| walk_at "y") => `(tactic| repeat walk_at "y2")

section
variable {X : Cx} {K : PySem.W.Frag}
/-- l.index(k), a whole number that is there -/
def rLIdx (K : PySem.W.Frag) : V → List V → Hp → VK → Prop := fun x xs H Q => ∃ (p : Addr) (ns : List Int) (k : Int), x = .ref p ∧ xs = [.int k] ∧ H p = some (.lst (ns.map V.int)) ∧ k ∈ ns ∧ Q (.int (ns.idxOf k : Nat)) H
theorem mt_lidx (hK : X.K = K) : MtR X "list.index" (rLIdx K) := by
  subst hK
  intro pins s σ H x xs v us Q I rx rs h
  obtain ⟨p, ns, k, rfl, rfl, hp, hk, q⟩ := h
  cases (show v = Value.ref p from rx)
  obtain ⟨u, rfl, t, rfl⟩ := vals1 rs
  obtain ⟨its, r, pl, hz⟩ := I.list (SqL.of hp)
  have hl : s.heap.IsList p its.toArray := by
    obtain ⟨o, m, e, c, d, q⟩ := pl
    exact ⟨o, e, c, m, q⟩
  have hn : ns.length ≤ sizeLine := by simpa using hz
  exact PySem.SeqAt.list_index_ints hl r.ints hn hk ⟨.int (ns.idxOf k : Nat), H, I.tok _, ⟨_, rfl⟩, q⟩
end
section
variable {P : Program} {w : World} {K : PySem.W.Frag} {mg : Str → Option Value} {base : Heap}
def spNext (K : PySem.W.Frag) : Sp := sp2 fun x y H Q _ => ∃ fs f, FAt K H fs ∧ f < fs.length ∧ x = .ref (ad fs f) ∧ y = .str "cause" ∧ Q (lnk fs (causeOf fs f)) H
theorem sc__law_next : FnScope ["_law_fault", "_law_which"] ["_law_fault", "_law_which"] (defScope (top 41)) := ⟨rfl, rfl, rfl, by decide +kernel, rfl, by decide +kernel, by decide +kernel⟩
theorem c__law_next (T : Sy K mg) : Cal gd P w K mg base CX0 3 "_law_next" (spNext K) := by
  refine T.cal (F_law_next T) sc__law_next sp2_len (fun cdv f A outer s H vs Q E z h => ?_) (fun _ _ _ _ _ _ us hl => match us, hl with | [_, _], _ => rfl)
  have hu1 := hu_1 z; have hu2 := hu_2 z; have hu3 := hu_3 z
  obtain ⟨x0, x1, rfl, h⟩ := h
  obtain ⟨fs, f, fa, hf, rfl, rfl, q⟩ := h
  refine ⟨_, (pss_one (ps_ret (pe_ifExp (pt_cmpR (r := rEq2 K) (op_eq2 hu1) (pv 1) pe_str (nomark _)) (pe_prK (K := K) rfl (p_context T) z (pv 0)) (pe_prK (K := K) rfl (p_cause T) z (pv 0))))), ?_⟩
  obtain ⟨r, er⟩ := get_lt hf
  walk_at "yhead"; walk_at "y"
  refine spFld_i (by rw [ad_at er]; exact fa.at_ f r er) frow_u ?_
  rw [show causeOf fs f = r.u from (by show (fs[f]?).bind Flt1.u = _; rw [er]; rfl)] at q
  exact q
theorem nat_ints {R : List Nat} {n : Nat} : (V.int (n : Nat)) = (fun n : Nat => V.int n) n := rfl
def iN (R : List Nat) : List Int := R.map fun n : Nat => (n : Int)
theorem iN_mem {R : List Nat} {n : Nat} : ((n : Int) ∈ iN R) ↔ n ∈ R := by
  unfold iN
  constructor
  · intro h
    obtain ⟨m, h1, h2⟩ := List.mem_map.mp h
    rwa [← Int.ofNat.inj h2]
  · exact fun h => List.mem_map_of_mem h
theorem iN_idx {n : Nat} : ∀ {R : List Nat}, (iN R).idxOf (n : Int) = R.idxOf n
  | [] => rfl
  | a :: R => by
    have ih := iN_idx (n := n) (R := R)
    show ((a : Int) :: iN R).idxOf (n : Int) = _
    rw [List.idxOf_cons, List.idxOf_cons, ih]
    by_cases e : a = n
    · subst e; simp
    · rw [show (a == n) = false from by simpa using e, show ((a : Int) == (n : Int)) = false from by simpa using fun z : (a : Int) = n => e (Int.ofNat.inj z)]
theorem iN_V {R : List Nat} : (iN R).map V.int = R.map fun n : Nat => V.int n := by unfold iN; rw [List.map_map]; rfl
def spLawCyc (K : PySem.W.Frag) : Sp := sp3 fun x y m H Q _ => ∃ fs f, FAt K H fs ∧ fs.length ≤ 100 ∧ f < fs.length ∧ x = .ref (ad fs f) ∧ y = .str "cause" ∧ m = .int (fs.length : Nat) ∧ ∀ D H', H D = none → Same H H' → H' D = some (.lst ((cycOf (causeOf fs) fs.length f).map fun n : Nat => V.int n)) → Q (.ref D) H'
theorem itN_lt {H : Hp} {fs : List Flt1} (h : FAt K H fs) {f : Nat} (hf : f < fs.length) : ∀ k j, itN (causeOf fs) f k = some j → j < fs.length
  | 0, j, e => by cases e; exact hf
  | k + 1, j, e => by
    have e : (itN (causeOf fs) f k).bind (causeOf fs) = some j := e
    cases q : itN (causeOf fs) f k with
    | none => rw [q] at e; cases e
    | some a => rw [q] at e; exact nx_lt h (b := false) (i := a) e
theorem sc__law_cycle : FnScope ["_law_fault", "_law_which", "_law_many", "_law_here", "_law_step", "_law_inside", "_law_passed", "_law_at"] ["_law_fault", "_law_which", "_law_many"] (defScope (top 42)) := ⟨rfl, rfl, rfl, by decide +kernel, rfl, by decide +kernel, by decide +kernel⟩
theorem c__law_cycle (T : Sy K mg) : Cal gd P w K mg base CX0 4 "_law_cycle" (spLawCyc K) := by
  refine T.cal (F_law_cycle T) sc__law_cycle sp3_len (fun cdv f A outer s H vs Q E z h => ?_) (fun _ _ _ _ _ _ us hl => match us, hl with | [_, _, _], _ => rfl)
  have hu1 := hu_1 z; have hu2 := hu_2 z; have hu3 := hu_3 z
  obtain ⟨x0, x1, x2, rfl, h⟩ := h
  obtain ⟨fs, f, fa, hL, hf, rfl, rfl, rfl, q⟩ := h
  refine ⟨_, (pss_cons (ps_set (i := 3) sc__law_cycle.nd rfl (by first | exact Or.inl rfl | exact Or.inr rfl) (pv 0)) (pss_cons (ps_for PassesOwn.never (by rfl) (pi_range1 (by rfl) (T.free "range") (pa_cons (pv 2) pa_nil)) (pg_name (i := 4) sc__law_cycle.nd rfl (by first | exact Or.inl rfl | exact Or.inr rfl)) (pss_one (ps_set (i := 3) sc__law_cycle.nd rfl (by first | exact Or.inl rfl | exact Or.inr rfl) (pe_ifExp (pt_cmpR (r := rIsN) op_isN (pv 3) pe_non (nomark _)) pe_non (pe_c (c__law_next T) z (pa_cons (pv 3) (pa_cons (pv 1) pa_nil))))))) (pss_cons (ps_if (pt_cmpR (r := rIsN) op_isN (pv 3) pe_non (nomark _)) (pss_one (ps_ret (pe_lst pa_nil))) pss_nil) (pss_cons (ps_par (i := 5) (j := 6) (by rfl) sc__law_cycle.nd rfl rfl (by decide) rfl rfl (pa_cons (pe_lst pa_nil) (pa_cons (pv 3) pa_nil)) (by rfl)) (pss_cons (ps_while PassesOwn.never (pt_cmpR (r := rNotIn2 K) (op_notIn2 hu2) (pe_prK (K := K) rfl (p_number T) z (pv 6)) (pv 5) rfl) (pss_cons (ps_expr (pe_bmK (K := K) rfl PySem.F.plainAttrs_list PySem.F.slot_list_append PySem.F.type_list_append mt_append2 (pv 5) (pa_cons (pe_prK (K := K) rfl (p_number T) z (pv 6)) pa_nil))) (pss_one (ps_set (i := 6) sc__law_cycle.nd rfl (by first | exact Or.inl rfl | exact Or.inr rfl) (pe_c (c__law_next T) z (pa_cons (pv 6) (pa_cons (pv 1) pa_nil))))))) (pss_cons (ps_set (i := 3) sc__law_cycle.nd rfl (by first | exact Or.inl rfl | exact Or.inr rfl) (pv 0)) (pss_cons (ps_while PassesOwn.never (pt_cmpR (r := rNotIn2 K) (op_notIn2 hu2) (pe_prK (K := K) rfl (p_number T) z (pv 3)) (pv 5) rfl) (pss_one (ps_set (i := 3) sc__law_cycle.nd rfl (by first | exact Or.inl rfl | exact Or.inr rfl) (pe_c (c__law_next T) z (pa_cons (pv 3) (pa_cons (pv 1) pa_nil)))))) (pss_cons (ps_set (i := 7) sc__law_cycle.nd rfl (by first | exact Or.inl rfl | exact Or.inr rfl) (pe_bmK (K := K) rfl PySem.F.plainAttrs_list PySem.F.slot_list_index PySem.F.type_list_index (mt_lidx (K := K) rfl) (pv 5) (pa_cons (pe_prK (K := K) rfl (p_number T) z (pv 3)) pa_nil))) (pss_one (ps_ret (pe_op (r := rAdd2 K) op_add2 (pe_slice (r := rSl2 K) sl_2 (pv 5) (po_some (pv 7)) po_none) (pe_slice (r := rSl2 K) sl_2 (pv 5) po_none (po_some (pv 7)))))))))))))), ?_⟩
  walk_at "yhead"; walk_at "y"
  refine for_r1 ?_
  walk_at "y"
  refine ⟨_, rfl, by omega, by omega, for_it walk_range (Pv := fun i σ H' => H' = H ∧ ∃ x, σ = [some (.ref (ad fs f)), some (.str "cause"), some (.int (fs.length : Nat)), some (lnk fs (itN (causeOf fs) f i)), x, none, none, none]) ⟨rfl, none, by rw [show itN (causeOf fs) f 0 = some f from rfl, show lnk fs (some f) = .ref (ad fs f) from adr_ad hf]⟩ (fun _ _ _ _ _ => trivial) (fun i x σ H5 H6 hi hp5 y => ?_) fun σ H' hp' => ?_⟩
  · obtain ⟨rfl, x0, rfl⟩ := hp5
    obtain ⟨rfl, rfl⟩ := y
    walk_at "y"
    cases e : itN (causeOf fs) f i with
    | none =>
      rw [show lnk fs none = .non from rfl]
      walk_at "y"
      exact ⟨rfl, _, by rw [show itN (causeOf fs) f (i + 1) = none from it_none e 1]; rfl⟩
    | some a =>
      have ha := itN_lt fa hf i a e
      rw [show lnk fs (some a) = .ref (ad fs a) from adr_ad ha]
      walk_at "y"
      refine ⟨_, _, rfl, fs, a, fa, ha, rfl, rfl, ?_⟩
      walk_at "y"
      exact ⟨rfl, _, by rw [show itN (causeOf fs) f (i + 1) = causeOf fs a from (by show (itN (causeOf fs) f i).bind _ = _; rw [e]; rfl)]⟩
  obtain ⟨rfl, x0, rfl⟩ := hp'
  have hn2 : ∀ {n : Nat}, n ≤ 100 → n < sizeLine := fun h => Nat.lt_of_le_of_lt h (sz4 (n := 101))
  rw [show ((fs.length : Int)).toNat = fs.length by omega]
  rcases law_round (nx := causeOf fs) (fun i j h => nx_lt fa (b := false) (i := i) h) hf with ⟨e0, en⟩ | ⟨qs, j, h, R, _, hj, hit, en, cc, h0, hm, hr, hRl, hRb, hqb⟩
  · rw [en, show lnk fs none = .non from rfl]
    walk_at "y"
    refine ⟨sz4 (by simp), fun D nD => ?_⟩
    have sH1 := same_upd (H := H') (o := .lst []) nD
    have eD := upd_same (H := H') (a := D) (o := .lst [])
    generalize upd H' D (.lst []) = H1 at sH1 eD ⊢
    exact q D H1 nD sH1 (by rw [e0]; exact eD)
  have getR : ∀ {k : Nat}, k < R.length → ∃ r, fs[R.getD k 0]? = some r := fun {k} hk => get_lt (hRb _ (by
    rw [List.getD_eq_getElem?_getD, List.getElem?_eq_getElem hk]
    exact List.getElem_mem hk))
  have hh := itN_lt fa hf _ _ en
  rw [en, show lnk fs (some h) = .ref (ad fs h) from adr_ad hh]
  walk_at "y"
  refine ⟨sz4 (by simp), fun D nD => ?_⟩
  have sH1 := same_upd (H := H') (o := .lst []) nD
  have eD := upd_same (H := H') (a := D) (o := .lst [])
  generalize upd H' D (.lst []) = H1 at sH1 eD ⊢
  walk_at "y"
  refine ⟨_, _, rfl, ?_⟩
  walk_at "y"
  have fa1 := fa.same sH1
  have num : ∀ {H2 : Hp} {n : Nat} {Q' : VK} {E' : XK}, Same H1 H2 ∨ (∀ b o, H' b = some o → H2 b = some o) → n < fs.length → Q' (.int (n : Nat)) H2 → ∃ a' dx' fs', V.ref (ad fs n) = .ref a' ∧ H2 a' = some (.ins (He.ga K "Fault") dx' fs') ∧ spFld K "Fault" "s1_number" (.ref a' :: []) H2 Q' E' := fun {H2 n Q' E'} s hn qq => by
    obtain ⟨r, er⟩ := get_lt hn
    have s : Same H' H2 := s.elim (fun s => sH1.trans s) fun s => s
    exact spFld_i (by rw [ad_at er]; exact (fa.same s).at_ n r er) frow_n qq
  have rB : ∀ k, k < R.length → R.getD k 0 < fs.length := fun k hk => hRb _ (by
    rw [List.getD_eq_getElem?_getD, List.getElem?_eq_getElem hk]
    exact List.getElem_mem hk)
  have tk : ∀ k, k < R.length → R.getD k 0 ∉ R.take k := fun k hk hm => by
    obtain ⟨i, h1, h2⟩ := List.mem_iff_getElem.mp hm
    have h1' : i < k := by rw [List.length_take] at h1; omega
    have h3 : R.getD i 0 = R.getD k 0 := by
      rw [List.getD_eq_getElem?_getD, List.getElem?_eq_getElem (show i < R.length by omega), ← h2, List.getElem_take]
      rfl
    have := getD_inj cc.nd (by omega) hk h3
    omega
  have lms : ∀ {L : List Nat}, (L.map fun n : Nat => V.int n) = (iN L).map V.int := iN_V.symm
  refine ⟨fun m σ H2 => ∃ k, m + k = R.length ∧ (∃ y, σ = [some (.ref (ad fs f)), some (.str "cause"), some (.int (fs.length : Nat)), some (.ref (ad fs h)), x0, some (.ref D), some (.ref (ad fs (R.getD (k % R.length) 0))), y]) ∧ (∀ b o, H' b = some o → H2 b = some o) ∧ H2 D = some (.lst ((iN (R.take k)).map V.int)),
    ⟨R.length, 0, rfl, ⟨none, by rw [Nat.zero_mod, h0]; rfl⟩, sH1, eD⟩, fun m σ H2 hw => ?_⟩
  obtain ⟨k, hk, ⟨y, rfl⟩, s2, hD2⟩ := hw
  have pm := Nat.mod_lt k cc.pos
  walk_at "y"
  refine num (.inr s2) (rB _ pm) ?_
  walk_at "y"
  refine rNotIn2_f (b := true) (SqL.of hD2) rfl (flat_ints _) ?_
  rw [inV_ints]
  by_cases c : k < R.length
  · rw [Nat.mod_eq_of_lt c, decide_eq_false fun z => tk k c (iN_mem.mp z)]
    refine ⟨_, rfl, ?_⟩
    rw [if_pos (by decide)]
    cases m with
    | zero => omega
    | succ m =>
    refine ⟨fun σ' H3 => (∃ y, σ' = [some (.ref (ad fs f)), some (.str "cause"), some (.int (fs.length : Nat)), some (.ref (ad fs h)), x0, some (.ref D), some (.ref (ad fs (R.getD ((k + 1) % R.length) 0))), y]) ∧ (∀ b o, H' b = some o → H3 b = some o) ∧ H3 D = some (.lst ((iN (R.take (k + 1))).map V.int)), fun σ' H3 hn => ⟨m, Nat.lt_succ_self _, k + 1, by omega, hn.1, hn.2.1, hn.2.2⟩, ?_⟩
    walk_at "y"
    refine ⟨.inl ⟨rfl, _, SqL.of hD2⟩, ?_⟩
    walk_at "y"
    refine num (.inr s2) (rB k c) ?_
    walk_at "y"
    refine appU_i hD2 (hn2 (by unfold iN; rw [List.length_map, List.length_map, List.length_take]; omega)) fun H3 h3 u3 => ?_
    walk_at "y"
    have s3 : ∀ b o, H' b = some o → H3 b = some o := fun b o e => (u3 b (ne_of_none e nD)).trans (s2 b o e)
    refine ⟨_, _, rfl, fs, _, fa.same s3, rB k c, rfl, rfl, ?_⟩
    have hx := cc.nx k c
    rw [hx, show lnk fs (some (R.getD ((k + 1) % R.length) 0)) = .ref (ad fs (R.getD ((k + 1) % R.length) 0)) from adr_ad (rB _ (Nat.mod_lt _ cc.pos))]
    walk_at "y"
    refine ⟨⟨_, rfl⟩, s3, ?_⟩
    rw [h3, List.take_succ, List.getElem?_eq_getElem c]
    unfold iN
    rw [List.map_append, List.map_append, List.getD_eq_getElem?_getD, List.getElem?_eq_getElem c]
    rfl
  · have ek : k = R.length := by omega
    subst ek
    rw [Nat.mod_self, decide_eq_true (iN_mem.mpr (show R.getD 0 0 ∈ R.take R.length by rw [List.take_length, List.getD_eq_getElem?_getD, List.getElem?_eq_getElem cc.pos]; exact List.getElem_mem _))]
    rw [List.take_length] at hD2
    refine ⟨_, rfl, ?_⟩
    rw [if_neg (by decide)]
    walk_at "y"
    refine ⟨fun m σ H3 => ∃ i y z u, m + i = j ∧ H3 = H2 ∧ σ = [some (.ref (ad fs f)), some (.str "cause"), some (.int (fs.length : Nat)), some (.ref (ad fs (qs.getD i 0))), y, some (.ref D), z, u], ⟨j, 0, x0, some (.ref (ad fs (R.getD 0 0))), y, rfl, rfl, ?_⟩, fun m σ H3 hw => ?_⟩
    · have e : f = qs.getD 0 0 := Option.some.inj (hit 0 (Nat.zero_le _))
      rw [← e]
    obtain ⟨i, y2, z2, u2, hi, rfl, rfl⟩ := hw
    have hqi := hqb (qs.getD i 0) (by rw [List.getD_eq_getElem?_getD, List.getElem?_eq_getElem (show i < qs.length by omega)]; exact List.getElem_mem _)
    walk_at "y"
    refine num (.inr s2) hqi ?_
    walk_at "y"
    refine rNotIn2_f (b := true) (SqL.of hD2) rfl (flat_ints _) ?_
    rw [inV_ints]
    by_cases c2 : i = j
    · subst c2
      rw [decide_eq_true (iN_mem.mpr ((hm i (Nat.le_refl _)).mpr rfl))]
      refine ⟨_, rfl, ?_⟩
      rw [if_neg (by decide)]
      walk_at "y"
      refine ⟨.inl ⟨rfl, _, SqL.of hD2⟩, ?_⟩
      walk_at "y"
      refine num (.inr s2) hqi ?_
      walk_at "y"
      refine ⟨D, iN R, _, rfl, rfl, hD2, iN_mem.mpr ((hm i (Nat.le_refl _)).mpr rfl), ?_⟩
      rw [iN_idx]
      generalize ht : R.idxOf (qs.getD i 0) = t at hr ⊢
      walk_at "y"
      refine ⟨_, rfl, ?_⟩
      walk_at "y"
      refine rSl2_l (N := fun _ _ => True) (SqL.of hD2) fun g1 n1 => ?_
      rw [cut_from]
      have sG1 := same_upd (o := .lst (((iN R).map V.int).drop t)) n1
      have eG1 := upd_same (H := H3) (a := g1) (o := .lst (((iN R).map V.int).drop t))
      generalize upd H3 g1 (.lst (((iN R).map V.int).drop t)) = H4 at sG1 eG1 ⊢
      walk_at "y"
      refine ⟨_, rfl, ?_⟩
      refine rSl2_l (N := fun _ _ => True) (SqL.of (sG1 _ _ hD2)) fun g2 n2 => ?_
      rw [cut_to]
      have sG2 := same_upd (o := .lst (((iN R).map V.int).take t)) n2
      have eG2 := upd_same (H := H4) (a := g2) (o := .lst (((iN R).map V.int).take t))
      generalize upd H4 g2 (.lst (((iN R).map V.int).take t)) = H5 at sG2 eG2 ⊢
      have lR : ((iN R).map V.int).length = R.length := by unfold iN; rw [List.length_map, List.length_map]
      have hsz : (((iN R).map V.int).drop t).length + (((iN R).map V.int).take t).length ≤ sizeLine := by
        rw [List.length_drop, List.length_take, lR]
        exact Nat.le_of_lt (hn2 (show R.length - t + min t R.length ≤ 100 by omega))
      refine rAdd2_l (sG2 _ _ eG1) eG2 hsz fun g3 n3 => ?_
      have sAll : Same H' H5 := fun b o e => sG2 _ _ (sG1 _ _ (s2 b o e))
      refine q g3 _ (sAll.free n3) (sAll.trans (same_upd n3)) ?_
      rw [upd_same, ← hr, ← iN_V]
      unfold iN
      rw [List.map_append, List.map_append, List.map_drop, List.map_take, List.map_drop, List.map_take]
    · rw [decide_eq_false fun z => c2 ((hm i (by omega)).mp (iN_mem.mp z))]
      refine ⟨_, rfl, ?_⟩
      rw [if_pos (by decide)]
      cases m with
      | zero => omega
      | succ m =>
      refine ⟨fun σ' H4 => H4 = H3 ∧ ∃ y z u, σ' = [some (.ref (ad fs f)), some (.str "cause"), some (.int (fs.length : Nat)), some (.ref (ad fs (qs.getD (i + 1) 0))), y, some (.ref D), z, u], fun σ' H4 hn => (let ⟨e, y, z, u, e2⟩ := hn; ⟨m, Nat.lt_succ_self _, i + 1, y, z, u, by omega, e, e2⟩), ?_⟩
      walk_at "y"
      refine ⟨_, _, rfl, fs, _, fa.same s2, hqi, rfl, rfl, ?_⟩
      have h1 := hit i (by omega)
      have h2 := hit (i + 1) (by omega)
      have h2 : (itN (causeOf fs) f i).bind (causeOf fs) = _ := h2
      rw [h1] at h2
      have h2 : causeOf fs (qs.getD i 0) = _ := h2
      have hqi1 := hqb (qs.getD (i + 1) 0) (by rw [List.getD_eq_getElem?_getD, List.getElem?_eq_getElem (show i + 1 < qs.length by omega)]; exact List.getElem_mem _)
      rw [h2, show lnk fs (some (qs.getD (i + 1) 0)) = .ref (ad fs (qs.getD (i + 1) 0)) from adr_ad hqi1]
      walk_at "y"
      exact ⟨rfl, _, _, _, rfl⟩
end

end L77
namespace L77
open PySem PySem.Spec PyProof.Rows L2
variable {gd : Bool}
local macro_rules | `(tactic| walk_at "y1") => `(tactic| with_reducible first
  | refine tSeq_i ?_ | refine tAsg_i ?_ | refine tCons_i ?_ | refine tNil_i ?_ | refine tC_i ?_ | refine tOp_i ?_ | refine tIfS_i ?_ | refine tTest_i ?_ | refine exBl_i ?_ | refine tRet_i ?_ | refine tCall_i ?_
  | refine tCB_i ?_ | refine tLst_i ?_ | refine tTup_i ?_ | refine rI0_i ?_ | refine tDrop_i ?_ | refine tNext_i ?_ | refine tB_i ?_ | refine tAnd_i ?_ | refine tOr_i ?_ | refine tNot_i ?_ | refine tAndV_i ?_ | refine tOrV_i ?_ | refine tNotV_i ?_
  | refine tYes_i ?_ | refine tTM_i ?_ | refine tPar_i ?_ | refine tSl_i ?_ | refine tNoPart_i ?_ | refine tPart_i ?_ | refine part_i ?_ | refine tMake_i ?_ | refine tProp_i ?_ | refine tCallOG_i ?_ | refine tVeI_i ?_ | refine tOst_i ?_ | refine tMkO_i ?_ | refine sFld_i ?_ | refine fldaug_i ?_ | refine gCons_i ?_ | refine gNil_i ?_ | refine tChain_i ?_ | refine tBM_i ?_ | refine rAdd2_i ?_ | refine rLe2_i ?_ | refine rEq2_i ?_ | refine rEq2_ss ?_ | refine rNe2_i ?_ | refine rNe2_ss ?_ | refine rIsN_i ?_ | refine rNotN_i ?_ | refine tTup_i2 ?_ | refine tIf_i ?_ | refine tUn_i ?_ | refine tDGet_i ?_ | refine sDPut_i ?_ | refine tFld_i ?_ | refine tRetN_i ?_ | refine tBreak_i ?_ | refine tCont_i ?_ | refine rU_i ?_)
local macro_rules | `(tactic| walk_at "yhead") => `(tactic| dsimp only [L2.start, List.map, List.length_cons, List.length_nil, Nat.reduceAdd, Nat.reduceSub, List.replicate, List.cons_append, List.nil_append])
local macro_rules | `(tactic| walk_at "y2") => `(tactic| first
  | walk_at "y1"
  | ((with_reducible refine tVar_i (v := ?v) ?h ?q); (case h => rfl))
  | ((with_reducible refine gName_i ?_); (dsimp only [L2.wipe, List.set]))
  | with_reducible refine iteT ?_ | with_reducible refine iteF ?_ | with_reducible refine iteNT ?_ | with_reducible refine iteNF ?_
  | ((with_reducible refine iteDT ?h ?q); (case h => first | decide +kernel | omega | assumption | exact nv1 | exact nv2 | exact nv3 | exact nv4)) | ((with_reducible refine iteDF ?h ?q); (case h => first | decide +kernel | omega | assumption | exact nv1 | exact nv2 | exact nv3 | exact nv4))
  | ((with_reducible refine iteNDT ?h ?q); (case h => first | decide +kernel | omega | assumption | exact nv1 | exact nv2 | exact nv3 | exact nv4)) | ((with_reducible refine iteNDF ?h ?q); (case h => first | decide +kernel | omega | assumption | exact nv1 | exact nv2 | exact nv3 | exact nv4))
  | ((with_reducible refine rIsi2_1 (T := ?T) (b := true) ?ty ?h ?q); (case ty => first | exact ty_str | exact ty_int | exact ty_bl | exact ty_non); (case h => decide +kernel))
  | ((with_reducible refine rIsi2_1 (T := ?T) (b := false) ?ty ?h ?q); (case ty => first | exact ty_str | exact ty_int | exact ty_bl | exact ty_non); (case h => decide +kernel))
  | ((with_reducible refine rEq2_s ?h ?q); (case h => rfl)) | ((with_reducible refine rNe2_s ?h ?q); (case h => rfl))
  | ((with_reducible refine rEq_i ?h ?q); (case h => rfl)) | ((with_reducible refine rNe_i ?h ?q); (case h => rfl)))
local macro_rules | `(tactic| walk_at "y") => `(tactic| repeat walk_at "y2")

section
variable {P : Program} {w : World} {K : PySem.W.Frag} {mg : Str → Option Value} {base : Heap}
/-- the items at these places -/
def pk (is : List Nat) (vs : List V) : List V := is.map fun i => vs.getD i .non
theorem pk_all (vs : List V) : pk (List.range vs.length) vs = vs := by
  unfold pk
  refine List.ext_getElem (by simp) fun i h1 h2 => ?_
  simp only [List.getElem_map, List.getElem_range, List.getD_eq_getElem?_getD, List.getElem?_eq_getElem h2]
  rfl
theorem cut_mid {xs : List V} (k l : Nat) : cutV xs (some (k : Int)) (some (l : Int)) = (xs.drop (min k xs.length)).take (min l xs.length - min k xs.length) := by
  unfold cutV
  rw [HT.sIx_nat, HT.sIx_nat]
def spSpoil (K : PySem.W.Frag) : Sp := sp2 fun sv rv H Q _ => ∃ p L c t g vs, sv = .ref p ∧ H p = some (.dK (stK L c t)) ∧ 0 ≤ L ∧ 0 ≤ t ∧ t < 10000000 ∧ rv = .ref g ∧ H g = some (.lst vs) ∧ 1 ≤ vs.length ∧ vs.length ≤ 16 ∧
  ∀ r is L' t' H', (∀ i ∈ is, i < vs.length) → is.length ≤ vs.length + 1 → H' r = some (.lst (pk is vs)) → (∀ b o, H b = some o → b ≠ p → H' b = some o) → H' p = some (.dK (stK L' c t')) → 0 ≤ L' → t ≤ t' → t' ≤ t + 8 → Q (.ref r) H'
theorem rSl2_g {lo hi : Option Int} {H : Hp} {a : Addr} {xs ys : List V} {Q : VK} (h : H a = some (.lst xs)) (e : cutV xs lo hi = ys) (q : ∀ p H', H p = none → Same H H' → H' p = some (.lst ys) → Q (.ref p) H') : rSl2 K (.ref a) lo hi H Q := by
  subst e
  exact rSl2_l (N := fun _ _ => True) (SqL.of h) fun p hp => q p _ hp (same_upd hp) upd_same
theorem rAdd2_g {H : Hp} {a b : Addr} {xs zs : List V} {Q : VK} (h1 : H a = some (.lst xs)) (h2 : H b = some (.lst zs)) (hz : xs.length + zs.length ≤ 100) (q : ∀ p H', H p = none → Same H H' → H' p = some (.lst (xs ++ zs)) → Q (.ref p) H') : rAdd2 K (.ref a) (.ref b) H Q :=
  rAdd2_l h1 h2 (Nat.le_trans hz (sz4 (n := 100))) fun p hp => q p _ hp (same_upd hp) upd_same
theorem tRevL_i {te : TE} {σ : L2.St} {H : Hp} {Q : VK} (q : te σ H fun x H1 => ∃ a xs, x = .ref a ∧ SqL K H1 a xs ∧ ∀ p, H1 p = none → Q (.ref p) (upd H1 p (.lst xs.reverse))) : tRevL K te σ H Q := q
theorem sc__law_spoilt : FnScope ["_law_state", "_law_rows", "_law_way", "_law_at"] ["_law_state", "_law_rows"] (defScope (top 45)) := ⟨rfl, rfl, rfl, by decide +kernel, rfl, by decide +kernel, by decide +kernel⟩
theorem c__law_spoilt (T : Sy K mg) : Cal gd P w K mg base CX0 4 "_law_spoilt" (spSpoil K) := by
  refine T.cal (F_law_spoilt T) sc__law_spoilt sp2_len (fun cdv f A outer s H vs Q E z h => ?_) (fun _ _ _ _ _ _ us hl => match us, hl with | [_, _], _ => rfl)
  have hu1 := hu_1 z; have hu2 := hu_2 z; have hu3 := hu_3 z
  obtain ⟨x0, x1, rfl, h⟩ := h
  obtain ⟨p, L, c, t, g, vs, rfl, hp, L0, t0, t1, rfl, hg, hv1, hv2, q⟩ := h
  refine ⟨_, (pss_cons (ps_par (i := 2) (j := 3) (by rfl) sc__law_spoilt.nd rfl rfl (by decide) rfl rfl (pa_cons (pe_c (c__law_digit T) z (pa_cons (pv 0) (pa_cons pe_int pa_nil))) (pa_cons (pe_c (c__law_digit T) z (pa_cons (pv 0) (pa_cons (pe_callB (r := rLen2 K) call_len2 (by rfl) (T.free "len") (by decide +kernel) (pa_cons (pv 1) pa_nil)) pa_nil))) pa_nil)) (by rfl)) (pss_cons (ps_if (pt_cmpR (r := rEq2 K) (op_eq2 hu1) (pv 2) pe_int (nomark _)) (pss_one (ps_ret (pe_op (r := rAdd2 K) op_add2 (pe_slice (r := rSl2 K) sl_2 (pv 1) po_none (po_some (pv 3))) (pe_slice (r := rSl2 K) sl_2 (pv 1) (po_some (pe_op (r := rAdd2 K) op_add2 (pv 3) pe_int)) po_none)))) pss_nil) (pss_cons (ps_if (pt_cmpR (r := rEq2 K) (op_eq2 hu1) (pv 2) pe_int (nomark _)) (pss_one (ps_ret (pe_op (r := rAdd2 K) op_add2 (pe_slice (r := rSl2 K) sl_2 (pv 1) po_none (po_some (pe_op (r := rAdd2 K) op_add2 (pv 3) pe_int))) (pe_slice (r := rSl2 K) sl_2 (pv 1) (po_some (pv 3)) po_none)))) pss_nil) (pss_one (ps_ret (pe_ifExp (pt_cmpR (r := rEq2 K) (op_eq2 hu1) (pv 2) pe_int (nomark _)) (pe_op (r := rAdd2 K) op_add2 (pe_op (r := rAdd2 K) op_add2 (pe_slice (r := rSl2 K) sl_2 (pv 1) po_none (po_some (pv 3))) (pe_revL (pe_slice (r := rSl2 K) sl_2 (pv 1) (po_some (pv 3)) (po_some (pe_op (r := rAdd2 K) op_add2 (pv 3) pe_int))))) (pe_slice (r := rSl2 K) sl_2 (pv 1) (po_some (pe_op (r := rAdd2 K) op_add2 (pv 3) pe_int)) po_none)) (pv 1))))))), ?_⟩
  walk_at "yhead"; walk_at "y"
  refine ⟨_, _, rfl, p, L, c, t, 5, rfl, rfl, hp, L0, t0, by omega, by omega, by omega, fun d1 L1 t2 H1 a1 a2 a3 a4 a5 off1 k1 => ?_⟩
  walk_at "y"
  have gp : g ≠ p := fun z => by rw [z, hp] at hg; cases hg
  have hg1 := off1 _ _ hg gp
  refine rLen2_b (b := true) (SqL.of hg1) ?_
  walk_at "y"
  refine ⟨_, _, rfl, p, L1, c, t2, (vs.length : Nat), rfl, rfl, k1, a3, by omega, by omega, by omega, by omega, fun d2 L2 t3 H2 b1 b2 b3 b4 b5 off2 k2 => ?_⟩
  obtain ⟨a, rfl⟩ : ∃ a : Nat, d2 = a := ⟨d2.toNat, by omega⟩
  have ha : a < vs.length := by omega
  have hg2 := off2 _ _ hg1 gp
  refine ⟨_, _, rfl, ?_⟩
  have off02 : ∀ b o, H b = some o → b ≠ p → H2 b = some o := fun b o e nb => off2 _ _ (off1 _ _ e nb) nb
  have cast1 : (a : Int) + 1 = ((a + 1 : Nat) : Int) := rfl
  have cast2 : (a : Int) + 2 = ((a + 2 : Nat) : Int) := rfl
  have R : List.range vs.length = List.range vs.length := rfl
  have pkt : ∀ k, (pk (List.range vs.length) vs).take k = pk ((List.range vs.length).take k) vs := fun k => List.map_take.symm
  have pkd : ∀ k, (pk (List.range vs.length) vs).drop k = pk ((List.range vs.length).drop k) vs := fun k => List.map_drop.symm
  have e0 := pk_all vs
  have lr : (List.range vs.length).length = vs.length := List.length_range
  have mt : ∀ {k i : Nat}, i ∈ (List.range vs.length).take k → i < vs.length := fun h => List.mem_range.mp (List.mem_of_mem_take h)
  have md : ∀ {k i : Nat}, i ∈ (List.range vs.length).drop k → i < vs.length := fun h => List.mem_range.mp (List.mem_of_mem_drop h)
  have fin : ∀ (r : Addr) (is : List Nat) (ys : List V) (H' : Hp), ys = pk is vs → (∀ i ∈ is, i < vs.length) → is.length ≤ vs.length + 1 → Same H2 H' → H' r = some (.lst ys) → Q (.ref r) H' := fun r is ys H' e h1 h2 s h3 =>
    q r is L2 t3 H' h1 h2 (by rw [← e]; exact h3) (fun b o e nb => s _ _ (off02 _ _ e nb)) (s _ _ k2) b3 (by omega) (by omega)
  by_cases w0 : d1 = 0
  · walk_at "y"
    refine ⟨_, rfl, ?_⟩
    refine rSl2_g hg2 (cut_to a) fun g1 H3 n1 s3 h3 => ?_
    walk_at "y"
    refine ⟨_, rfl, ?_⟩
    walk_at "y"
    rw [cast1]
    refine rSl2_g (s3 _ _ hg2) (cut_from (a + 1)) fun g2 H4 n2 s4 h4 => ?_
    refine rAdd2_g (s4 _ _ h3) h4 (by rw [List.length_take, List.length_drop]; omega) fun g3 H5 n3 s5 h5 => ?_
    refine fin g3 ((List.range vs.length).take a ++ (List.range vs.length).drop (a + 1)) _ H5 ?_ ?_ ?_ ((s3.trans s4).trans s5) h5
    · unfold pk
      rw [List.map_append]
      show _ = pk _ vs ++ pk _ vs
      rw [← pkt, ← pkd, e0]
    · intro i hi
      rcases List.mem_append.mp hi with h | h
      · exact mt h
      · exact md h
    · rw [List.length_append, List.length_take, List.length_drop, lr]; omega
  by_cases w1 : d1 = 1
  · subst w1
    walk_at "y"
    refine ⟨_, rfl, ?_⟩
    rw [cast1]
    refine rSl2_g hg2 (cut_to (a + 1)) fun g1 H3 n1 s3 h3 => ?_
    walk_at "y"
    refine ⟨_, rfl, ?_⟩
    walk_at "y"
    refine rSl2_g (s3 _ _ hg2) (cut_from a) fun g2 H4 n2 s4 h4 => ?_
    refine rAdd2_g (s4 _ _ h3) h4 (by rw [List.length_take, List.length_drop]; omega) fun g3 H5 n3 s5 h5 => ?_
    refine fin g3 ((List.range vs.length).take (a + 1) ++ (List.range vs.length).drop a) _ H5 ?_ ?_ ?_ ((s3.trans s4).trans s5) h5
    · unfold pk
      rw [List.map_append]
      show _ = pk _ vs ++ pk _ vs
      rw [← pkt, ← pkd, e0]
    · intro i hi
      rcases List.mem_append.mp hi with h | h
      · exact mt h
      · exact md h
    · rw [List.length_append, List.length_take, List.length_drop, lr]; omega
  by_cases w2 : d1 = 2
  · subst w2
    walk_at "y"
    refine ⟨_, rfl, ?_⟩
    refine rSl2_g hg2 (cut_to a) fun g1 H3 n1 s3 h3 => ?_
    walk_at "y"
    refine tRevL_i ?_
    walk_at "y"
    refine ⟨_, rfl, ?_⟩
    walk_at "y"
    refine ⟨_, rfl, ?_⟩
    rw [cast2]
    refine rSl2_g (s3 _ _ hg2) (cut_mid a (a + 2)) fun g2 H4 n2 s4 h4 => ?_
    rw [Nat.min_eq_left (Nat.le_of_lt ha)] at h4
    have lm : min (a + 2) vs.length - a ≤ 2 := by omega
    have lm2 : min (a + 2) vs.length - a ≤ vs.length - a := by omega
    generalize min (a + 2) vs.length - a = m at h4 lm lm2
    refine ⟨_, _, rfl, SqL.of h4, fun g3 n3 => ?_⟩
    have s5 := same_upd (o := .lst ((vs.drop a).take m).reverse) n3
    have h5 := upd_same (H := H4) (a := g3) (o := .lst ((vs.drop a).take m).reverse)
    generalize upd H4 g3 (.lst ((vs.drop a).take m).reverse) = H5 at s5 h5 ⊢
    refine rAdd2_g ((s4.trans s5) _ _ h3) h5 (by rw [List.length_reverse, List.length_take, List.length_take, List.length_drop]; omega) fun g4 H6 n4 s6 h6 => ?_
    walk_at "y"
    refine ⟨_, rfl, ?_⟩
    walk_at "y"
    rw [cast2]
    have s26 := ((s3.trans s4).trans s5).trans s6
    refine rSl2_g (s26 _ _ hg2) (cut_from (a + 2)) fun g5 H7 n5 s7 h7 => ?_
    refine rAdd2_g (s7 _ _ h6) h7 (by rw [List.length_append, List.length_reverse, List.length_take, List.length_take, List.length_drop, List.length_drop]; omega) fun g6 H8 n6 s8 h8 => ?_
    refine fin g6 ((List.range vs.length).take a ++ (((List.range vs.length).drop a).take m).reverse ++ (List.range vs.length).drop (a + 2)) _ H8 ?_ ?_ ?_ ((s26.trans s7).trans s8) h8
    · have pktd : pk (((List.range vs.length).drop a).take m) vs = ((pk (List.range vs.length) vs).drop a).take m := by unfold pk; rw [List.map_take, List.map_drop]
      unfold pk
      rw [List.map_append, List.map_append, List.map_reverse]
      show _ = pk _ vs ++ (pk _ vs).reverse ++ pk _ vs
      rw [← pkt a, ← pkd (a + 2), pktd, e0]
    · intro i hi
      rcases List.mem_append.mp hi with h | h
      · rcases List.mem_append.mp h with h | h
        · exact mt h
        · exact md (List.mem_of_mem_take (List.mem_reverse.mp h))
      · exact md h
    · rw [List.length_append, List.length_append, List.length_reverse, List.length_take, List.length_take, List.length_drop, List.length_drop, lr]; omega
  walk_at "y"
  exact fin g (List.range vs.length) vs H2 e0.symm (fun i h => List.mem_range.mp h) (by rw [lr]; omega) (Same.refl _) hg2
end

end L77
namespace L77
open PySem PySem.Spec PyProof.Rows L2
variable {gd : Bool}
local macro_rules | `(tactic| walk_at "y1") => `(tactic| with_reducible first
  | refine tSeq_i ?_ | refine tAsg_i ?_ | refine tCons_i ?_ | refine tNil_i ?_ | refine tC_i ?_ | refine tOp_i ?_ | refine tIfS_i ?_ | refine tTest_i ?_ | refine exBl_i ?_ | refine tRet_i ?_ | refine tCall_i ?_
  | refine tCB_i ?_ | refine tLst_i ?_ | refine tTup_i ?_ | refine rI0_i ?_ | refine tDrop_i ?_ | refine tNext_i ?_ | refine tB_i ?_ | refine tAnd_i ?_ | refine tOr_i ?_ | refine tNot_i ?_ | refine tAndV_i ?_ | refine tOrV_i ?_ | refine tNotV_i ?_
  | refine tYes_i ?_ | refine tTM_i ?_ | refine tPar_i ?_ | refine tSl_i ?_ | refine tNoPart_i ?_ | refine tPart_i ?_ | refine part_i ?_ | refine tMake_i ?_ | refine tProp_i ?_ | refine tCallOG_i ?_ | refine tVeI_i ?_ | refine tOst_i ?_ | refine tMkO_i ?_ | refine sFld_i ?_ | refine fldaug_i ?_ | refine gCons_i ?_ | refine gNil_i ?_ | refine tChain_i ?_ | refine tBM_i ?_ | refine rAdd2_i ?_ | refine rLe2_i ?_ | refine rEq2_i ?_ | refine rEq2_ss ?_ | refine rNe2_i ?_ | refine rNe2_ss ?_ | refine rIsN_i ?_ | refine rNotN_i ?_ | refine tTup_i2 ?_ | refine tIf_i ?_ | refine tUn_i ?_ | refine tDGet_i ?_ | refine sDPut_i ?_ | refine tFld_i ?_ | refine tRetN_i ?_ | refine tBreak_i ?_ | refine tCont_i ?_ | refine rU_i ?_)
local macro_rules | `(tactic| walk_at "yhead") => `(tactic| dsimp only [L2.start, List.map, List.length_cons, List.length_nil, Nat.reduceAdd, Nat.reduceSub, List.replicate, List.cons_append, List.nil_append])
local macro_rules | `(tactic| walk_at "y2") => `(tactic| first
  | walk_at "y1"
  | ((with_reducible refine tVar_i (v := ?v) ?h ?q); (case h => rfl))
  | ((with_reducible refine gName_i ?_); (dsimp only [L2.wipe, List.set]))
  | with_reducible refine iteT ?_ | with_reducible refine iteF ?_ | with_reducible refine iteNT ?_ | with_reducible refine iteNF ?_
  | ((with_reducible refine iteDT ?h ?q); (case h => first | decide +kernel | omega | assumption | exact nv1 | exact nv2 | exact nv3 | exact nv4)) | ((with_reducible refine iteDF ?h ?q); (case h => first | decide +kernel | omega | assumption | exact nv1 | exact nv2 | exact nv3 | exact nv4))
  | ((with_reducible refine iteNDT ?h ?q); (case h => first | decide +kernel | omega | assumption | exact nv1 | exact nv2 | exact nv3 | exact nv4)) | ((with_reducible refine iteNDF ?h ?q); (case h => first | decide +kernel | omega | assumption | exact nv1 | exact nv2 | exact nv3 | exact nv4))
  | ((with_reducible refine rIsi2_1 (T := ?T) (b := true) ?ty ?h ?q); (case ty => first | exact ty_str | exact ty_int | exact ty_bl | exact ty_non); (case h => decide +kernel))
  | ((with_reducible refine rIsi2_1 (T := ?T) (b := false) ?ty ?h ?q); (case ty => first | exact ty_str | exact ty_int | exact ty_bl | exact ty_non); (case h => decide +kernel))
  | ((with_reducible refine rEq2_s ?h ?q); (case h => rfl)) | ((with_reducible refine rNe2_s ?h ?q); (case h => rfl))
  | ((with_reducible refine rEq_i ?h ?q); (case h => rfl)) | ((with_reducible refine rNe_i ?h ?q); (case h => rfl)))
local macro_rules | `(tactic| walk_at "y") => `(tactic| repeat walk_at "y2")

section
variable {P : Program} {w : World} {K : PySem.W.Frag} {mg : Str → Option Value} {base : Heap}
def cnt (es : List Ev) (t : Str) (i : Nat) : Nat := ((es.take i).filter fun e => decide (e.tag = t)).length
theorem cnt_succ {es : List Ev} {i : Nat} {e : Ev} (t : Str) (h : es[i]? = some e) : cnt es t (i + 1) = cnt es t i + if e.tag = t then 1 else 0 := by
  unfold cnt
  rw [List.take_succ, h]
  simp only [Option.toList_some, List.filter_append, List.length_append, List.filter_cons, List.filter_nil]
  by_cases q : e.tag = t <;> simp [q]
theorem tag_op (e : Ev) : (if e.tag = Str.ofString "open" then 1 else 0 : Nat) = (match e with | .op _ => 1 | _ => 0) := by
  cases e <;> simp only [Ev.tag] <;> first | rfl | (rw [if_neg (by decide +kernel)])
theorem tag_fa (e : Ev) : (if e.tag = Str.ofString "fault" then 1 else 0 : Nat) = (match e with | .fa _ _ _ => 1 | _ => 0) := by
  cases e <;> simp only [Ev.tag] <;> first | rfl | (rw [if_neg (by decide +kernel)])
theorem opened_cnt (es : List Ev) : ∀ i, i ≤ es.length → (stAt es i).opened = (cnt es "open" i : Nat) ∧ (stAt es i).made = (cnt es "fault" i : Nat)
  | 0, _ => ⟨rfl, rfl⟩
  | i + 1, h => by
    obtain ⟨h1, h2⟩ := opened_cnt es i (by omega)
    have e1 : es[i]? = some es[i] := List.getElem?_eq_getElem (by omega)
    rw [stAt_succ e1, cnt_succ _ e1, cnt_succ _ e1, tag_op, tag_fa]
    cases es[i] <;> simp only [WSt.step] <;> omega
theorem inFO {n : Str} : inV (.str n) [.str "fault", .str "open"] = (decide (Str.ofString "fault" = n) || decide (Str.ofString "open" = n)) := by
  unfold inV
  simp only [List.any_cons, List.any_nil, Bool.or_false]
  show (decide _ || decide _) = _
  rfl
def isOF : Ev → Bool | .op _ => true | .fa _ _ _ => true | _ => false
theorem tag_sh {e : Ev} (h : e.tag = Str.ofString "shut") : ∃ n, e = .sh n := by
  cases e with
  | sh n => exact ⟨n, rfl⟩
  | op n => exact absurd (show Str.ofString "open" = Str.ofString "shut" from h) (by decide +kernel)
  | fa n k l => exact absurd (show Str.ofString "fault" = Str.ofString "shut" from h) (by decide +kernel)
  | no n => exact absurd (show Str.ofString "note" = Str.ofString "shut" from h) (by decide +kernel)
theorem inFO_t (e : Ev) : inV (.str e.tag) [.str "fault", .str "open"] = isOF e := by
  rw [inFO]
  cases e with
  | op n => show (decide (Str.ofString "fault" = Str.ofString "open") || decide (Str.ofString "open" = Str.ofString "open")) = true; decide +kernel
  | sh n => show (decide (Str.ofString "fault" = Str.ofString "shut") || decide (Str.ofString "open" = Str.ofString "shut")) = false; decide +kernel
  | fa n k l => show (decide (Str.ofString "fault" = Str.ofString "fault") || decide (Str.ofString "open" = Str.ofString "fault")) = true; decide +kernel
  | no n => show (decide (Str.ofString "fault" = Str.ofString "note") || decide (Str.ofString "open" = Str.ofString "note")) = false; decide +kernel
theorem Ev.snd (e : Ev) : e.xs[1]? = some (.int e.num) := by cases e <;> rfl
def fRow (es : List Ev) (i : Nat) : List Row := match es[i]? with | some e => if (stAt es i).ret e then [] else [(("flaw" : Str), (i : Int))] | none => []
def fRows (es : List Ev) (n : Nat) : List Row := (List.range n).flatMap (fRow es)
theorem fRows_succ (es : List Ev) (n : Nat) : fRows es (n + 1) = fRows es n ++ fRow es n := by
  unfold fRows
  rw [List.range_succ, List.flatMap_append]
  simp
theorem fRows_len (es : List Ev) : ∀ n, (fRows es n).length ≤ n
  | 0 => Nat.le_refl _
  | n + 1 => by
    rw [fRows_succ, List.length_append]
    have ih := fRows_len es n
    have : (fRow es n).length ≤ 1 := by unfold fRow; split <;> (try split) <;> simp
    omega
theorem fRows_all (es : List Ev) : ∀ n, fRows es n = ((List.range n).filterMap fun i => (es[i]?).bind fun e => if (stAt es i).ret e then none else some ((i : Nat) : Int)).map fun i => (("flaw" : Str), i)
  | 0 => rfl
  | n + 1 => by
    rw [fRows_succ, fRows_all es n, filterMap_snoc, List.map_append]
    congr 1
    unfold fRow
    cases es[n]? with
    | none => rfl
    | some e =>
      show (if _ then _ else _) = List.map _ (Option.toList (if _ then _ else _))
      cases (stAt es n).ret e <;> rfl
theorem fm_filter {p : Int → Bool} : ∀ l : List Int, (l.filterMap fun m => if p m = true then some m else none) = l.filter p
  | [] => rfl
  | a :: l => by
    rw [List.filterMap_cons, List.filter_cons, fm_filter l]
    cases p a <;> rfl
theorem one_nil {es : List Ev} {x : Ev} : PyData.eqv (.list (((es.filterMap fun e => if e = x then some (1 : Int) else none).map V.int).map vD)) (.list []) = decide (x ∉ es) := by
  induction es with
  | nil => rfl
  | cons e es ih =>
    by_cases c : e = x
    · subst c
      rw [List.filterMap_cons, if_pos rfl]
      simp [PyData.eqv, PyData.eqvAll]
    · rw [List.filterMap_cons, if_neg c]
      show PyData.eqv (.list (((es.filterMap fun e => if e = x then some (1 : Int) else none).map V.int).map vD)) (.list []) = _
      rw [ih]
      simp [Ne.symm c]
def spFind (K : PySem.W.Frag) : Sp := sp2 fun lv fv H Q _ => ∃ p es q fs gs, lv = .ref p ∧ LogAt true H p es ∧ fv = .ref q ∧ GsAt K true H q fs gs ∧ ∀ D H' vs, H D = none → Same H H' → H' D = some (.lst vs) → Paired (TR rowV H') vs (auditOf es fs gs) → Q (.ref D) H'
theorem opn_step (s : WSt) (ev : Ev) : (s.opn.filter fun m => decide (m ≠ ev.num ∨ ev.tag ≠ Str.ofString "shut")) ++ (if ev.tag = Str.ofString "open" ∧ ev.num ∉ (s.opn.filter fun m => decide (m ≠ ev.num ∨ ev.tag ≠ Str.ofString "shut")) then [ev.num] else []) = (s.step ev).opn := by
  have all : ∀ l : List Int, ev.tag ≠ Str.ofString "shut" → (l.filter fun m => decide (m ≠ ev.num ∨ ev.tag ≠ Str.ofString "shut")) = l := fun l h => List.filter_eq_self.mpr fun a _ => decide_eq_true (.inr h)
  cases ev with
  | op n =>
    rw [all _ (by show Str.ofString "open" ≠ _; decide +kernel)]
    show s.opn ++ (if Str.ofString "open" = Str.ofString "open" ∧ n ∉ s.opn then [n] else []) = if n ∈ s.opn then s.opn else s.opn ++ [n]
    by_cases c : n ∈ s.opn
    · rw [if_neg (fun z => z.2 c), if_pos c, List.append_nil]
    · rw [if_pos ⟨rfl, c⟩, if_neg c]
  | sh n =>
    rw [if_neg (fun z => absurd z.1 (by show Str.ofString "shut" ≠ _; decide +kernel)), List.append_nil]
    show s.opn.filter _ = s.opn.filter _
    congr 1
    funext m
    exact decide_eq_decide.mpr ⟨fun h => h.elim id fun z => absurd rfl z, .inl⟩
  | fa n k l =>
    rw [all _ (by show Str.ofString "fault" ≠ _; decide +kernel), if_neg (fun z => absurd z.1 (by show Str.ofString "fault" ≠ _; decide +kernel)), List.append_nil]
    rfl
  | no n =>
    rw [all _ (by show Str.ofString "note" ≠ _; decide +kernel), if_neg (fun z => absurd z.1 (by show Str.ofString "note" ≠ _; decide +kernel)), List.append_nil]
    rfl
theorem sc__law_findings : FnScope ["_law_log", "_law_faults_here", "_law_found", "_law_inside", "_law_at", "_law_event", "_law_one", "_law_before", "_law_fault"] ["_law_log", "_law_faults_here"] (defScope (top 46)) := ⟨rfl, rfl, rfl, by decide +kernel, rfl, by decide +kernel, by decide +kernel⟩
theorem c__law_findings (T : Sy K mg) : Cal gd P w K mg base CX0 3 "_law_findings" (spFind K) := by
  refine T.cal (F_law_findings T) sc__law_findings sp2_len (fun cdv f A outer s H vs Q E z h => ?_) (fun _ _ _ _ _ _ us hl => match us, hl with | [_, _], _ => rfl)
  have hu1 := hu_1 z; have hu2 := hu_2 z; have hu3 := hu_3 z
  obtain ⟨x0, x1, rfl, h⟩ := h
  obtain ⟨p, es, q, fs, gs, rfl, lg, rfl, ga, qq⟩ := h
  refine ⟨_, (pss_cons (ps_par (i := 2) (j := 3) (by rfl) sc__law_findings.nd rfl rfl (by decide) rfl rfl (pa_cons (pe_lst pa_nil) (pa_cons (pe_lst pa_nil) pa_nil)) (by rfl)) (pss_cons (ps_for PassesOwn.never (by rfl) (pi_enum2K (K := K) rfl (by rfl) (T.free "enumerate") (pv 0)) (pg_tupK (K := K) rfl (by rfl) (pgs_cons (pg_name (i := 4) sc__law_findings.nd rfl (by first | exact Or.inl rfl | exact Or.inr rfl)) (pgs_cons (pg_name (i := 5) sc__law_findings.nd rfl (by first | exact Or.inl rfl | exact Or.inr rfl)) pgs_nil))) (pss_cons (ps_set (i := 7) sc__law_findings.nd rfl (by first | exact Or.inl rfl | exact Or.inr rfl) (pe_callB (r := rLen2 K) call_len2 (by rfl) (T.free "len") (by decide +kernel) (pa_cons (pe_lc (own := [("_law_one", 6)]) (g := gName 6) (by rfl) sc__law_findings.nd (pi_anyK (K := K) rfl (pe_slice (r := rSl2 K) sl_2 (pv 0) po_none (po_some (pv 4)))) (blkOk_by (own := [("_law_one", 6)]) (N := ["_law_log", "_law_faults_here", "_law_found", "_law_inside", "_law_at", "_law_event", "_law_one", "_law_before", "_law_fault"]) (sc := (defScope (top 46))) (by decide +kernel)) (fun _ _ _ _ _ => (pg_name (i := 6) sc__law_findings.nd rfl (by first | exact Or.inl rfl | exact Or.inr rfl))) (fun _ _ _ _ _ => pts_one (pt_cmpR (r := rEq2 K) (op_eq2 hu1) (pe_ix (r := rGet K) (ix_get hu3) (pv 6) pe_int (fun _ _ => rfl)) (pe_ix (r := rGet K) (ix_get hu3) (pv 5) pe_int (fun _ _ => rfl)) (nomark _))) (fun _ _ _ _ _ => (pv 6))) pa_nil))) (pss_cons (ps_if (PW.pt (pw_and (pt_cmpR (r := rIn2 K) (op_in2 hu2) (pe_ix (r := rGet K) (ix_get hu3) (pv 5) pe_int (fun _ _ => rfl)) (pe_tup (pa_cons pe_str (pa_cons pe_str pa_nil))) rfl) (pw_and1 (pt_cmpR (r := rNe2 K) (op_ne2 hu1) (pe_ix (r := rGet K) (ix_get hu3) (pv 5) pe_int (fun _ _ => rfl)) (pv 7) (nomark _))))) (pss_one (ps_expr (pe_bmK (K := K) rfl PySem.F.plainAttrs_list PySem.F.slot_list_append PySem.F.type_list_append mt_append2 (pv 2) (pa_cons (pe_tup (pa_cons pe_str (pa_cons (pv 4) pa_nil))) pa_nil)))) pss_nil) (pss_cons (ps_if (PW.pt (pw_and (pt_cmpR (r := rEq2 K) (op_eq2 hu1) (pe_ix (r := rGet K) (ix_get hu3) (pv 5) pe_int (fun _ _ => rfl)) pe_str (nomark _)) (pw_and1 (pt_cmpR (r := rNotIn2 K) (op_notIn2 hu2) (pe_ix (r := rGet K) (ix_get hu3) (pv 5) pe_int (fun _ _ => rfl)) (pv 3) rfl)))) (pss_one (ps_expr (pe_bmK (K := K) rfl PySem.F.plainAttrs_list PySem.F.slot_list_append PySem.F.type_list_append mt_append2 (pv 2) (pa_cons (pe_tup (pa_cons pe_str (pa_cons (pv 4) pa_nil))) pa_nil)))) pss_nil) (pss_cons (ps_setLc (i := 3) (own := [("_law_one", 6)]) (g := gName 6) (by rfl) sc__law_findings.nd rfl rfl (sw_true rfl rfl rfl (by decide +kernel)) (pi_anyK (K := K) rfl (pv 3)) (blkOk_by (own := [("_law_one", 6)]) (N := ["_law_log", "_law_faults_here", "_law_found", "_law_inside", "_law_at", "_law_event", "_law_one", "_law_before", "_law_fault"]) (sc := (defScope (top 46))) (by decide +kernel)) (fun _ _ _ _ _ => (pg_name (i := 6) sc__law_findings.nd rfl (by first | exact Or.inl rfl | exact Or.inr rfl))) (fun _ _ _ _ _ => pts_one (PW.pt (pw_or (pt_cmpR (r := rNe2 K) (op_ne2 hu1) (pv 6) (pe_ix (r := rGet K) (ix_get hu3) (pv 5) pe_int (fun _ _ => rfl)) (nomark _)) (pw_or1 (pt_cmpR (r := rNe2 K) (op_ne2 hu1) (pe_ix (r := rGet K) (ix_get hu3) (pv 5) pe_int (fun _ _ => rfl)) pe_str (nomark _)))))) (fun _ _ _ _ _ => (pv 6))) (pss_one (ps_set (i := 3) sc__law_findings.nd rfl (by first | exact Or.inl rfl | exact Or.inr rfl) (pe_op (r := rAdd2 K) op_add2 (pv 3) (pe_op (r := rMul2 K) op_mul2 (pe_lst (pa_cons (pe_ix (r := rGet K) (ix_get hu3) (pv 5) pe_int (fun _ _ => rfl)) pa_nil)) (pe_callTy call_int1 (by rfl) (T.free "int") (by decide +kernel) (pa_cons (pe_and (pe_cmpR (r := rEq2 K) (op_eq2 hu1) (pe_ix (r := rGet K) (ix_get hu3) (pv 5) pe_int (fun _ _ => rfl)) pe_str (nomark _)) (pe_one (pe_cmpR (r := rNotIn2 K) (op_notIn2 hu2) (pe_ix (r := rGet K) (ix_get hu3) (pv 5) pe_int (fun _ _ => rfl)) (pv 3) rfl))) pa_nil))))))))))) (pss_cons (ps_for PassesOwn.never (by rfl) (pi_enum2K (K := K) rfl (by rfl) (T.free "enumerate") (pv 1)) (pg_tupK (K := K) rfl (by rfl) (pgs_cons (pg_name (i := 4) sc__law_findings.nd rfl (by first | exact Or.inl rfl | exact Or.inr rfl)) (pgs_cons (pg_name (i := 8) sc__law_findings.nd rfl (by first | exact Or.inl rfl | exact Or.inr rfl)) pgs_nil))) (pss_cons (ps_if (pt_cmpR (r := rNe2 K) (op_ne2 hu1) (pe_prK (K := K) rfl (p_number T) z (pv 8)) (pv 4) (nomark _)) (pss_one (ps_expr (pe_bmK (K := K) rfl PySem.F.plainAttrs_list PySem.F.slot_list_append PySem.F.type_list_append mt_append2 (pv 2) (pa_cons (pe_tup (pa_cons pe_str (pa_cons (pv 4) pa_nil))) pa_nil)))) pss_nil) (pss_one (ps_if (pt_cmpR (r := rEq2 K) (op_eq2 hu1) (pe_lc (own := [("_law_event", 5)]) (g := gName 5) (by rfl) sc__law_findings.nd (pi_anyK (K := K) rfl (pv 0)) (blkOk_by (own := [("_law_event", 5)]) (N := ["_law_log", "_law_faults_here", "_law_found", "_law_inside", "_law_at", "_law_event", "_law_one", "_law_before", "_law_fault"]) (sc := (defScope (top 46))) (by decide +kernel)) (fun _ _ _ _ _ => (pg_name (i := 5) sc__law_findings.nd rfl (by first | exact Or.inl rfl | exact Or.inr rfl))) (fun _ _ _ _ _ => pts_one (pt_cmpR (r := rEq2 K) (op_eq2 hu1) (pv 5) (pe_tup (pa_cons pe_str (pa_cons (pv 4) (pa_cons (pe_prK (K := K) rfl (p_kind T) z (pv 8)) (pa_cons (pe_prK (K := K) rfl (p_label T) z (pv 8)) pa_nil))))) (nomark _))) (fun _ _ _ _ _ => pe_int)) (pe_lst pa_nil) (nomark _)) (pss_one (ps_expr (pe_bmK (K := K) rfl PySem.F.plainAttrs_list PySem.F.slot_list_append PySem.F.type_list_append mt_append2 (pv 2) (pa_cons (pe_tup (pa_cons pe_str (pa_cons (pv 4) pa_nil))) pa_nil)))) pss_nil)))) (pss_one (ps_ret (pv 2)))))), ?_⟩
  obtain ⟨vs, h1, h2, ok, hl⟩ := id lg
  have ll : vs.length = es.length := h2.length
  walk_at "yhead"; walk_at "y"
  refine ⟨sz4 (by simp), fun D nD => ?_⟩
  have sH1 := same_upd (H := H) (o := .lst []) nD
  have eD := upd_same (H := H) (a := D) (o := .lst [])
  generalize upd H D (.lst []) = H1 at sH1 eD ⊢
  walk_at "y"
  refine ⟨sz4 (by simp), fun I0 nI0 => ?_⟩
  have sH2 := same_upd (H := H1) (o := .lst []) nI0
  have eI0 := upd_same (H := H1) (a := I0) (o := .lst [])
  generalize upd H1 I0 (.lst []) = H2 at sH2 eI0 ⊢
  walk_at "y"
  refine ⟨_, _, rfl, ?_⟩
  have hn1 : ∀ {n : Nat}, n ≤ 90 → n < sizeLine := fun h => Nat.lt_of_lt_of_le (Nat.lt_of_le_of_lt h (by decide)) (sz4 (n := 101))
  walk_at "y"
  refine for_eb true ?_
  walk_at "y"
  refine ⟨p, vs, rfl, SqB.of ((sH1.trans sH2) _ _ h1), for_it (walk_eb (b := true)) (Pv := fun i σ H' => ∃ vs' I a b c d e, σ = [some (.ref p), some (.ref q), some (.ref D), some (.ref I), a, b, c, d, e] ∧ Same H H' ∧ H' D = some (.lst vs') ∧ Paired (TR rowV H') vs' (fRows es i) ∧ I ≠ D ∧ H' I = some (.lst ((stAt es i).opn.map V.int))) ⟨[], I0, none, none, none, none, none, rfl, sH1.trans sH2, sH2 _ _ eD, .nil, Ne.symm (ne_of_none eD nI0), eI0⟩ (fun i σ H' _ hp => let ⟨_, _, _, _, _, _, _, _, s, _⟩ := hp; s _ _ h1) (fun i x σ H3 H4 hi hp y => ?_) fun σ H' hp => ?_⟩
  rotate_left
  · obtain ⟨vs0, I, a, b, c, d, e, rfl, s3, hD3, pr3, nID, hI3⟩ := hp
    rw [ll] at pr3
    walk_at "y"
    have frl := fRows_len es es.length
    refine for_eb true ?_
    walk_at "y"
    refine ⟨q, _, rfl, SqB.of (s3 _ _ ga.at_), for_it (walk_eb (b := true)) (Pv := fun j σ H' => Same H H' ∧ (∃ a b c d e, σ = [some (.ref p), some (.ref q), some (.ref D), some (.ref I), a, b, c, d, e]) ∧ ∃ vs, H' D = some (.lst vs) ∧ Paired (TR rowV H') vs (fRows es es.length ++ auRows es fs gs j)) ⟨s3, ⟨_, _, _, _, _, rfl⟩, vs0, hD3, by rw [show auRows es fs gs 0 = [] from rfl, List.append_nil]; exact pr3⟩ (fun j σ H' _ hj => hj.1 _ _ ga.at_) (fun j x σ H0 H' hi hj y => ?_) fun σ H' hj => ?_⟩
    rotate_left
    · obtain ⟨sE, ⟨_, _, _, _, _, rfl⟩, vs', hv, pv⟩ := hj
      walk_at "y"
      rw [List.length_map, fRows_all] at pv
      exact qq D H' vs' nD sE hv pv
    obtain ⟨s0, ⟨a0, b0, c0, d0, e0, rfl⟩, vs', hv, pv⟩ := hj
    obtain ⟨tt, v1, v2, rfl, ht, rfl, e1, e2⟩ := y
    cases e1
    replace e2 : (gs.map (adr fs))[j]? = some v2 := e2
    rw [List.getElem?_map] at e2
    cases e3 : gs[j]? with
    | none => rw [e3] at e2; cases e2
    | some g =>
    rw [e3] at e2
    cases e2
    have hg := ga.lt g (List.mem_of_getElem? e3)
    obtain ⟨r, er⟩ := get_lt hg
    rw [adr_ad hg, ad_at er]
    have sY := same_upd (o := .tup [.int j, .ref r.a]) ht
    refine gTup_i (SqT.of upd_same) ?_
    have sHY := s0.trans sY
    have hvY := sY _ _ hv
    have pvY := (firm_TR rowV).all (sT sY) pv
    generalize upd H0 tt (.tup [.int j, .ref r.a]) = H6 at *
    have rl := auRows_len (es := es) (fs := fs) (gs := gs) j
    have hj20 : j < 20 := by rw [List.length_map] at hi; have := ga.gl; omega
    let J : List Row → L2.St → Hp → Prop := fun rows σ H' => Same H H' ∧ σ = [some (.ref p), some (.ref q), some (.ref D), some (.ref I), some (.int j), b0, c0, d0, some (.ref r.a)] ∧ ∃ vs, H' D = some (.lst vs) ∧ Paired (TR rowV H') vs rows
    let r0 := fRows es es.length ++ auRows es fs gs j
    have hr0 : r0.length ≤ 70 := by
      show (fRows es es.length ++ auRows es fs gs j).length ≤ 70
      rw [List.length_append]; omega
    let r1 := r0 ++ (if g = j then [] else [(("number" : Str), (j : Int))])
    have hr1 : r1.length ≤ 71 := by
      show (r0 ++ _).length ≤ 71
      rw [List.length_append]; split <;> simp <;> omega
    have step : ∀ {rows : List Row} {row : Row} {H6 H7 : Hp} {T2 : Addr} {vs : List V}, Same H H6 → H6 D = some (.lst vs) → Paired (TR rowV H6) vs rows → H6 T2 = some (.tup (rowV row)) → H7 D = some (.lst (vs ++ [.ref T2])) → (∀ b, b ≠ D → H7 b = H6 b) → Same H H7 ∧ ∃ vs, H7 D = some (.lst vs) ∧ Paired (TR rowV H7) vs (rows ++ [row]) := fun {rows row H6 H7 T2 vs} s hv pv ht h7 u7 => by
      have sT7 : SameT H6 H7 := fun b o e n => by rw [u7 b fun z => by rw [z, hv] at e; exact n _ (Option.some.inj e).symm]; exact e
      exact ⟨fun b o e => by rw [u7 b (ne_of_none e nD)]; exact s _ _ e, _, h7, paired_append ((firm_TR rowV).all sT7 pv) (.cons ⟨T2, rfl, sT7 _ _ ht fun _ z => nomatch z⟩ .nil)⟩
    iterate 6 walk_at "y2"
    refine nx_abs (J r1) (fun σ7 H7 m7 => ?_) (fun R hR => ?_)
    rotate_left
    · walk_at "y"
      have hx := (ga.f.same sHY).at_ g r er
      refine spFld_i hx frow_n ?_
      walk_at "y"
      by_cases c : g = j
      · walk_at "y"
        exact hR _ _ ⟨sHY, rfl, vs', hvY, by show Paired _ _ (r0 ++ _); rw [if_pos c, List.append_nil]; exact pvY⟩
      · walk_at "y"
        refine ⟨.inl ⟨rfl, _, SqL.of hvY⟩, ?_⟩
        walk_at "y"
        refine ⟨sz4 (by simp), fun T2 nT2 => ?_⟩
        have sH7 := same_upd (H := H6) (o := .tup [.str "number", .int j]) nT2
        have eT2 := upd_same (H := H6) (a := T2) (o := .tup [.str "number", .int j])
        generalize upd H6 T2 (.tup [.str "number", .int j]) = H7 at sH7 eT2 ⊢
        have hv7 := sH7 _ _ hvY
        have pv7 := (firm_TR rowV).all (sT sH7) pvY
        walk_at "y"
        refine appU_i hv7 (hn1 (by rw [pv7.length]; exact (show r0.length ≤ 90 by omega))) fun H8 h8 u8 => ?_
        obtain ⟨s8, q8⟩ := step (row := (("number" : Str), (j : Int))) (sHY.trans sH7) hv7 pv7 eT2 h8 u8
        exact hR _ _ ⟨s8, rfl, by show ∃ vs, _ ∧ Paired _ vs (r0 ++ _); rw [if_neg c]; exact q8⟩
    obtain ⟨s7, rfl, vs7, hv7, pv7⟩ := m7
    have kl := ga.kl r (List.mem_of_getElem? er)
    have smt := (sm_tup (Ev.sm (e := .fa j r.k r.l) ⟨⟨by show (0 : Int) ≤ j; omega, by show (j : Int) ≤ 1000; omega⟩, kl⟩)).shaped
    have ek : kOf fs g = r.k := by unfold kOf; rw [er]; rfl
    have el : lOf fs g = r.l := by unfold lOf; rw [er]; rfl
    walk_at "y"
    refine lc_b true ?_
    walk_at "y"
    refine ⟨p, rfl, ⟨_, SqL.of (s7 _ _ h1)⟩, lc_pure (walk_b (b := true) (xs := vs)) (sz4 (by omega)) (fun i => (es[i]?).bind fun e => if e = .fa j r.k r.l then some (1 : Int) else none) (firm_FR V.int) (fun H' s => s _ _ (s7 _ _ h1)) (fun i H0 x H1 y => by obtain ⟨rfl, _⟩ := y; exact Same.refl _) (fun i v H0 H8 hi2 s8 s9 y N C hC hN => ?_) fun F H8 ws hF s8 h8 pr8 => ?_⟩
    · obtain ⟨rfl, e5⟩ := y
      obtain ⟨t2, ev2, rfl, e6, e7⟩ := LogAt.get (b := true) (p := p) ((firm_TR _).all (sT (s7.trans s9)) h2) e5
      walk_at "y"
      refine ⟨rfl, ?_⟩
      walk_at "y"
      refine spFld_i ((ga.f.same (s7.trans s9)).at_ g r er) frow_k ?_
      walk_at "y"
      refine spFld_i ((ga.f.same (s7.trans s9)).at_ g r er) frow_l ?_
      walk_at "y"
      refine ⟨sz4 (by simp), fun T3 nT3 => ?_⟩
      have sH9 := same_upd (H := H8) (o := .tup [.str "fault", .int j, .str r.k, .str r.l]) nT3
      have eT3 := upd_same (H := H8) (a := T3) (o := .tup [.str "fault", .int j, .str r.k, .str r.l])
      generalize upd H8 T3 (.tup [.str "fault", .int j, .str r.k, .str r.l]) = H9 at sH9 eT3 ⊢
      refine rEq2_d (dp_tup (SqT.of (sH9 _ _ e7)) (Ev.pl ev2)) (dp_tup (SqT.of eT3) (Ev.pl (.fa j r.k r.l))) (sm_tup (Ev.sm (ok _ (List.mem_of_getElem? e6)))).shaped smt ?_
      rw [show PyData.eqv (.tuple (ev2.xs.map vD)) (.tuple (([.str "fault", .int j, .str r.k, .str r.l] : List V).map vD)) = decide (ev2 = .fa j r.k r.l) from ev_eqf]
      by_cases c : ev2 = .fa j r.k r.l
      · rw [decide_eq_true c]
        walk_at "y"
        exact hC _ _ 1 sH9 (by rw [e6]; exact if_pos c) rfl
      · rw [decide_eq_false c]
        walk_at "y"
        exact hN (by rw [e6]; exact if_neg c) _ sH9
    rw [paired_FR pr8, ll, filterMap_ix] at h8
    walk_at "y"
    refine ⟨sz4 (by simp), fun B nB => ?_⟩
    have sH9 := same_upd (H := H8) (o := .lst []) nB
    have eB := upd_same (H := H8) (a := B) (o := .lst [])
    generalize upd H8 B (.lst []) = H9 at sH9 eB ⊢
    have s9 := s8.trans sH9
    have hv9 := s9 _ _ hv7
    have pv9 := (firm_TR rowV).all (sT s9) pv7
    refine rEq2_d (dp_ints (sH9 _ _ h8)) (dp_ints (ns := []) eB) (sm_lst (sm_ints fun n hn => ?_)).shaped (by decide +kernel) ?_
    · obtain ⟨e', _, h⟩ := List.mem_filterMap.mp hn
      split at h
      · cases h; decide
      · cases h
    have r2e : auRow es fs j g = (if g = j then [] else [(("number" : Str), (j : Int))]) ++ (if Ev.fa j (kOf fs g) (lOf fs g) ∈ es then [] else [(("event" : Str), (j : Int))]) := rfl
    rw [show PyData.eqv (.list (((es.filterMap fun e => if e = .fa j r.k r.l then some (1 : Int) else none).map V.int).map vD)) (.list (([] : List Int).map V.int |>.map vD)) = decide (Ev.fa j r.k r.l ∉ es) from one_nil]
    by_cases c : Ev.fa j r.k r.l ∈ es
    · rw [decide_eq_false (fun z => z c)]
      walk_at "y"
      refine ⟨s7.trans s9, ⟨_, _, _, _, _, rfl⟩, vs7, hv9, ?_⟩
      rw [auRows_succ e3, r2e, ek, el, if_pos c, List.append_nil, ← List.append_assoc]
      exact pv9
    · rw [decide_eq_true c]
      walk_at "y"
      refine ⟨.inl ⟨rfl, _, SqL.of hv9⟩, ?_⟩
      walk_at "y"
      refine ⟨sz4 (by simp), fun T4 nT4 => ?_⟩
      have sHA := same_upd (H := H9) (o := .tup [.str "event", .int j]) nT4
      have eT4 := upd_same (H := H9) (a := T4) (o := .tup [.str "event", .int j])
      generalize upd H9 T4 (.tup [.str "event", .int j]) = HA at sHA eT4 ⊢
      have hvA := sHA _ _ hv9
      have pvA := (firm_TR rowV).all (sT sHA) pv9
      walk_at "y"
      refine appU_i hvA (hn1 (by rw [pvA.length]; exact (show r1.length ≤ 90 by omega))) fun HB hB uB => ?_
      obtain ⟨sB, vsB, qB1, qB2⟩ := step (row := (("event" : Str), (j : Int))) ((s7.trans s9).trans sHA) hvA pvA eT4 hB uB
      walk_at "y"
      refine ⟨sB, ⟨_, _, _, _, _, rfl⟩, vsB, qB1, ?_⟩
      rw [auRows_succ e3, r2e, ek, el, if_neg c, ← List.append_assoc, ← List.append_assoc]
      exact qB2
  obtain ⟨vs', I, a, b, c, d, e, rfl, s3, hD3, pr3, nID, hI3⟩ := hp
  obtain ⟨tt, v1, v2, rfl, ht, rfl, e1, e2⟩ := y
  cases e1
  have sY := same_upd (o := .tup [.int i, v2]) ht
  obtain ⟨t, ev, rfl, e3, e4⟩ := LogAt.get (b := true) (p := p) ((firm_TR _).all (sT (s3.trans sY)) h2) e2
  refine gTup_i (SqT.of upd_same) ?_
  have s4 := s3.trans sY
  have hD4 := sY _ _ hD3
  have hI4 := sY _ _ hI3
  have pr4 := (firm_TR rowV).all (sT sY) pr3
  generalize upd H3 tt (.tup [.int i, .ref t]) = H4 at *
  walk_at "y"
  refine lc_b true ?_
  walk_at "y"
  refine ⟨_, rfl, ?_⟩
  refine rSl2_g (s4 _ _ h1) (cut_to i) fun g H5 _ s5 hg => ?_
  have hi' : i < 16 := by omega
  refine ⟨g, rfl, ⟨_, SqL.of hg⟩, lc_pure (walk_b (b := true) (xs := vs.take i)) (sz4 (by rw [List.length_take]; omega)) (fun j => ((es.take i)[j]?).bind fun e => if e.tag = ev.tag then some e else none) (firm_TR Ev.xs) (fun H' s => s _ _ hg) (fun i H0 x H1 y => by obtain ⟨rfl, _⟩ := y; exact Same.refl _) (fun j v H0 H6 hj s0 s6 y N C hC hN => ?_) fun F H6 ws hF s6 h6 pr => ?_⟩
  · obtain ⟨rfl, e5⟩ := y
    rw [List.length_take] at hj
    have hji : j < i := by omega
    rw [List.getElem?_take, if_pos hji] at e5
    obtain ⟨g2, ev2, rfl, e6, e7⟩ := LogAt.get (b := true) (p := p) ((firm_TR _).all (sT ((s4.trans s5).trans s6)) h2) e5
    have e8 : (es.take i)[j]? = some ev2 := by rw [List.getElem?_take, if_pos hji]; exact e6
    walk_at "y"
    refine ⟨rfl, ?_⟩
    walk_at "y"
    refine rGet_t (n := 0) (SqT.of e7) (Ev.head ev2) ?_
    walk_at "y"
    refine rGet_t (n := 0) (SqT.of ((s5.trans s6) _ _ e4)) (Ev.head ev) ?_
    walk_at "y"
    by_cases ct : ev2.tag = ev.tag
    · walk_at "y"
      exact hC _ _ ev2 (Same.refl _) (by rw [e8]; simp [ct]) ⟨_, rfl, e7⟩
    · walk_at "y"
      exact hN (by rw [e8]; simp [ct]) _ (Same.refl _)
  have lt : (vs.take i).length = (es.take i).length := by rw [List.length_take, List.length_take, ll]
  have lw : ws.length = cnt es ev.tag i := by
    rw [pr.length, lt, filterMap_ix]
    unfold cnt
    generalize es.take i = L
    induction L with
    | nil => rfl
    | cons a L ih =>
      by_cases c : a.tag = ev.tag
      · simp [c, ih]
      · simp [c, ih]
  walk_at "y"
  refine rLen2_l (SqL.of h6) ?_ lw
  have s46 := s5.trans s6
  have s06 := s4.trans s46
  have hD6 := s46 _ _ hD4
  have hI6 := s46 _ _ hI4
  have pr6 := (firm_TR rowV).all (sT s46) pr4
  have e46 := s46 _ _ e4
  obtain ⟨oc1, oc2⟩ := opened_cnt es i (by omega)
  have ho := stAt_opn es i
  have e4H : ∀ {H7 : Hp}, Same H6 H7 → H7 t = some (.tup ev.xs) := fun s => s _ _ e46
  let J : List Row → L2.St → Hp → Prop := fun rows σ H' => Same H H' ∧ σ = [some (.ref p), some (.ref q), some (.ref D), some (.ref I), some (.int i), some (.ref t), c, some (.int (cnt es ev.tag i : Nat)), e] ∧ H' I = some (.lst ((stAt es i).opn.map V.int)) ∧ H' t = some (.tup ev.xs) ∧ ∃ vs, H' D = some (.lst vs) ∧ Paired (TR rowV H') vs rows
  have frl := fRows_len es i
  let fl : List Row := [(("flaw" : Str), (i : Int))]
  let x1 : List Row := if isOF ev = true ∧ ev.num ≠ (cnt es ev.tag i : Nat) then fl else []
  let x2 : List Row := if ev.tag = Str.ofString "shut" ∧ ev.num ∉ (stAt es i).opn then fl else []
  have fx : fRows es (i + 1) = (fRows es i ++ x1) ++ x2 := by
    rw [fRows_succ, List.append_assoc]
    congr 1
    unfold fRow
    rw [e3]
    show (if (stAt es i).ret ev = true then _ else fl) = (if isOF ev = true ∧ ev.num ≠ (cnt es ev.tag i : Nat) then fl else []) ++ (if ev.tag = Str.ofString "shut" ∧ ev.num ∉ (stAt es i).opn then fl else [])
    cases ev with
    | op n =>
      show (if decide (n = (stAt es i).opened) = true then [] else fl) = (if true = true ∧ n ≠ (cnt es (Str.ofString "open") i : Nat) then fl else []) ++ (if Str.ofString "open" = Str.ofString "shut" ∧ n ∉ (stAt es i).opn then fl else [])
      have h0 : (if Str.ofString "open" = Str.ofString "shut" ∧ n ∉ (stAt es i).opn then fl else []) = [] := if_neg (fun z => absurd z.1 (by decide +kernel))
      rw [h0, List.append_nil]
      rw [oc1]
      by_cases c : n = (cnt es (Str.ofString "open") i : Nat)
      · rw [if_pos (decide_eq_true c), if_neg (fun z => z.2 c)]
      · rw [if_neg (fun z => c (of_decide_eq_true z)), if_pos ⟨rfl, c⟩]
    | fa n k l =>
      show (if decide (n = (stAt es i).made) = true then [] else fl) = (if true = true ∧ n ≠ (cnt es (Str.ofString "fault") i : Nat) then fl else []) ++ (if Str.ofString "fault" = Str.ofString "shut" ∧ n ∉ (stAt es i).opn then fl else [])
      have h0 : (if Str.ofString "fault" = Str.ofString "shut" ∧ n ∉ (stAt es i).opn then fl else []) = [] := if_neg (fun z => absurd z.1 (by decide +kernel))
      rw [h0, List.append_nil]
      rw [oc2]
      by_cases c : n = (cnt es (Str.ofString "fault") i : Nat)
      · rw [if_pos (decide_eq_true c), if_neg (fun z => z.2 c)]
      · rw [if_neg (fun z => c (of_decide_eq_true z)), if_pos ⟨rfl, c⟩]
    | sh n =>
      show (if decide (n ∈ (stAt es i).opn) = true then _ else fl) = (if false = true ∧ n ≠ (cnt es (Str.ofString "shut") i : Nat) then fl else []) ++ if Str.ofString "shut" = Str.ofString "shut" ∧ n ∉ (stAt es i).opn then fl else []
      by_cases c : n ∈ (stAt es i).opn
      · rw [if_pos (decide_eq_true c), if_neg (fun z => absurd z.1 (by decide)), if_neg (fun z => z.2 c)]; rfl
      · rw [if_neg (fun z => c (of_decide_eq_true z)), if_neg (fun z => absurd z.1 (by decide)), if_pos ⟨rfl, c⟩]; rfl
    | no n =>
      show ([] : List Row) = (if false = true ∧ n ≠ (cnt es (Str.ofString "note") i : Nat) then fl else []) ++ (if Str.ofString "note" = Str.ofString "shut" ∧ n ∉ (stAt es i).opn then fl else [])
      have h0 : (if Str.ofString "note" = Str.ofString "shut" ∧ n ∉ (stAt es i).opn then fl else []) = [] := if_neg (fun z => absurd z.1 (by decide +kernel))
      rw [h0, if_neg (fun z => absurd z.1 (by decide))]
      rfl
  have lx1 : x1.length ≤ 1 := by
    show (if isOF ev = true ∧ ev.num ≠ (cnt es ev.tag i : Nat) then fl else []).length ≤ 1
    split
    · exact Nat.le_refl _
    · exact Nat.zero_le _
  -- a flaw is told
  have put : ∀ {rows : List Row} {H7 : Hp} {vs7 : List V} {R : L2.St → Hp → Prop} {C : VK}, rows.length ≤ 40 → Same H H7 → H7 I = some (.lst ((stAt es i).opn.map V.int)) → H7 t = some (.tup ev.xs) → H7 D = some (.lst vs7) → Paired (TR rowV H7) vs7 rows →
      (∀ H8, Same H H8 → H8 I = some (.lst ((stAt es i).opn.map V.int)) → H8 t = some (.tup ev.xs) → (∃ vs, H8 D = some (.lst vs) ∧ Paired (TR rowV H8) vs (rows ++ [(("flaw" : Str), (i : Int))])) → C .non H8) →
      ∀ T2, H7 T2 = none → rAppend (.ref D) [.ref T2] (upd H7 T2 (.tup [.str "flaw", .int i])) C := fun {rows H7 vs7 R C} hr s7 hI hT hD7 pr7 hC T2 nT2 => by
    have sX := same_upd (o := .tup [.str "flaw", .int i]) nT2
    have eT2 := upd_same (H := H7) (a := T2) (o := .tup [.str "flaw", .int i])
    generalize upd H7 T2 (.tup [.str "flaw", .int i]) = H8 at sX eT2 ⊢
    have pr8 := (firm_TR rowV).all (sT sX) pr7
    refine appU_i (sX _ _ hD7) (hn1 (by rw [pr8.length]; omega)) fun H9 h9 u9 => ?_
    have sT9 : SameT H8 H9 := fun b o e n => by rw [u9 b fun z => by rw [z, sX _ _ hD7] at e; exact n _ (Option.some.inj e).symm]; exact e
    have nt : t ≠ D := fun z => by rw [z, hD7] at hT; cases hT
    exact hC H9 (fun b o e => by rw [u9 b (ne_of_none e nD)]; exact sX _ _ (s7 _ _ e)) ((u9 I nID).trans (sX _ _ hI)) ((u9 t nt).trans (sX _ _ hT)) ⟨_, h9, paired_append ((firm_TR rowV).all sT9 pr8) (.cons ⟨T2, rfl, sT9 _ _ eT2 fun _ z => nomatch z⟩ .nil)⟩
  iterate 2 walk_at "y2"
  refine nx_abs (J (fRows es i ++ x1)) (fun σ7 H7 m7 => ?_) (fun R hR => ?_)
  rotate_left
  · walk_at "y"
    refine rGet_t (n := 0) (SqT.of e46) (Ev.head _) ?_
    walk_at "y"
    refine ⟨sz4 (by simp), fun G nG => ?_⟩
    have sH7 := same_upd (H := H6) (o := .tup [.str "fault", .str "open"]) nG
    have eG := upd_same (H := H6) (a := G) (o := .tup [.str "fault", .str "open"])
    generalize upd H6 G (.tup [.str "fault", .str "open"]) = H7 at sH7 eG ⊢
    refine rIn2_f (b := false) (SqT.of eG) rfl rfl ?_
    rw [inFO_t]
    have s07 := s06.trans sH7
    have hD7 := sH7 _ _ hD6
    have hI7 := sH7 _ _ hI6
    have e47 := sH7 _ _ e46
    have pr7 := (firm_TR rowV).all (sT sH7) pr6
    cases hof : isOF ev with
    | false =>
      refine ⟨_, rfl, ?_⟩
      rw [if_neg (by decide)]
      walk_at "y"
      exact hR _ _ ⟨s07, rfl, hI7, e47, vs', hD7, by show Paired _ _ (_ ++ ite _ _ _); rw [if_neg (fun z => by rw [hof] at z; cases z.1), List.append_nil]; exact pr7⟩
    | true =>
      refine ⟨_, rfl, ?_⟩
      rw [if_pos rfl]
      walk_at "y"
      refine rGet_t (n := 1) (SqT.of e47) (Ev.snd _) ?_
      walk_at "y"
      by_cases c2 : ev.num = (cnt es ev.tag i : Nat)
      · rw [decide_eq_true c2, if_neg (by decide)]
        walk_at "y"
        exact hR _ _ ⟨s07, rfl, hI7, e47, vs', hD7, by show Paired _ _ (_ ++ ite _ _ _); rw [if_neg (fun z => z.2 c2), List.append_nil]; exact pr7⟩
      · rw [decide_eq_false c2, if_pos (by decide)]
        walk_at "y"
        refine ⟨tyL hD7, ?_⟩
        walk_at "y"
        refine ⟨sz4 (by simp), fun T2 nT2 => ?_⟩
        walk_at "y"
        exact put (R := R) (by omega) s07 hI7 e47 hD7 pr7 (fun H8 s8 i8 t8 d8 => hR _ _ ⟨s8, rfl, i8, t8, by show ∃ vs, _ ∧ Paired _ vs (_ ++ ite _ _ _); rw [if_pos ⟨hof, c2⟩]; exact d8⟩) T2 nT2
  obtain ⟨s7, rfl, hI7, hT7, vs7, hv7, pv7⟩ := m7
  refine tSeq_i ?_
  refine nx_abs (J ((fRows es i ++ x1) ++ x2)) (fun σ8 H8 m8 => ?_) (fun R hR => ?_)
  rotate_left
  · walk_at "y"
    refine rGet_t (n := 0) (SqT.of hT7) (Ev.head _) ?_
    walk_at "y"
    by_cases hs : ev.tag = Str.ofString "shut"
    · rw [decide_eq_true hs, if_pos rfl]
      walk_at "y"
      refine rGet_t (n := 1) (SqT.of hT7) (Ev.snd _) ?_
      walk_at "y"
      refine rNotIn2_f (b := true) (SqL.of hI7) rfl (flat_ints _) ?_
      rw [inV_ints]
      by_cases c2 : ev.num ∈ (stAt es i).opn
      · rw [decide_eq_true c2]
        walk_at "y"
        exact hR _ _ ⟨s7, rfl, hI7, hT7, vs7, hv7, by show Paired _ _ (_ ++ ite _ _ _); rw [if_neg (fun z => z.2 c2), List.append_nil]; exact pv7⟩
      · rw [decide_eq_false c2]
        walk_at "y"
        refine ⟨tyL hv7, ?_⟩
        walk_at "y"
        refine ⟨sz4 (by simp), fun T2 nT2 => ?_⟩
        walk_at "y"
        exact put (R := R) (by rw [List.length_append]; omega) s7 hI7 hT7 hv7 pv7 (fun H8 s8 i8 t8 d8 => hR _ _ ⟨s8, rfl, i8, t8, by show ∃ vs, _ ∧ Paired _ vs (_ ++ ite _ _ _); rw [if_pos ⟨hs, c2⟩]; exact d8⟩) T2 nT2
    · rw [decide_eq_false hs, if_neg (by decide)]
      walk_at "y"
      exact hR _ _ ⟨s7, rfl, hI7, hT7, vs7, hv7, by show Paired _ _ (_ ++ ite _ _ _); rw [if_neg (fun z => hs z.1), List.append_nil]; exact pv7⟩
  obtain ⟨s8, rfl, hI8, hT8, vs8, hv8, pv8⟩ := m8
  rw [← fx] at pv8
  walk_at "y"
  refine lc_b true ?_
  walk_at "y"
  refine ⟨I, rfl, ⟨_, SqL.of hI8⟩, lc_pure (walk_b (b := true) (xs := (stAt es i).opn.map V.int)) (by rw [List.length_map]; exact Nat.le_of_lt (hn1 (by omega))) (fun j => ((stAt es i).opn[j]?).bind fun m => if m ≠ ev.num ∨ ev.tag ≠ Str.ofString "shut" then some m else none) (firm_FR V.int) (fun H' s => s _ _ hI8) (fun i H0 x H1 y => by obtain ⟨rfl, _⟩ := y; exact Same.refl _) (fun j v H0 H9 hj s0 s9 y N C hC hN => ?_) fun I1 H9 ws hI1 s9 h9 pr9 => ?_⟩
  · obtain ⟨rfl, e5⟩ := y
    rw [List.getElem?_map] at e5
    cases e6 : (stAt es i).opn[j]? with
    | none => rw [e6] at e5; cases e5
    | some m =>
      rw [e6] at e5
      cases e5
      walk_at "y"
      refine ⟨rfl, ?_⟩
      walk_at "y"
      refine rGet_t (n := 1) (SqT.of (s9 _ _ hT8)) (Ev.snd _) ?_
      walk_at "y"
      by_cases c2 : m = ev.num
      · rw [decide_eq_true c2]
        walk_at "y"
        refine rGet_t (n := 0) (SqT.of (s9 _ _ hT8)) (Ev.head _) ?_
        walk_at "y"
        by_cases hs : ev.tag = Str.ofString "shut"
        · rw [decide_eq_true hs]
          walk_at "y"
          exact hN (by rw [e6]; exact if_neg (fun z => z.elim (fun z => z c2) fun z => z hs)) _ (Same.refl _)
        · rw [decide_eq_false hs]
          walk_at "y"
          exact hC _ _ m (Same.refl _) (by rw [e6]; exact if_pos (.inr hs)) rfl
      · rw [decide_eq_false c2]
        walk_at "y"
        exact hC _ _ m (Same.refl _) (by rw [e6]; exact if_pos (.inl c2)) rfl
  rw [paired_FR pr9, List.length_map, filterMap_ix] at h9
  rw [show (fun m : Int => if m ≠ ev.num ∨ ev.tag ≠ Str.ofString "shut" then some m else none) = fun m => if decide (m ≠ ev.num ∨ ev.tag ≠ Str.ofString "shut") = true then some m else none from funext fun m => by simp only [decide_eq_true_eq], fm_filter] at h9
  have hos := opn_step (stAt es i) ev
  rw [← stAt_succ e3] at hos
  have lL : ((stAt es i).opn.filter fun m => decide (m ≠ ev.num ∨ ev.tag ≠ Str.ofString "shut")).length ≤ 16 := Nat.le_trans (List.length_filter_le ..) (by omega)
  generalize ((stAt es i).opn.filter fun m => decide (m ≠ ev.num ∨ ev.tag ≠ Str.ofString "shut")) = L at h9 hos lL
  have hT9 := s9 _ _ hT8
  walk_at "y"
  refine rGet_t (n := 1) (SqT.of hT9) (Ev.snd _) ?_
  walk_at "y"
  refine ⟨sz4 (by simp), fun B nB => ?_⟩
  have sHA := same_upd (H := H9) (o := .lst [.int ev.num]) nB
  have eB := upd_same (H := H9) (a := B) (o := .lst [.int ev.num])
  generalize upd H9 B (.lst [.int ev.num]) = HA at sHA eB ⊢
  have s9A := s9.trans sHA
  have fin : ∀ (k : Int) (x : Bool), k = (if x = true then 1 else 0) → (x = true ↔ ev.tag = Str.ofString "open" ∧ ev.num ∉ L) → ∀ {C : VK}, (∀ g HB, g ≠ D → Same H8 HB → HB g = some (.lst ((stAt es (i + 1)).opn.map V.int)) → C (.ref g) HB) → rMul2 K (.ref B) (.int k) HA fun y H2 => rAdd2 K (.ref I1) y H2 C := fun k x hk hx {C} hC => by
    refine .inr ⟨B, k, [.int ev.num], rfl, rfl, eB, by rw [hk]; split <;> decide, by rw [hk]; split <;> decide, by rw [hk]; split <;> exact sz4 (by simp), fun g1 n1 => ?_⟩
    have e1 : (List.replicate k.toNat [V.int ev.num]).flatten = (if ev.tag = Str.ofString "open" ∧ ev.num ∉ L then [ev.num] else []).map V.int := by
      rw [hk]
      cases x with
      | true => rw [if_pos rfl, if_pos (hx.mp rfl)]; rfl
      | false => rw [if_neg (by decide), if_neg (fun z => by have := hx.mpr z; cases this)]; rfl
    rw [e1]
    have sB := same_upd (o := .lst ((if ev.tag = Str.ofString "open" ∧ ev.num ∉ L then [ev.num] else []).map V.int)) n1
    have eB1 := upd_same (H := HA) (a := g1) (o := .lst ((if ev.tag = Str.ofString "open" ∧ ev.num ∉ L then [ev.num] else []).map V.int))
    refine rAdd2_g (sB _ _ (sHA _ _ h9)) eB1 (by rw [List.length_map, List.length_map]; have : (if ev.tag = Str.ofString "open" ∧ ev.num ∉ L then [ev.num] else []).length ≤ 1 := (by split <;> simp); omega) fun g HB n3 s3 h3 => ?_
    refine hC g HB ?_ ((s9A.trans sB).trans s3) (by rw [h3, ← List.map_append, hos])
    exact fun z => by rw [z, (s9A.trans sB) _ _ hv8] at n3; cases n3
  have done : ∀ g HB, g ≠ D → Same H8 HB → HB g = some (.lst ((stAt es (i + 1)).opn.map V.int)) → ∃ vs' I' a' b' c' d' e', [some (V.ref p), some (V.ref q), some (V.ref D), some (V.ref g), some (V.int i), some (V.ref t), c, some (V.int (cnt es ev.tag i : Nat)), e] = [some (V.ref p), some (.ref q), some (.ref D), some (.ref I'), a', b', c', d', e'] ∧ Same H HB ∧ HB D = some (.lst vs') ∧ Paired (TR rowV HB) vs' (fRows es (i + 1)) ∧ I' ≠ D ∧ HB I' = some (.lst ((stAt es (i + 1)).opn.map V.int)) := fun g HB ng sB hB => ⟨vs8, g, _, _, _, _, _, rfl, s8.trans sB, sB _ _ hv8, (firm_TR rowV).all (sT sB) pv8, ng, hB⟩
  have hTA := sHA _ _ hT9
  walk_at "y"
  refine rGet_t (n := 0) (SqT.of hTA) (Ev.head _) ?_
  walk_at "y"
  by_cases ho2 : ev.tag = Str.ofString "open"
  · rw [decide_eq_true ho2, if_pos rfl]
    walk_at "y"
    refine rGet_t (n := 1) (SqT.of hTA) (Ev.snd _) ?_
    walk_at "y"
    refine rNotIn2_f (b := true) (SqL.of (sHA _ _ h9)) rfl (flat_ints _) ?_
    rw [inV_ints]
    walk_at "y"
    refine .inr ⟨_, rfl, fin _ (!decide (ev.num ∈ L)) rfl (by simp [ho2]) fun g HB ng sB hB => ?_⟩
    walk_at "y"
    exact done g HB ng sB hB
  · rw [decide_eq_false ho2, if_neg (by decide)]
    walk_at "y"
    refine .inr ⟨_, rfl, fin _ false rfl (by simp [ho2]) fun g HB ng sB hB => ?_⟩
    walk_at "y"
    exact done g HB ng sB hB
end

end L77
namespace L77
open PySem PySem.Spec PyProof.Rows L2
variable {gd : Bool}
local macro_rules | `(tactic| walk_at "y1") => `(tactic| with_reducible first
  | refine tSeq_i ?_ | refine tAsg_i ?_ | refine tCons_i ?_ | refine tNil_i ?_ | refine tC_i ?_ | refine tOp_i ?_ | refine tIfS_i ?_ | refine tTest_i ?_ | refine exBl_i ?_ | refine tRet_i ?_ | refine tCall_i ?_
  | refine tCB_i ?_ | refine tLst_i ?_ | refine tTup_i ?_ | refine rI0_i ?_ | refine tDrop_i ?_ | refine tNext_i ?_ | refine tB_i ?_ | refine tAnd_i ?_ | refine tOr_i ?_ | refine tNot_i ?_ | refine tAndV_i ?_ | refine tOrV_i ?_ | refine tNotV_i ?_
  | refine tIf_i ?_ | refine tUn_i ?_ | refine tDGet_i ?_ | refine sDPut_i ?_ | refine tFld_i ?_ | refine tRetN_i ?_ | refine tBreak_i ?_ | refine tCont_i ?_ | refine rU_i ?_)
local macro_rules | `(tactic| walk_at "yhead") => `(tactic| dsimp only [L2.start, List.map, List.length_cons, List.length_nil, Nat.reduceAdd, Nat.reduceSub, List.replicate, List.cons_append, List.nil_append])
local macro_rules | `(tactic| walk_at "y2") => `(tactic| first
  | walk_at "y1"
  | ((with_reducible refine tVar_i (v := ?v) ?h ?q); (case h => rfl))
  | ((with_reducible refine gName_i ?_); (dsimp only [List.set]))
  | ((with_reducible refine rEq_i ?h ?q); (case h => rfl)) | ((with_reducible refine rNe_i ?h ?q); (case h => rfl)))
local macro_rules | `(tactic| walk_at "y") => `(tactic| repeat walk_at "y2")

/-! a lambda whose one parameter has a whole number as its default, handed to a def -/
open LamX
structure LamD (N : List Str) (sc scope : Scope) : Prop where
  kind : scope.kind = .function
  co : scope.isCoroutine = false
  gen : scope.isGenerator = false
  own : ∀ y ∈ scope.names, y.2 ≠ .cell
  loc : ∀ y ∈ N, scope.names.lookup y ≠ some .local
  free : ∀ y ∈ scope.names, y.2 = .free → sc.names.lookup y.1 = some .cell ∨ sc.names.lookup y.1 = some .free
theorem LamD.has {X : Cx} {scope : Scope} (L : LamD X.N X.env.scope scope) (ok : X.Ok) : ∀ y ∈ scope.names, y.2 = .free → ∃ c, X.env.cells.lookup y.1 = some c := fun y hy e => (L.free y hy e).elim (fun k => ok.has _ (.inl k)) fun k => ok.has _ (.inr k)
section
variable {X : Cx} {pins : List (Addr × Obj)} {σ : L2.St} {H : Hp} {s : Shared}
abbrev lamOb (X : Cx) (params : Arguments) (body : Expr) (scope : Scope) (t : Addr) (doc pm : Value) (c' : Addr) (ctv : Value) : Obj := PySem.W.kdv_obj "<lambda>" (X.env.qual ++ "<lambda>") params (.expr body) scope (cloFrom X.env.cells scope.names []) (.ref t) doc pm c' ctv
theorem lam_makeD {T : List (Addr × Str)} {c P : Addr} {params : Arguments} {body : Expr} {scope : Scope} {pos : Pos} {E : Value → Shared → Prop} {Q : Value → Shared → Prop} {i : Int} {j : Nat} {p1 : Pos} (I : Inv X pins σ H s) (TB : TabB X.base X.mg c P) (hcode : X.env.code = .ref c)
    (hm : (P, X.env.qual ++ "<lambda>") ∈ T) (hu : ∀ p ∈ T, p.1 = P → p.2 = X.env.qual ++ "<lambda>") (hT : Tabs T H) (hd : params.defaults = [.Constant (.int i) j p1]) (hk0 : params.kw_defaults = []) (hfree : ∀ y ∈ scope.names, y.2 = .free → ∃ c, X.env.cells.lookup y.1 = some c)
    (h : ∀ (f c' t : Addr) (tk0 : Tok) (doc pm ctv : Value) (H1 : Hp) (s' : Shared), Inv X pins σ H1 s' → ExtN H H1 → Tabs T H1 → s'.heap.get? f = some (lamOb X params body scope t doc pm c' ctv) → s'.heap.get? t = some (PySem.W.kdv_tup [.int i tk0]) →
      H1 f = none → H1 t = none → f ∉ frs X.stack → t ∉ frs X.stack → H1 c' = some (CodeO c' (X.env.qual ++ "<lambda>")) → Q (.ref f) s') :
    wpAny (model X.prog X.w) X.A (eval (.Lambda params body scope pos) X.env) Q E s := by
  refine PySem.W.kdv_lam (by rw [hd]; rfl) hk0 ?_
  rw [hd]
  refine PySem.W.kdv_all1 (wpAny_Constant_int (PySem.W.kdv_all0 ?_))
  rw [makeFunction_eq]
  simp only [List.zip_nil_right, List.filterMap_nil, List.isEmpty_nil, List.isEmpty_cons, if_true, pure_bind, Bool.false_eq_true, if_false]
  refine wpAny_bind (wpAny_newTextTuple ?_)
  generalize hdv : ([Value.int i _] : List Value) = dv
  obtain ⟨tk0, hdv⟩ : ∃ tk0, dv = [Value.int i tk0] := ⟨_, hdv.symm⟩
  have I0 : Inv X pins σ H { s with heap := s.heap.push { cls := .type "tuple", data := .seq dv.toArray }, toks := s.toks + 1 } := I.kept (t' := s.toks + 1) fun b o e => Heap.get?_push_of_some _ e
  have tE : (s.heap.push { cls := .type "tuple", data := .seq dv.toArray }).get? s.heap.objs.size = some (PySem.W.kdv_tup [.int i tk0]) := by rw [← hdv]; exact Heap.get?_push_size _ rfl
  have nt : H s.heap.objs.size = none := I.hok.fresh (Nat.le_refl _)
  have nofr : ∀ f, s.heap.objs.size ≤ f → f ∉ frs X.stack := fun f hf z => by
    rcases List.mem_cons.mp (I.stkSub _ z) with e | e
    · have h1 := I.lt
      rw [← e] at h1
      exact Nat.lt_irrefl _ (Nat.lt_of_lt_of_le h1 hf)
    · exact I.nofs hf e
  have ltt := Heap.lt_size tE
  generalize s.heap.objs.size = t at tE nt nofr ltt
  generalize hs0 : ({ s with heap := s.heap.push { cls := .type "tuple", data := .seq dv.toArray }, toks := s.toks + 1 } : Shared) = s0 at I0
  have es0 : s.heap.push { cls := .type "tuple", data := .seq dv.toArray } = s0.heap := by rw [← hs0]
  rw [es0] at tE ltt
  obtain ⟨ps, hP, ht, ha⟩ := hT _ hm
  have bP : s0.heap.BuiltinsAt X.mg P := TB.bm.keeps I0.bk
  have hP' : s0.heap.get? P = some { cls := .none, data := .fields ps } := I0.hok P _ hP
  have tP : t ≠ P := fun z => by rw [z, hP] at nt; cases nt
  cases hc : codeAmong pos ps.toList with
  | none =>
    refine PySem.W.kdv_makeTail (mg := X.mg) (c := c) (P := P) (ps := ps) (closure_ok hfree) I0.ok.glob (I0.mod.glob.keeps I0.bk) hcode (TB.code.keeps I0.bk) hP' ht hc TB.gP bP fun c' ctv doc h' tk hx hge hlt hrec htb => ?_
    obtain ⟨c2, oc, vs, tt, e2, hoc, hd2, hv⟩ := hrec
    cases e2
    have hsz : s0.heap.objs.size ≤ h'.objs.size := Nat.le_trans hge (Nat.le_of_lt hlt)
    have nC : H c' = none := I0.hok.fresh hge
    have I1 := inv_table (t' := tk) (more := #[rawInt pos.line, rawInt pos.col, .ref c']) (h' := h'.push (lamOb X params body scope t doc ((X.mg "__name__").getD .none) c' ctv)) I0 hP
      (fun b o hb e => Heap.get?_push_of_some _ (hx b o hb e)) (Heap.get?_push_of_some _ htb) hge ⟨oc, vs, tt, Heap.get?_push_of_some _ hoc, hd2, hv⟩
    have hE : ExtN H (upd (upd H P (.tbl (ps ++ #[rawInt pos.line, rawInt pos.col, .ref c']))) c' (CodeO c' (X.env.qual ++ "<lambda>"))) := fun b o e n => by
      rw [upd_ne (ne_of_none e nC), upd_ne (fun z => n ps (Option.some.inj (e.symm.trans (by rw [z]; exact hP))))]
      exact e
    have eL : (ps ++ #[rawInt pos.line, rawInt pos.col, .ref c']).toList = ps.toList ++ [rawInt pos.line, rawInt pos.col, .ref c'] := by simp
    have tc : t ≠ c' := Nat.ne_of_lt (Nat.lt_of_lt_of_le ltt hge)
    have kept : ∀ p ∈ T, TabS (upd (upd H P (.tbl (ps ++ #[rawInt pos.line, rawInt pos.col, .ref c']))) c' (CodeO c' (X.env.qual ++ "<lambda>"))) p.1 p.2 := fun p hp => by
      by_cases hb : p.1 = P
      · rw [hu p hp hb, hb]
        refine ⟨_, by rw [upd_ne (ne_of_none hP nC), upd_same], by rw [eL]; exact PySem.TriplesOk_snoc _ _ _ _ ht, fun p' cv hcv => ?_⟩
        rw [eL] at hcv
        rcases among_app _ ht hcv with z | z
        · obtain ⟨c0, e1, e2⟩ := ha p' cv z
          exact ⟨c0, e1, hE _ _ e2 codeO_ne⟩
        · exact ⟨c', z, upd_same⟩
      · obtain ⟨ps', a1, a2, a3⟩ := hT p hp
        refine ⟨ps', by rw [upd_ne (ne_of_none a1 nC), upd_ne hb]; exact a1, a2, fun p' cv hcv => ?_⟩
        obtain ⟨c0, e1, e2⟩ := a3 p' cv hcv
        exact ⟨c0, e1, hE _ _ e2 codeO_ne⟩
    refine h h'.objs.size c' t tk0 doc ((X.mg "__name__").getD .none) ctv _ _ I1 hE kept (Heap.get?_push_size _ rfl) (Heap.get?_push_of_some _ (hx _ _ tP tE)) ?_ (by rw [upd_ne tc, upd_ne tP]; exact nt) (nofr _ (Nat.le_of_lt (Nat.lt_of_lt_of_le ltt hsz))) (nofr _ (Nat.le_refl _)) upd_same
    have n1 : h'.objs.size ≠ c' := Nat.ne_of_gt hlt
    have n2 : h'.objs.size ≠ P := Nat.ne_of_gt (Nat.lt_of_lt_of_le (Heap.lt_size hP') hsz)
    rw [upd_ne n1, upd_ne n2]
    exact I0.hok.fresh hsz
  | some cv =>
    obtain ⟨c', e, hco⟩ := ha pos cv hc
    subst e
    refine PySem.W.kdv_makeTailHit (mg := X.mg) (c := c) (P := P) (ps := ps) (closure_ok hfree) I0.ok.glob (I0.mod.glob.keeps I0.bk) hcode (TB.code.keeps I0.bk) hP' ht hc bP fun ctv doc h' tk hx hsz => ?_
    have I1 : Inv X pins σ H { s0 with heap := h'.push (lamOb X params body scope t doc ((X.mg "__name__").getD .none) c' ctv), toks := tk } := I0.kept fun b o e => Heap.get?_push_of_some _ (hx b o e)
    exact h h'.objs.size c' t tk0 doc ((X.mg "__name__").getD .none) ctv H _ I1 (ExtN.refl H) hT (Heap.get?_push_size _ rfl) (Heap.get?_push_of_some _ (hx _ _ tE)) (I0.hok.fresh hsz) nt (nofr _ (Nat.le_of_lt (Nat.lt_of_lt_of_le ltt hsz))) (nofr _ (Nat.le_refl _)) hco
end
section
variable {X : Cx} {pins : List (Addr × Obj)} {σ : L2.St} {H HZ : Hp} {s s1 : Shared}
theorem lam_startD {A : Around} {outer : List Env} {E : XK} {scope : Scope} {f c' : Addr} {h₁ : Heap} {tk : Nat} {binds : List (Str × Value)} (I : Inv X pins σ H s) (L : LamD X.N X.env.scope scope) (e0 : Env0 X.prog X.w X.K X.mg X.base A outer s1 HZ) (hd : A.handled = none)
    (un : Un (frs X.stack) [] H HZ s.heap s1.heap) (hns : h₁.Ns s1.heap.objs.size fun y => binds.reverse.lookup y) (kp : ∀ b o, s1.heap.get? b = some o → h₁.get? b = some o) :
    Inv (lamCx X A outer s1 HZ E scope f c') [] σ HZ { s1 with heap := h₁, toks := tk } := by
  have hfree := L.has I.ok
  have cm : ∀ {y c}, (cloFrom X.env.cells scope.names []).lookup y = some c → X.env.cells.lookup y = some c := fun {y c} e => by
    rcases cloFrom_mem (PySem.mem_of_lookup e) with hm | ⟨h1, h2⟩
    · cases hm
    · obtain ⟨c1, hc⟩ := hfree _ h1 rfl
      have hc : X.env.cells.lookup y = some c1 := hc
      have e2 : c = c1 := by
        rw [h2, hc] <;> rfl
      rw [e2]
      exact hc
  have look : ∀ {y}, scope.names.lookup y = some .free → ∃ c, (cloFrom X.env.cells scope.names []).lookup y = some c := fun {y} hl => by
    have hy : (y, NameKind.free) ∈ scope.names := PySem.mem_of_lookup hl
    exact mem_lookup (cloFrom_has (cells := X.env.cells) (acc := []) hy)
  have cellK : ∀ {c : Addr} {v : Option Value}, H c = none → s.heap.IsCell c v → h₁.IsCell c v := fun {c v} n ⟨o, ho, hd⟩ => by
    obtain ⟨sl, q⟩ := un.any ho n (by simp)
    exact ⟨_, kp _ _ q, hd⟩
  have noA : ∀ b : Addr, b ∉ (lamCx X A outer s1 HZ E scope f c').ex := fun b z => absurd (show b ∈ ([] : List Addr) from z) (by simp)
  refine ⟨⟨e0.mod, L.kind, rfl, rfl, Nat.le_refl _, fun y z c e1 e2 => I.ok.inj y z c (cm e1) (cm e2), fun y hy => ?_, fun y c z _ => ?_, fun _ => hd, Around.frames_deeper e0.frames, .inr ⟨rfl, rfl⟩, fun b z => absurd z (noA b), e0.bs, e0.bsz, fun b _ _ => noA b,
      fun b z => absurd z (noA b), e0.funs, e0.frf⟩,
    rfl, e0.bare, Un.kept kp, ⟨_, hns, fun i y v e1 e2 e3 => ?_⟩, fun y c e => ?_, e0.hok.fresh (Nat.le_refl _), fun y c e => ?_, fun q hq => absurd (show q ∈ ([] : List (Addr × Obj)) ++ [] from hq) (by simp), e0.hok.kept kp, I.len⟩
  · have hy : scope.names.lookup y = some .cell ∨ scope.names.lookup y = some .free := hy
    rcases hy with hy | hy
    · exact absurd rfl (L.own _ (PySem.mem_of_lookup hy))
    · exact look hy
  · have z : false = true := z
    cases z
  · have e3 : Vis scope y := e3
    rcases e3 with k | k | k
    · exact absurd k (L.loc y (List.mem_of_getElem? e1))
    · exact absurd rfl (L.own _ (PySem.mem_of_lookup k))
    · obtain ⟨m, hn, hl⟩ := I.loc
      have hvis : Vis X.env.scope y := (L.free _ (PySem.mem_of_lookup k) rfl).elim (fun k => .inr (.inl k)) (fun k => .inr (.inr k))
      obtain ⟨w', r, q⟩ := hl i y v e1 e2 hvis
      obtain ⟨c2, h2⟩ := look k
      refine ⟨w', r, .inr ⟨.inr k, c2, h2, ?_⟩⟩
      have c1 := cm h2
      rcases q with ⟨k', _⟩ | ⟨_, c3, e', z⟩
      · have k' : X.env.scope.names.lookup y = some .local := k'
        rcases L.free _ (PySem.mem_of_lookup k) rfl with k2 | k2 <;> rw [show X.env.scope.names.lookup y = _ from k2] at k' <;> cases k'
      · rw [c1] at e'
        cases e'
        exact cellK (I.freeC y _ c1) z
  · obtain ⟨w', z⟩ := I.cell y c (cm e)
    exact ⟨w', cellK (I.freeC y c (cm e)) z⟩
  · obtain ⟨v, o, ho, hd⟩ := I.cell y c (cm e)
    exact un.free c o ho (I.freeC y c (cm e)) (by simp)
/-- x(), in the def that got the lambda; what is raised is wished for at the caller's slots -/
theorem pe_actG {CXg : CXT} {Eg : XK} {Ng : List Str} {qg : Str} {sg : Scope} {g f c' : Addr} {binds : List (Str × Value)} {cdg dV doc pm ctv : Value} {params : Arguments} {body : Expr} {scope : Scope} {k i : Nat} {a : Str} {pn : List (Addr × Obj)} {xe : Value → Shared → Prop} {W : WX} {tb : XK → TE} {p1 p2 : Pos}
    (I : Inv X pins σ H s) (L : LamD X.N X.env.scope scope) (hf : s.heap.get? f = some (PySem.W.kdv_obj "<lambda>" (X.env.qual ++ "<lambda>") params (.expr body) scope (cloFrom X.env.cells scope.names []) dV doc pm c' ctv)) (hfn : H f = none) (hfr : f ∉ frs X.stack)
    (hbt : ∀ s1 : Shared, (∀ b o, s.heap.get? b = some o → H b = none → b ∉ frs X.stack → s1.heap.get? b = some o) → BindsTo s1 (PySem.W.kdv_fn "<lambda>" (X.env.qual ++ "<lambda>") params (.expr body) scope (cloFrom X.env.cells scope.names []) dV doc pm (.ref c') ctv) ⟨[], []⟩ binds) (hlb : ∀ y ∈ binds, scope.names.lookup y.1 = some .local)
    (tk : Takes ((cxOf CXg X.prog X.w X.K X.mg X.base Ng qg sg g cdg X.A X.stack s H Eg).tr pn xe) W) (hr : Room (k + 1) (X.A.deeper (envOfC qg sg s.heap.objs.size g cdg)))
    (hbody : ∀ (A : Around) (outer : List Env) (s : Shared) (H : Hp) (E : XK), Room k (A.deeper (lamEnv X scope s.heap.objs.size f c')) → PE (lamCx X A outer s H E scope f c') body (tb E))
    (hN : Ng[i]? = some a) (hv : Vis sg a) (hd : (a == ("__debug__" : Str)) = false := by decide) (hcd : (a == ("__classdict__" : Str)) = false := by decide) :
    PE ((cxOf CXg X.prog X.w X.K X.mg X.base Ng qg sg g cdg X.A X.stack s H Eg).tr pn xe) (.Call (.Name a p1) [] [] p2)
      (fun σZ HZ Q => σZ[i]? = some (some (.ref f)) ∧ HZ c' = some (CodeO c' (X.env.qual ++ "<lambda>")) ∧ tb (WE W σZ) σ HZ Q) := by
  refine ⟨fun pinsZ sZ σZ HZ Q IZ h => ?_⟩
  obtain ⟨hs, hc, ht⟩ := h
  refine wpAny_Call_Name_kw (thn ((pe_var (pos := p1) (i := i) hN hv hd hcd).run pinsZ sZ σZ HZ (fun v H1 => v = .ref f ∧ H1 = HZ) IZ ⟨.ref f, hs, rfl, rfl⟩) fun u s1 ⟨v, H1, I1, r1, q1⟩ => ?_)
  obtain ⟨ev, eH⟩ := q1
  subst ev
  rw [eH] at I1
  obtain rfl : u = Value.ref f := r1
  have kept : ∀ b o, s.heap.get? b = some o → H b = none → b ∉ frs X.stack → s1.heap.get? b = some o := fun b o e n nf => I1.base.keep b _ e n nf (fun z => nomatch (show b ∈ ([] : List Addr) from z))
  have of1 := kept f _ hf hfn hfr
  refine PySem.W.callWith_F0 ⟨_, _, _, _, of1⟩ ?_
  have un : Un (frs X.stack) [] H HZ s.heap s1.heap := I1.base
  obtain ⟨⟨oc, vs, tt, hoc, hdc, hvc⟩, _, _⟩ := I1.hok c' _ hc
  have rc : codeAny (model X.prog X.w) (X.A.deeper (envOfC qg sg s.heap.objs.size g cdg)) (.call (.ref f) ⟨[], []⟩) (CR (L2.CX X.prog X.w) (envOfC qg sg s.heap.objs.size g cdg :: X.stack) X.prog X.w HZ s1 Q (WE W σZ)) s1 := by
    refine PySem.W.kla_callFunE hr.depth of1 rfl L.co L.gen rfl ⟨c', oc, vs, tt, rfl, hoc, hdc, hvc⟩ ?_
    refine hbt s1 kept _ _ _ _ (wpAny_newFunctionEnv (fun y hy => L.own y hy) (fun y hy => hlb y hy) (fun h₁ hns hsb => ⟨I1.nolimit.fresh _ hsb, ?_⟩) L.kind)
    show codeAny _ _ (.expr body (lamEnv X scope s1.heap.objs.size f c')) _ _
    have kp : ∀ b o, s1.heap.get? b = some o → h₁.get? b = some o := fun b o e => hsb.extBut b o (Nat.ne_of_lt (Heap.lt_size e)) (Heap.get?_push_of_some _ e)
    have J : Inv (lamCx X (X.A.deeper (envOfC qg sg s.heap.objs.size g cdg)) (envOfC qg sg s.heap.objs.size g cdg :: X.stack) s1 HZ (WE W σZ) scope f c') [] σ HZ { s1 with heap := h₁, toks := s1.toks + binds.length } :=
      lam_startD I L I1.env0 hr.hd un hns kp
    refine PySem.W.kla_codeExpr (wpAny_mono ((hbody _ _ s1 HZ _ (hr.deeper _)).run [] _ _ HZ Q J ht) (fun v s' hq => ?_) fun e s' hq => hq)
    obtain ⟨w', H', J', rv, q⟩ := hq
    exact ⟨w', H', J'.os, J'.bare, J'.base, J'.hok, rv, q⟩
  refine wpAny_call (codeAny_mono rc fun r s' hq => ?_)
  cases r with
  | error e => exact passAt tk σZ pinsZ HZ s1 e s' I1 hq
  | ok fl =>
    cases fl with
    | ret u => exact I1.after hq
    | next => exact False.elim hq
    | brk => exact False.elim hq
    | cont => exact False.elim hq
end
/-- the def that calls what it got; TT: what it makes of the lambda's reading -/
def GivesW (X : Cx) (Ng : List Str) (x : Str) (sg : Scope) (g : Addr) (cdg : Value) (bg : List Stmt) (a : Str) (q : Str) (TT : (XK → Hp → VK → Prop) → Hp → VK → Prop) : Prop :=
  ∀ (f c' : Addr) (s : Shared) (H : Hp) (Q : VK) (tl : XK → Hp → VK → Prop),
    (∀ (W : WX) (pn : List (Addr × Obj)) (xe : Value → Shared → Prop) (p1 p2 : Pos), Takes ((cxOf C8.CX0 X.prog X.w X.K X.mg X.base Ng x sg g cdg X.A X.stack s H C8.E0).tr pn xe) W →
      PE ((cxOf C8.CX0 X.prog X.w X.K X.mg X.base Ng x sg g cdg X.A X.stack s H C8.E0).tr pn xe) (.Call (.Name a p1) [] [] p2) (fun σZ HZ Q => σZ[0]? = some (some (.ref f)) ∧ HZ c' = some (CodeO c' q) ∧ tl (WE W σZ) HZ Q)) →
    H c' = some (CodeO c' q) → TT tl H Q →
    ∃ t, PSs (cxOf C8.CX0 X.prog X.w X.K X.mg X.base Ng x sg g cdg X.A X.stack s H C8.E0).nox bg t ∧ t { nx := fun _ H' => Q .non H', rt := Q } (L2.start Ng [.ref f]) H
section
variable {X : Cx}
/-- what is asked of x, the def that is given the lambda -/
structure Giver (X : Cx) (x a : Str) (q : Str) (TT : (XK → Hp → VK → Prop) → Hp → VK → Prop) : Prop where
  ex : ∃ (g : Addr) (pg : Arguments) (bg : List Stmt) (sg : Scope) (dV kV doc pm cdv ct oc : Value) (an od : Option Addr) (osl : Array (Option Value)) (Ng : List Str), X.mg x = some (.ref g) ∧ PySem.W.keepIn X.K (.ref g) = true ∧
    X.K.lookup g = some ⟨oc, od, .func (PySem.W.fnOf x x pg bg sg dV kV doc pm an cdv ct), osl⟩ ∧ PySem.W.codeIn X.K cdv x = true ∧ L2.Binds X.K (PySem.W.fnOf x x pg bg sg dV kV doc pm an cdv ct) [a] [] ∧ FnScope Ng [a] sg ∧ Ng[0]? = some a ∧ Vis sg a ∧ GivesW X Ng x sg g cdv bg a q TT
/-- x(lambda: body) -/
theorem pe_lam0 {T : List (Addr × Str)} {TT : (XK → Hp → VK → Prop) → Hp → VK → Prop} {x a : Str} {c P : Addr} {k : Nat} {params : Arguments} {body : Expr} {scope : Scope} {t : XK → TE} {p lpos pos : Pos} (G : Giver X x a (X.env.qual ++ "<lambda>") TT)
    (TB : TabB X.base X.mg c P) (hcode : X.env.code = .ref c) (hmT : (P, X.env.qual ++ "<lambda>") ∈ T) (hu : ∀ p ∈ T, p.1 = P → p.2 = X.env.qual ++ "<lambda>") (hr : Room (k + 2) X.A) (L : LamD X.N X.env.scope scope)
    (hbody : ∀ (A : Around) (outer : List Env) (s : Shared) (H : Hp) (E : XK) (f c' : Addr), Room k (A.deeper (lamEnv X scope s.heap.objs.size f c')) → PE (lamCx X A outer s H E scope f c') body (t E))
    (hg : Gl X x := by rfl) (hdef : defaultsOf params X.env = ([], []) := by rfl)
    (hbind : ∀ (q : Str) (cl : List (Str × Addr)) (pm cv ctv : Value), bindArgs (PySem.W.kdv_fn "<lambda>" q params (.expr body) scope cl .none .none pm cv ctv) ⟨[], []⟩ = pure [] := by intros; rfl)
    (hdb : (x == ("__debug__" : Str)) = false := by decide) (hd : (a == ("__debug__" : Str)) = false := by decide) (hcd : (a == ("__classdict__" : Str)) = false := by decide) :
    PE X (.Call (.Name x p) [.Lambda params body scope lpos] [] pos) (tLam T TT t) := by
  obtain ⟨g, pg, bg, sg, dV, kV, doc, pm, cdv, ct, oc, an, od, osl, Ng, hm, hk, lk, hcg, hb, Sg, hNg, hva, hG⟩ := G.ex
  refine ⟨fun pins s σ H Q I h => ?_⟩
  obtain ⟨hT, h⟩ := h
  refine wpAny_Call_Name_kw (ld_glob I hg hm ?_ hdb)
  refine PySem.W.callWith_K (h₀ := X.base) I.ok.mod.kin hk ?_ (by rfl) (by rfl)
  show wpAny _ _ (spliced ((false, eval (.Lambda params body scope lpos) X.env) :: backTo pos (starEach [] X.env))) _ _ s
  refine Calls.spliced_cons (lam_make2 I TB hcode hmT hu hT hdef (L.has I.ok) fun f c' pm' ctv H1 s' I1 eN T1 hf hfn hfr hco => ?_)
  refine Calls.spliced_nil ⟨I1.kIn, ?_⟩
  have rc : codeAny (model X.prog X.w) X.A (.call (.ref g) ⟨[.ref f], []⟩) (CR C8.CX0 X.stack X.prog X.w H1 s' Q C8.E0) s' := by
    refine run_ofS (N := Ng) (ps := [a]) (us := [.ref f]) (vs := [.ref f]) lk hcg Sg hr I1.env0 (hb s' [.ref f] I1.kIn rfl) (.cons rfl .nil) rfl fun hr' => ?_
    obtain ⟨t', ht', hq'⟩ := hG f c' s' H1 Q (fun E H' Q' => t E σ H' Q') (fun W pn xe p1 p2 tk => pe_actG (i := 0) (binds := []) I1 L hf hfn hfr (fun s1 _ => .of_eq (hbind _ _ _ _ _)) (fun y hy => nomatch hy) tk hr' (fun A outer s H E hr2 => hbody A outer s H E f c' hr2) hNg hva hd hcd) hco (h H1 eN T1)
    exact ⟨t', ht'.nox, hq'⟩
  refine wpAny_call (codeAny_mono rc fun r s2 hq => ?_)
  cases r with
  | error e => exact (show False from hq).elim
  | ok fl =>
    cases fl with
    | ret u => exact I1.after hq
    | next => exact False.elim hq
    | brk => exact False.elim hq
    | cont => exact False.elim hq
/-- x(lambda a0 = i0: body) -/
theorem pe_lamD {T : List (Addr × Str)} {TT : (XK → Hp → VK → Prop) → Hp → VK → Prop} {x a : Str} {c P : Addr} {k : Nat} {params : Arguments} {body : Expr} {scope : Scope} {t : XK → TE} {p lpos pos : Pos} {i0 : Int} {j0 : Nat} {q1 : Pos} {a0 : Str} (G : Giver X x a (X.env.qual ++ "<lambda>") TT)
    (TB : TabB X.base X.mg c P) (hcode : X.env.code = .ref c) (hmT : (P, X.env.qual ++ "<lambda>") ∈ T) (hu : ∀ p ∈ T, p.1 = P → p.2 = X.env.qual ++ "<lambda>") (hr : Room (k + 2) X.A) (L : LamD X.N X.env.scope scope)
    (hbody : ∀ (A : Around) (outer : List Env) (s : Shared) (H : Hp) (E : XK) (f c' : Addr), Room k (A.deeper (lamEnv X scope s.heap.objs.size f c')) → PE (lamCx X A outer s H E scope f c') body (t E))
    (hl0 : scope.names.lookup a0 = some .local) (hbind : ∀ (q : Str) (cl : List (Str × Addr)) (t : Addr) (doc pm cv ctv : Value), ∃ k, bindArgs (PySem.W.kdv_fn "<lambda>" q params (.expr body) scope cl (.ref t) doc pm cv ctv) ⟨[], []⟩ = seqItems? (.ref t) >>= k ∧ ∀ u, k (some #[u]) = pure [(a0, u)])
    (hg : Gl X x := by rfl) (hdef : params.defaults = [.Constant (.int i0) j0 q1] := by rfl) (hk0 : params.kw_defaults = [] := by rfl)
    (hdb : (x == ("__debug__" : Str)) = false := by decide) (hd : (a == ("__debug__" : Str)) = false := by decide) (hcd : (a == ("__classdict__" : Str)) = false := by decide) :
    PE X (.Call (.Name x p) [.Lambda params body scope lpos] [] pos) (tLam T TT t) := by
  obtain ⟨g, pg, bg, sg, dV, kV, doc, pm, cdv, ct, oc, an, od, osl, Ng, hm, hk, lk, hcg, hb, Sg, hNg, hva, hG⟩ := G.ex
  refine ⟨fun pins s σ H Q I h => ?_⟩
  obtain ⟨hT, h⟩ := h
  refine wpAny_Call_Name_kw (ld_glob I hg hm ?_ hdb)
  refine PySem.W.callWith_K (h₀ := X.base) I.ok.mod.kin hk ?_ (by rfl) (by rfl)
  show wpAny _ _ (spliced ((false, eval (.Lambda params body scope lpos) X.env) :: backTo pos (starEach [] X.env))) _ _ s
  refine Calls.spliced_cons (lam_makeD I TB hcode hmT hu hT hdef hk0 (L.has I.ok) fun f c' t0 tk0 doc' pm' ctv H1 s' I1 eN T1 hf hf2 hfn htn hfr htr hco => ?_)
  refine Calls.spliced_nil ⟨I1.kIn, ?_⟩
  have rc : codeAny (model X.prog X.w) X.A (.call (.ref g) ⟨[.ref f], []⟩) (CR C8.CX0 X.stack X.prog X.w H1 s' Q C8.E0) s' := by
    refine run_ofS (N := Ng) (ps := [a]) (us := [.ref f]) (vs := [.ref f]) lk hcg Sg hr I1.env0 (hb s' [.ref f] I1.kIn rfl) (.cons rfl .nil) rfl fun hr' => ?_
    obtain ⟨t', ht', hq'⟩ := hG f c' s' H1 Q (fun E H' Q' => t E σ H' Q') (fun W pn xe p1 p2 tk => pe_actG (i := 0) (binds := [(a0, .int i0 tk0)]) I1 L hf hfn hfr (fun s1 kept => by
        obtain ⟨kb, hb1, hb2⟩ := hbind (X.env.qual ++ "<lambda>") (cloFrom X.env.cells scope.names []) t0 doc' pm' (.ref c') ctv
        exact BindsTo.of_defaults rfl (kept t0 _ hf2 htn htr) rfl hb1 (hb2 _)) (fun y hy => by
        have : y = (a0, .int i0 tk0) := by simpa using hy
        rw [this]
        exact hl0) tk hr' (fun A outer s H E hr2 => hbody A outer s H E f c' hr2) hNg hva hd hcd) hco (h H1 eN T1)
    exact ⟨t', ht'.nox, hq'⟩
  refine wpAny_call (codeAny_mono rc fun r s2 hq => ?_)
  cases r with
  | error e => exact (show False from hq).elim
  | ok fl =>
    cases fl with
    | ret u => exact I1.after hq
    | next => exact False.elim hq
    | brk => exact False.elim hq
    | cont => exact False.elim hq
end

end L77
namespace L77
open PySem PySem.Spec PyProof.Rows L2
variable {gd : Bool}
local macro_rules | `(tactic| walk_at "y1") => `(tactic| with_reducible first
  | refine tSeq_i ?_ | refine tAsg_i ?_ | refine tCons_i ?_ | refine tNil_i ?_ | refine tC_i ?_ | refine tOp_i ?_ | refine tIfS_i ?_ | refine tTest_i ?_ | refine exBl_i ?_ | refine tRet_i ?_ | refine tCall_i ?_
  | refine tCB_i ?_ | refine tLst_i ?_ | refine tTup_i ?_ | refine rI0_i ?_ | refine tDrop_i ?_ | refine tNext_i ?_ | refine tB_i ?_ | refine tAnd_i ?_ | refine tOr_i ?_ | refine tNot_i ?_ | refine tAndV_i ?_ | refine tOrV_i ?_ | refine tNotV_i ?_
  | refine tYes_i ?_ | refine tTM_i ?_ | refine tPar_i ?_ | refine tSl_i ?_ | refine tNoPart_i ?_ | refine tPart_i ?_ | refine part_i ?_ | refine tMake_i ?_ | refine tProp_i ?_ | refine tCallOG_i ?_ | refine tVeI_i ?_ | refine tOst_i ?_ | refine tMkO_i ?_ | refine sFld_i ?_ | refine fldaug_i ?_ | refine gCons_i ?_ | refine gNil_i ?_ | refine tChain_i ?_ | refine tBM_i ?_ | refine rAdd2_i ?_ | refine rLe2_i ?_ | refine rEq2_i ?_ | refine rEq2_ss ?_ | refine rNe2_i ?_ | refine rNe2_ss ?_ | refine rIsN_i ?_ | refine rNotN_i ?_ | refine tTup_i2 ?_ | refine tIf_i ?_ | refine tUn_i ?_ | refine tDGet_i ?_ | refine sDPut_i ?_ | refine tFld_i ?_ | refine tRetN_i ?_ | refine tBreak_i ?_ | refine tCont_i ?_ | refine rU_i ?_)
local macro_rules | `(tactic| walk_at "yhead") => `(tactic| dsimp only [L2.start, List.map, List.length_cons, List.length_nil, Nat.reduceAdd, Nat.reduceSub, List.replicate, List.cons_append, List.nil_append])
local macro_rules | `(tactic| walk_at "y2") => `(tactic| first
  | walk_at "y1"
  | ((with_reducible refine tVar_i (v := ?v) ?h ?q); (case h => rfl))
  | ((with_reducible refine gName_i ?_); (dsimp only [L2.wipe, List.set]))
  | with_reducible refine iteT ?_ | with_reducible refine iteF ?_ | with_reducible refine iteNT ?_ | with_reducible refine iteNF ?_
  | ((with_reducible refine iteDT ?h ?q); (case h => first | decide +kernel | omega | assumption | exact nv1 | exact nv2 | exact nv3 | exact nv4)) | ((with_reducible refine iteDF ?h ?q); (case h => first | decide +kernel | omega | assumption | exact nv1 | exact nv2 | exact nv3 | exact nv4))
  | ((with_reducible refine iteNDT ?h ?q); (case h => first | decide +kernel | omega | assumption | exact nv1 | exact nv2 | exact nv3 | exact nv4)) | ((with_reducible refine iteNDF ?h ?q); (case h => first | decide +kernel | omega | assumption | exact nv1 | exact nv2 | exact nv3 | exact nv4))
  | ((with_reducible refine rIsi2_1 (T := ?T) (b := true) ?ty ?h ?q); (case ty => first | exact ty_str | exact ty_int | exact ty_bl | exact ty_non); (case h => decide +kernel))
  | ((with_reducible refine rIsi2_1 (T := ?T) (b := false) ?ty ?h ?q); (case ty => first | exact ty_str | exact ty_int | exact ty_bl | exact ty_non); (case h => decide +kernel))
  | ((with_reducible refine rEq2_s ?h ?q); (case h => rfl)) | ((with_reducible refine rNe2_s ?h ?q); (case h => rfl))
  | ((with_reducible refine rEq_i ?h ?q); (case h => rfl)) | ((with_reducible refine rNe_i ?h ?q); (case h => rfl)))
local macro_rules | `(tactic| walk_at "y") => `(tactic| repeat walk_at "y2")

section
variable {X : Cx} {K : PySem.W.Frag}
/-- repr of data, or of an empty dict -/
def rRepr4 (K : PySem.W.Frag) : List V → Hp → VK → Prop := fun xs H Q => rRepr K xs H Q ∨ ∃ a, xs = [.ref a] ∧ H a = some (.dK []) ∧ Q (.str "{}") H
theorem call_repr0 {k : Nat} (z : RG true k X.A) : CallR X (.builtin "repr") (fun xs H Q => ∃ a, xs = [.ref a] ∧ H a = some (.dK []) ∧ Q (.str "{}") H) := by
  intro pins s σ H xs us Q I rx h
  obtain ⟨a, rfl, ha, q⟩ := h
  obtain ⟨u, rfl, ru⟩ := Vals.one rx
  cases (show u = Value.ref a from ru)
  obtain ⟨hz, hs, vs, r, o, es, ep, h1, h2, h3, h4, h5, h6⟩ := dk_of I.hok ha
  cases r
  have e5 : es.toList = [] := by
    generalize es.toList = l at h5
    cases h5
    rfl
  have rd : Reads s.heap (.ref a) (.dict []) (a :: [] ++ []) := .dict h1 h2.1 h3 (by rw [e5]; exact .nil) (by rw [e5]; exact .nil)
  have h2' := z.r.un
  refine repr_of_reads' rd (by simp [PyData.showable, PyData.showableKv]) (fun _ => ?_) (z.g rfl) (by simp only [PyData.depth, PyData.depthKv]; omega) (fun b o e => e) (fun h' t tk hk => ⟨.str "{}", H, I.kept hk, ⟨t, ?_⟩, q⟩) ?_
  · intro m
    have : sysModules = a := by simpa using m
    subst this
    simp at hs
  · rw [show PyData.shown (.dict []) = ("{}" : Str) by rfl]
  · rw [show PyData.shown (.dict []) = ("{}" : Str) by rfl]
    exact sz4 (by decide)
theorem call_repr4 {k : Nat} (z : RG true k X.A) : CallR X (.builtin "repr") (rRepr4 X.K) := (call_repr z).or (call_repr0 z)
/-- isinstance of a kept exception -/
def rIsKO (K : PySem.W.Frag) : List V → Hp → VK → Prop := fun xs H Q => ∃ (a dd D : Addr) (c : Str) (fs : List (Str × V)) (b : Bool), xs = [.ref a, .ref D] ∧ H a = some (exk a (He.ga K c) dd) ∧ H dd = some (.xd fs) ∧ XfC K (He.ga K c) ∧ IsC K c ∧ PySem.W.kitOne K (.ref (He.ga K c)) (.ref D) = some b ∧ Q (.bl b) H
theorem call_isKO : CallR X (.builtin "isinstance") (rIsKO X.K) := by
  intro pins s σ H xs us Q I r h
  obtain ⟨a, dd, D, c, fs, b, rfl, ha, hdd, T, i, e, q⟩ := h
  obtain ⟨u1, u2, rfl, r1, r2⟩ := Vals.two r
  cases (show u1 = Value.ref a from r1)
  cases (show u2 = Value.ref D from r2)
  obtain ⟨oe, vs, e1, e2, e3, e4⟩ := exk_at I.hok ha
  obtain ⟨mA, hns, hr⟩ := (show ObjOk X.prog X.w H s.heap dd (.xd fs) from I.hok dd _ hdd)
  obtain ⟨od, ho, hl⟩ := lookIn_ns hns
  have J : PySem.W.InstAt s.heap a oe (He.ga X.K c) (some od) := ⟨e1, e2, by unfold PySem.W.notCls; rw [e4] <;> rfl, by rw [e3]; exact ho⟩
  exact PySem.W.kia_one (PySem.W.kitx_exc (He.ba i.hk).1 T.ga T.gg T.exC i.ha i.hn i.ht i.hm) I.kIn J e (fun z => nomatch z) fun tk => ⟨.bl b, H, I.kept (t' := tk) fun _ _ z => z, rfl, q⟩
def RepT (K : PySem.W.Frag) (H : Hp) (v : V) (txt : Str) : Prop := ∀ H2, Same H H2 → ∀ Q' : VK, Q' (.str txt) H2 → rRepr4 K [v] H2 Q'
/-- what _law_word makes of what is raised -/
def wordE (K : PySem.W.Frag) (Q : VK) : XK := fun cls d H' => ∃ dd, d = some dd ∧
  ((cls = .ref (He.ga K "BadFault") ∧ ∃ v txt, H' dd = some (.xd [("value", v)]) ∧ RepT K H' v txt ∧ ∀ T H3, Same H' H3 → H3 T = some (.tup [.str "fault", .str txt]) → Q (.ref T) H3) ∨
   (cls = .ref (He.ga K "BadName") ∧ ∃ v txt, H' dd = some (.xd [("value", v)]) ∧ RepT K H' v txt ∧ ∀ T H3, Same H' H3 → H3 T = some (.tup [.str "name", .str txt]) → Q (.ref T) H3) ∨
   (cls = .ref (He.ga K "BadLog") ∧ ∃ n : Int, H' dd = some (.xd [("index", .int n)]) ∧ ∀ T H3, Same H' H3 → H3 T = some (.tup [.str "log", .int n]) → Q (.ref T) H3))
def TTw (K : PySem.W.Frag) : (XK → Hp → VK → Prop) → Hp → VK → Prop := fun tl H Q => ∀ E Q', (∀ cls d H', wordE K Q cls d H' → E cls d H') → tl E H Q'
theorem tXk_j {f : Str} {te : TE} {σ : L2.St} {H : Hp} {Q : VK} {a C dd : Addr} {fs : List (Str × V)} {v : V} (q : te σ H fun x H1 => x = .ref a ∧ H1 a = some (exk a C dd) ∧ XfC K C ∧ PySem.W.findIn K (.ref C) f = some none ∧ H1 dd = some (.xd fs) ∧ fs.lookup f = some v ∧ Q v H1) : (te σ H fun x H1 => x = .ref a ∧ H1 a = some (exk a C dd) ∧ XfC K C ∧ PySem.W.findIn K (.ref C) f = some none ∧ H1 dd = some (.xd fs) ∧ fs.lookup f = some v ∧ Q v H1) := q
end
section
theorem sc__law_word : FnScope ["_law_deed", "_law_caught", "error"] ["_law_deed"] (defScope (top 43)) := ⟨rfl, rfl, rfl, by decide +kernel, rfl, by decide +kernel, by decide +kernel⟩
theorem giver_word {X : Cx} (T : Sy X.K X.mg) {n : Nat} (z : RG true (n + 1) X.A) (q : Str) : Giver X "_law_word" "_law_deed" q (TTw X.K) := by
  obtain ⟨fd, F⟩ := F_law_word T
  obtain ⟨oc, od, dV, kV, doc, pm, an, cdv, ct, osl, rfl, lk, hcd, hD, hKV⟩ := id F.ex
  refine ⟨_, _, _, _, dV, kV, doc, pm, cdv, ct, oc, an, od, osl, _, T.glo "_law_word", F.kp, lk, hcd, F.bindsN (fun _ _ _ _ _ _ us hl => match us, hl with | [_], _ => rfl), sc__law_word, rfl, .inl rfl, ?_⟩
  intro f c' s H Q tl act hc h
  have z2 : RG true n (X.A.deeper (envOfC "_law_word" (dG "_law_word" 43).scope s.heap.objs.size (He.fAd X.K (dG "_law_word" 43).at_) cdv)) := z.dpr _
  refine ⟨_, (pss_cons (ps_set (i := 1) sc__law_word.nd rfl (by first | exact Or.inl rfl | exact Or.inr rfl) pe_non) (pss_cons (ps_try_keep (i := 2) (j := 1) rfl rfl rfl sc__law_word.nd rfl rfl rfl rfl ⟨rfl, by decide, .inl (T.glo "ModelError")⟩ (fun W pn xe tk _ => pss_one (ps_expr (act W pn xe _ _ tk)))) (pss_cons (ps_if (pt_val (pe_callB (r := rIsKO X.K) call_isKO (by rfl) (T.free "isinstance") (by decide +kernel) (pa_cons (pv 1) (pa_cons (pe_gl (T.glo "BadFault")) pa_nil)))) (pss_one (ps_ret (pe_tup (pa_cons pe_str (pa_cons (pe_callB (r := rRepr4 X.K) (call_repr4 z2) (by rfl) (T.free "repr") (by decide +kernel) (pa_cons (pe_xk (K := X.K) rfl (pv 1)) pa_nil)) pa_nil))))) pss_nil) (pss_cons (ps_if (pt_val (pe_callB (r := rIsKO X.K) call_isKO (by rfl) (T.free "isinstance") (by decide +kernel) (pa_cons (pv 1) (pa_cons (pe_gl (T.glo "BadName")) pa_nil)))) (pss_one (ps_ret (pe_tup (pa_cons pe_str (pa_cons (pe_callB (r := rRepr4 X.K) (call_repr4 z2) (by rfl) (T.free "repr") (by decide +kernel) (pa_cons (pe_xk (K := X.K) rfl (pv 1)) pa_nil)) pa_nil))))) pss_nil) (pss_one (ps_ret (pe_ifExp (pt_val (pe_callB (r := rIsKO X.K) call_isKO (by rfl) (T.free "isinstance") (by decide +kernel) (pa_cons (pv 1) (pa_cons (pe_gl (T.glo "BadLog")) pa_nil)))) (pe_tup (pa_cons pe_str (pa_cons (pe_xk (K := X.K) rfl (pv 1)) pa_nil))) pe_str))))))), ?_⟩
  walk_at "yhead"; walk_at "y"
  refine ⟨rfl, hc, h _ _ fun cls d H' hw => ?_⟩
  have xf := T.xF
  obtain ⟨dd, rfl, hw⟩ := hw
  rcases hw with ⟨rfl, v, txt, hd, rp, q4⟩ | ⟨rfl, v, txt, hd, rp, q4⟩ | ⟨rfl, m, hd, q4⟩
  · refine ⟨_, dd, rfl, rfl, xf.mf, fun a ha => ?_⟩
    have sA := same_upd (o := exk a (He.ga X.K "BadFault") dd) ha
    have eA := upd_same (H := H') (a := a) (o := exk a (He.ga X.K "BadFault") dd)
    generalize upd H' a (exk a (He.ga X.K "BadFault") dd) = H2 at sA eA ⊢
    walk_at "y"
    refine ⟨a, dd, _, "BadFault", _, true, rfl, eA, sA _ _ hd, xf.xf, xf.cf, kit_self, ?_⟩
    walk_at "y"
    refine tXk_i ?_
    walk_at "y"
    refine ⟨a, _, dd, _, v, rfl, eA, xf.xf, xf.bf.n, sA _ _ hd, by kernel_rfl, ?_⟩
    walk_at "y"
    refine rp _ sA _ ?_
    walk_at "y"
    refine ⟨sz4 (by simp), fun T1 nT1 => ?_⟩
    have sH3 := same_upd (H := H2) (o := .tup [.str "fault", .str txt]) nT1
    have eT1 := upd_same (H := H2) (a := T1) (o := .tup [.str "fault", .str txt])
    generalize upd H2 T1 (.tup [.str "fault", .str txt]) = H3 at sH3 eT1 ⊢
    exact q4 T1 H3 (sA.trans sH3) eT1
  · refine ⟨_, dd, rfl, rfl, xf.mn, fun a ha => ?_⟩
    have sA := same_upd (o := exk a (He.ga X.K "BadName") dd) ha
    have eA := upd_same (H := H') (a := a) (o := exk a (He.ga X.K "BadName") dd)
    generalize upd H' a (exk a (He.ga X.K "BadName") dd) = H2 at sA eA ⊢
    walk_at "y"
    refine ⟨a, dd, _, "BadName", _, false, rfl, eA, sA _ _ hd, xf.xn, xf.cn, xf.knf, ?_⟩
    walk_at "y"
    refine ⟨a, dd, _, "BadName", _, true, rfl, eA, sA _ _ hd, xf.xn, xf.cn, kit_self, ?_⟩
    walk_at "y"
    refine tXk_i ?_
    walk_at "y"
    refine ⟨a, _, dd, _, v, rfl, eA, xf.xn, xf.bn.n, sA _ _ hd, by kernel_rfl, ?_⟩
    walk_at "y"
    refine rp _ sA _ ?_
    walk_at "y"
    refine ⟨sz4 (by simp), fun T1 nT1 => ?_⟩
    have sH3 := same_upd (H := H2) (o := .tup [.str "name", .str txt]) nT1
    have eT1 := upd_same (H := H2) (a := T1) (o := .tup [.str "name", .str txt])
    generalize upd H2 T1 (.tup [.str "name", .str txt]) = H3 at sH3 eT1 ⊢
    exact q4 T1 H3 (sA.trans sH3) eT1
  · refine ⟨_, dd, rfl, rfl, xf.ml, fun a ha => ?_⟩
    have sA := same_upd (o := exk a (He.ga X.K "BadLog") dd) ha
    have eA := upd_same (H := H') (a := a) (o := exk a (He.ga X.K "BadLog") dd)
    generalize upd H' a (exk a (He.ga X.K "BadLog") dd) = H2 at sA eA ⊢
    walk_at "y"
    refine ⟨a, dd, _, "BadLog", _, false, rfl, eA, sA _ _ hd, xf.xl, xf.cl, xf.klf, ?_⟩
    walk_at "y"
    refine ⟨a, dd, _, "BadLog", _, false, rfl, eA, sA _ _ hd, xf.xl, xf.cl, xf.kln, ?_⟩
    walk_at "y"
    refine ⟨a, dd, _, "BadLog", _, true, rfl, eA, sA _ _ hd, xf.xl, xf.cl, kit_self, ?_⟩
    walk_at "y"
    refine tXk_i ?_
    walk_at "y"
    refine ⟨a, _, dd, _, .int m, rfl, eA, xf.xl, xf.bl.n, sA _ _ hd, by kernel_rfl, ?_⟩
    walk_at "y"
    refine ⟨sz4 (by simp), fun T1 nT1 => ?_⟩
    have sH3 := same_upd (H := H2) (o := .tup [.str "log", .int m]) nT1
    have eT1 := upd_same (H := H2) (a := T1) (o := .tup [.str "log", .int m])
    generalize upd H2 T1 (.tup [.str "log", .int m]) = H3 at sH3 eT1 ⊢
    exact q4 T1 H3 (sA.trans sH3) eT1
end

end L77
namespace L77
open PySem PySem.Spec PyProof.Rows L2
variable {gd : Bool}
local macro_rules | `(tactic| walk_at "y1") => `(tactic| with_reducible first
  | refine tSeq_i ?_ | refine tAsg_i ?_ | refine tCons_i ?_ | refine tNil_i ?_ | refine tC_i ?_ | refine tOp_i ?_ | refine tIfS_i ?_ | refine tTest_i ?_ | refine exBl_i ?_ | refine tRet_i ?_ | refine tCall_i ?_
  | refine tCB_i ?_ | refine tLst_i ?_ | refine tTup_i ?_ | refine rI0_i ?_ | refine tDrop_i ?_ | refine tNext_i ?_ | refine tB_i ?_ | refine tAnd_i ?_ | refine tOr_i ?_ | refine tNot_i ?_ | refine tAndV_i ?_ | refine tOrV_i ?_ | refine tNotV_i ?_
  | refine tIf_i ?_ | refine tUn_i ?_ | refine tDGet_i ?_ | refine sDPut_i ?_ | refine tFld_i ?_ | refine tRetN_i ?_ | refine tBreak_i ?_ | refine tCont_i ?_ | refine rU_i ?_)
local macro_rules | `(tactic| walk_at "yhead") => `(tactic| dsimp only [L2.start, List.map, List.length_cons, List.length_nil, Nat.reduceAdd, Nat.reduceSub, List.replicate, List.cons_append, List.nil_append])
local macro_rules | `(tactic| walk_at "y2") => `(tactic| first
  | walk_at "y1"
  | ((with_reducible refine tVar_i (v := ?v) ?h ?q); (case h => rfl))
  | ((with_reducible refine gName_i ?_); (dsimp only [List.set]))
  | ((with_reducible refine rEq_i ?h ?q); (case h => rfl)) | ((with_reducible refine rNe_i ?h ?q); (case h => rfl)))
local macro_rules | `(tactic| walk_at "y") => `(tactic| repeat walk_at "y2")

open LamX
section
/-- the body's promise, told of the def's own code object -/
theorem FnG.bodyC {P : Program} {w : World} {K : PySem.W.Frag} {mg : Str → Option Value} {base : Heap} {x qual : Str} {params : Arguments} {body : List Stmt} {scope : Scope} {dvs : List V} {kws : List (Str × V)} {at_ : He.Defn} {fd : FuncData}
    {CX : CXT} {N ps : List Str} {n : Nat} {sp : Sp} (F : FunD K x qual params body scope dvs kws (He.fAd K at_) fd) (S : FnScope N ps scope) (len : ∀ vs H Q E, sp vs H Q E → vs.length = ps.length)
    (hb : ∀ (cdv : Value) (A : Around) (out : List Env) (st : Shared) (H : Hp) (vs : List V) (Q : VK) (E : XK), cdv = .ref (He.cT K at_).1 → RG gd n (A.deeper (envOfC qual scope st.heap.objs.size (He.fAd K at_) cdv)) → sp vs H Q E →
      ∃ t, PSs (cxOf CX P w K mg base N qual scope (He.fAd K at_) cdv A out st H E) body t ∧ t { nx := fun _ H' => Q .non H', rt := Q } (start N vs) H) : FnG gd P w K mg base CX (n + 1) (He.fAd K at_) fd ps sp := by
  obtain ⟨oc, od, dV, kV, doc, pm, an, cdv, ct, osl, rfl, lk, hcd, _, _⟩ := F.ex
  obtain ⟨c, rfl⟩ := He.codeIn_ref hcd
  have ec : He.codeOf K at_ = c := He.codeOf_eq lk rfl
  refine ⟨len, fun A out st H ag us vs Q E z e0 bd rv q0 => ?_⟩
  have nl := len _ _ _ _ q0
  have KX : K.In st.heap := e0.mod.kin.keeps fun b o e => (e0.bs b o e).1
  have lim : st.heap.NoLimit := e0.mod.nolimit.keeps fun b o e => (e0.bs b o e).1
  have kd : ∀ y ∈ ps.zip us, scope.names.lookup y.1 = some .local ∨ (scope.names.lookup y.1 = some .cell ∧ ((cellsFrom (st.heap.objs.size + 1) scope.names []).lookup y.1).isSome = true) := fun ⟨a, v⟩ hy =>
    (S.par a (List.of_mem_zip hy).1).elim .inl fun q => .inr ⟨q, PySem.W.cellsFrom_some _ _ _ (.inl q)⟩
  refine codeAny_call_function z.r.depth (KX _ _ lk) rfl S.co S.gen rfl (PySem.W.codeRec_of KX hcd) (bd _ _ _ _ ?_)
  refine wpAny_newFunctionEnv_cells S.kind kd fun en he st1 ic => ?_
  subst he
  refine ⟨lim.keeps ic.toInCall.keep, codeAny_func ?_⟩
  obtain ⟨t, ht, hq⟩ := hb (.ref c) A out st H vs Q E (by rw [← ec]; rfl) (z.dpr _) q0
  have I := inv_start (CX := CX) (E := E) S z.r.hd e0 nl rv ic
  refine wpAny_mono (ht.run [] st1 (start N vs) H _ I hq) (fun fl sz hs => ?_) fun _ _ hs => hs
  cases fl with
  | ret u =>
    obtain ⟨v, σ', H', J, r2, q⟩ := hs
    exact ⟨v, H', J.os, J.bare, J.base, J.hok, r2, q⟩
  | next =>
    obtain ⟨σ', H', J, q⟩ := hs
    exact ⟨V.non, H', J.os, J.bare, J.base, J.hok, rfl, q⟩
  | brk => exact (let ⟨_, _, _, q⟩ := hs; False.elim q)
  | cont => exact (let ⟨_, _, _, q⟩ := hs; False.elim q)
def lamDB (N : List Str) (sc scope : Scope) : Bool :=
  decide (scope.kind = .function) && (!scope.isCoroutine && (!scope.isGenerator && ((scope.names.all fun y => !decide (y.2 = .cell) && (!decide (y.2 = .free) || (decide (sc.names.lookup y.1 = some .cell) || decide (sc.names.lookup y.1 = some .free)))) && N.all fun y => !decide (scope.names.lookup y = some .local))))
theorem lamD_by {N : List Str} {sc scope : Scope} (h : lamDB N sc scope = true) : LamD N sc scope := by
  unfold lamDB at h
  simp only [Bool.and_eq_true, Bool.or_eq_true, Bool.not_eq_true', decide_eq_true_eq, decide_eq_false_iff_not, List.all_eq_true] at h
  obtain ⟨h1, h2, h3, h4, h5⟩ := h
  refine ⟨h1, h2, h3, fun y hy => (h4 y hy).1, fun y hy => h5 y hy, fun y hy e => ?_⟩
  rcases (h4 y hy).2 with z | z
  · exact absurd e z
  · exact z
end
section
variable {P : Program} {w : World} {K : PySem.W.Frag} {mg : Str → Option Value} {base : Heap}
/-- the odd values, with what repr shows of them -/
def Odd (H : Hp) (v : V) (txt : Str) : Prop := (v = .non ∧ txt = "None") ∨ (v = .int 5 ∧ txt = "5") ∨ (v = .str "a" ∧ txt = "'a'") ∨ (∃ a, v = .ref a ∧ H a = some (.tup [.int 0]) ∧ txt = "(0,)") ∨ (∃ a, v = .ref a ∧ H a = some (.dK []) ∧ txt = "{}") ∨ (∃ a, v = .ref a ∧ H a = some (.lst [.int 1]) ∧ txt = "[1]")
theorem Odd.ext {H H' : Hp} {v : V} {txt : Str} (h : Odd H v txt) (x : ExtN H H') : Odd H' v txt := by
  rcases h with h | h | h | ⟨a, h1, h2, h3⟩ | ⟨a, h1, h2, h3⟩ | ⟨a, h1, h2, h3⟩
  · exact .inl h
  · exact .inr (.inl h)
  · exact .inr (.inr (.inl h))
  · exact .inr (.inr (.inr (.inl ⟨a, h1, x _ _ h2 (fun _ z => nomatch z), h3⟩)))
  · exact .inr (.inr (.inr (.inr (.inl ⟨a, h1, x _ _ h2 (fun _ z => nomatch z), h3⟩))))
  · exact .inr (.inr (.inr (.inr (.inr ⟨a, h1, x _ _ h2 (fun _ z => nomatch z), h3⟩))))
theorem extN_of {H H' : Hp} (s : Same H H') : ExtN H H' := fun b o e _ => s b o e
theorem Odd.notF {H : Hp} {v : V} {txt : Str} (h : Odd H v txt) : NotF K H v := by
  rcases h with ⟨rfl, _⟩ | ⟨rfl, _⟩ | ⟨rfl, _⟩ | ⟨a, rfl, h2, _⟩ | ⟨a, rfl, h2, _⟩ | ⟨a, rfl, h2, _⟩
  · exact ⟨_, ty_non, by kernel_rfl⟩
  · exact ⟨_, ty_int, by kernel_rfl⟩
  · exact ⟨_, ty_str, by kernel_rfl⟩
  · exact ⟨_, ty_tup h2, by kernel_rfl⟩
  · exact ⟨_, .base (.dK h2), by kernel_rfl⟩
  · exact ⟨_, ty_lst h2, by kernel_rfl⟩
theorem Odd.notW {H : Hp} {v : V} {txt : Str} (h : Odd H v txt) : NotW K H v := by
  rcases h with ⟨rfl, _⟩ | ⟨rfl, _⟩ | ⟨rfl, _⟩ | ⟨a, rfl, h2, _⟩ | ⟨a, rfl, h2, _⟩ | ⟨a, rfl, h2, _⟩
  · exact .inr ⟨_, ty_non, by decide +kernel⟩
  · exact .inr ⟨_, ty_int, by decide +kernel⟩
  · exact .inl ⟨_, rfl, by decide +kernel⟩
  · exact .inr ⟨_, ty_tup h2, by decide +kernel⟩
  · exact .inr ⟨_, .base (.dK h2), by decide +kernel⟩
  · exact .inr ⟨_, ty_lst h2, by decide +kernel⟩
theorem repT_d {H : Hp} {v : V} {d : PyData} (h : ∀ H2, Same H H2 → Dp K H2 v d) (s : Sm 50 100000 d) : RepT K H v (PyData.shown d) := fun H2 x Q' q => .inl ⟨v, d, rfl, h H2 x, s, q⟩
theorem Odd.rep {H : Hp} {v : V} {txt : Str} (h : Odd H v txt) : RepT K H v txt := by
  rcases h with ⟨rfl, rfl⟩ | ⟨rfl, rfl⟩ | ⟨rfl, rfl⟩ | ⟨a, rfl, h2, rfl⟩ | ⟨a, rfl, h2, rfl⟩ | ⟨a, rfl, h2, rfl⟩
  · exact repT_d (d := .none) (fun _ _ => .non) (Sm.none.mono (by decide) (by decide))
  · have := repT_d (K := K) (H := H) (v := .int 5) (d := .int 5) (fun _ _ => .int 5) ((Sm.int (by decide) (by decide)).mono (by decide) (by decide))
    rwa [show PyData.shown (.int 5) = ("5" : Str) by decide +kernel] at this
  · have := repT_d (K := K) (H := H) (v := .str "a") (d := .str "a") (fun _ _ => .str "a") ((smV_sm (v := .str "a") (by decide +kernel)).mono (by decide) (by decide))
    rwa [show PyData.shown (.str "a") = ("'a'" : Str) by decide +kernel] at this
  · have := repT_d (K := K) (H := H) (v := .ref a) (d := .tuple (([.int 0] : List V).map vD)) (fun H2 s => dp_tup (SqT.of (s _ _ h2)) rfl) ((sm_tup (xs := [.int 0]) (by decide +kernel)).mono (by decide) (by decide))
    rwa [show PyData.shown (.tuple (([.int 0] : List V).map vD)) = ("(0,)" : Str) by decide +kernel] at this
  · exact fun H2 s Q' q => .inr ⟨a, rfl, s _ _ h2, q⟩
  · have := repT_d (K := K) (H := H) (v := .ref a) (d := .list (([.int 1] : List V).map vD)) (fun H2 s => dp_lst (SqL.of (s _ _ h2)) rfl) ((sm_lst (xs := [.int 1]) (by decide +kernel)).mono (by decide) (by decide))
    rwa [show PyData.shown (.list (([.int 1] : List V).map vD)) = ("[1]" : Str) by decide +kernel] at this
theorem Odd.sm {H : Hp} {v : V} {txt : Str} (h : Odd H v txt) : smV (.str txt) = true := by
  rcases h with ⟨_, rfl⟩ | ⟨_, rfl⟩ | ⟨_, rfl⟩ | ⟨_, _, _, rfl⟩ | ⟨_, _, _, rfl⟩ | ⟨_, _, _, rfl⟩ <;> decide +kernel
end

end L77
namespace L77
open PySem PySem.Spec PyProof.Rows L2
variable {gd : Bool}
local macro_rules | `(tactic| walk_at "y1") => `(tactic| with_reducible first
  | refine tSeq_i ?_ | refine tAsg_i ?_ | refine tCons_i ?_ | refine tNil_i ?_ | refine tC_i ?_ | refine tOp_i ?_ | refine tIfS_i ?_ | refine tTest_i ?_ | refine exBl_i ?_ | refine tRet_i ?_ | refine tCall_i ?_
  | refine tCB_i ?_ | refine tLst_i ?_ | refine tTup_i ?_ | refine rI0_i ?_ | refine tDrop_i ?_ | refine tNext_i ?_ | refine tB_i ?_ | refine tAnd_i ?_ | refine tOr_i ?_ | refine tNot_i ?_ | refine tAndV_i ?_ | refine tOrV_i ?_ | refine tNotV_i ?_
  | refine tYes_i ?_ | refine tTM_i ?_ | refine tPar_i ?_ | refine tSl_i ?_ | refine tNoPart_i ?_ | refine tPart_i ?_ | refine part_i ?_ | refine tMake_i ?_ | refine tProp_i ?_ | refine tCallOG_i ?_ | refine tVeI_i ?_ | refine tOst_i ?_ | refine tMkO_i ?_ | refine sFld_i ?_ | refine fldaug_i ?_ | refine gCons_i ?_ | refine gNil_i ?_ | refine tChain_i ?_ | refine tBM_i ?_ | refine rAdd2_i ?_ | refine rLe2_i ?_ | refine rEq2_i ?_ | refine rEq2_ss ?_ | refine rNe2_i ?_ | refine rNe2_ss ?_ | refine rIsN_i ?_ | refine rNotN_i ?_ | refine tTup_i2 ?_ | refine tIf_i ?_ | refine tUn_i ?_ | refine tDGet_i ?_ | refine sDPut_i ?_ | refine tFld_i ?_ | refine tRetN_i ?_ | refine tBreak_i ?_ | refine tCont_i ?_ | refine rU_i ?_)
local macro_rules | `(tactic| walk_at "yhead") => `(tactic| dsimp only [L2.start, List.map, List.length_cons, List.length_nil, Nat.reduceAdd, Nat.reduceSub, List.replicate, List.cons_append, List.nil_append])
local macro_rules | `(tactic| walk_at "y2") => `(tactic| first
  | walk_at "y1"
  | ((with_reducible refine tVar_i (v := ?v) ?h ?q); (case h => rfl))
  | ((with_reducible refine gName_i ?_); (dsimp only [L2.wipe, List.set]))
  | with_reducible refine iteT ?_ | with_reducible refine iteF ?_ | with_reducible refine iteNT ?_ | with_reducible refine iteNF ?_
  | ((with_reducible refine iteDT ?h ?q); (case h => first | decide +kernel | omega | assumption | exact nv1 | exact nv2 | exact nv3 | exact nv4)) | ((with_reducible refine iteDF ?h ?q); (case h => first | decide +kernel | omega | assumption | exact nv1 | exact nv2 | exact nv3 | exact nv4))
  | ((with_reducible refine iteNDT ?h ?q); (case h => first | decide +kernel | omega | assumption | exact nv1 | exact nv2 | exact nv3 | exact nv4)) | ((with_reducible refine iteNDF ?h ?q); (case h => first | decide +kernel | omega | assumption | exact nv1 | exact nv2 | exact nv3 | exact nv4))
  | ((with_reducible refine rIsi2_1 (T := ?T) (b := true) ?ty ?h ?q); (case ty => first | exact ty_str | exact ty_int | exact ty_bl | exact ty_non); (case h => decide +kernel))
  | ((with_reducible refine rIsi2_1 (T := ?T) (b := false) ?ty ?h ?q); (case ty => first | exact ty_str | exact ty_int | exact ty_bl | exact ty_non); (case h => decide +kernel))
  | ((with_reducible refine rEq2_s ?h ?q); (case h => rfl)) | ((with_reducible refine rNe2_s ?h ?q); (case h => rfl))
  | ((with_reducible refine rEq_i ?h ?q); (case h => rfl)) | ((with_reducible refine rNe_i ?h ?q); (case h => rfl)))
local macro_rules | `(tactic| walk_at "y") => `(tactic| repeat walk_at "y2")

open LamX
section
variable {P : Program} {w : World} {K : PySem.W.Frag} {mg : Str → Option Value} {base : Heap}
def lamQ : Str := ("_law_refused_right" : Str) ++ ".<locals>." ++ "<lambda>"
def refAt : He.Defn := ("_law_refused_right", none)
def TL (K : PySem.W.Frag) : List (Addr × Str) := [((He.cT K refAt).2, lamQ)]
theorem TL_mem : ((He.cT K refAt).2, lamQ) ∈ TL K := List.mem_singleton.mpr rfl
theorem TL_u : ∀ p ∈ TL K, p.1 = (He.cT K refAt).2 → p.2 = lamQ := fun p hp _ => by rw [List.mem_singleton.mp hp]
theorem tabs_off {T : List (Addr × Str)} {H H' : Hp} {p : Addr} {kvs : List (Key × V)} (s : ∀ b o, H b = some o → b ≠ p → H' b = some o) (hp : H p = some (.dK kvs)) (t : Tabs T H) : Tabs T H' := fun q hq => by
  obtain ⟨ps, h1, h2, h3⟩ := t q hq
  refine ⟨ps, s _ _ h1 (fun z => by rw [z, hp] at h1; cases h1), h2, fun pos cv hc => ?_⟩
  obtain ⟨c, e1, e2⟩ := h3 pos cv hc
  exact ⟨c, e1, s _ _ e2 (fun z => by rw [z, hp] at e2; unfold CodeO at e2; cases e2)⟩
theorem tabs_same {T : List (Addr × Str)} {H H' : Hp} (s : Same H H') (t : Tabs T H) : Tabs T H' := t.ext s
theorem FAt.ext {H H' : Hp} {fs : List Flt1} (h : FAt K H fs) (x : ExtN H H') : FAt K H' fs := h.off fun r hr => by
  obtain ⟨i, hi⟩ := List.getElem?_of_mem hr
  have e := h.at_ i r hi
  exact (x _ _ e (fun _ z => nomatch z)).trans (Eq.symm (show _ = _ from e))
/-- all but the tables and the state at p stays -/
def OffT (p : Addr) (H H' : Hp) : Prop := ∀ b o, H b = some o → b ≠ p → (∀ ps, o ≠ .tbl ps) → H' b = some o
def spRef (K : PySem.W.Frag) : Sp := sp2 fun sv fv H Q _ => ∃ p L c t fs f, sv = .ref p ∧ H p = some (.dK (stK L c t)) ∧ 0 ≤ L ∧ 0 ≤ t ∧ t < 10000000 ∧ fv = .ref (ad fs f) ∧ FAt K H fs ∧ f < fs.length ∧ (∀ r ∈ fs, KL r.k r.l) ∧ Tabs (TL K) H ∧
  ∀ L' t' H', OffT p H H' → H' p = some (.dK (stK L' c t')) → 0 ≤ L' → t ≤ t' → t' ≤ t + 4 → Tabs (TL K) H' → Q (.bl true) H'
theorem sc__law_refused_right : FnScope ["_law_state", "_law_fault", "_law_odd", "_law_told", "_law_due"] ["_law_state", "_law_fault"] (defScope (top 44)) := ⟨rfl, rfl, rfl, by decide +kernel, rfl, by decide +kernel, by decide +kernel⟩
theorem c__law_refused_right (T : Sy K mg) (TB : TabB base mg (He.cT K refAt).1 (He.cT K refAt).2) : Cal true P w K mg base CX0 13 "_law_refused_right" (spRef K) := by
  obtain ⟨fd, F⟩ := F_law_refused_right T
  refine ⟨_, fd, ["_law_state", "_law_fault"], FnG.bodyC (at_ := refAt) F sc__law_refused_right sp2_len (fun cdv A outer s H vs Q E hcd z h => ?_), T.glo "_law_refused_right", F.kp, F.bindsN (fun _ _ _ _ _ _ us hl => match us, hl with | [_, _], _ => rfl)⟩
  refine qt ?_
  have hu1 := hu_1 z; have hu2 := hu_2 z; have hu3 := hu_3 z
  obtain ⟨_, _, rfl, p, L, c, t, fs, f, rfl, hp, L0, t0, t1, rfl, fa, hf, kl, tb, q⟩ := h
  refine ⟨_, (pss_cons (ps_set (i := 2) sc__law_refused_right.nd rfl (by first | exact Or.inl rfl | exact Or.inr rfl) (pe_ix (r := rGet K) (ix_get hu3) (pe_lst (pa_cons pe_non (pa_cons pe_int (pa_cons pe_str (pa_cons (pe_tup (pa_cons pe_int pa_nil)) (pa_cons (pe_dnewK) (pa_cons (pe_lst (pa_cons pe_int pa_nil)) pa_nil))))))) (pe_c (c__law_digit T) z (pa_cons (pv 0) (pa_cons pe_int pa_nil))) (fun _ _ => rfl))) (pss_cons (ps_set (i := 3) sc__law_refused_right.nd rfl (by first | exact Or.inl rfl | exact Or.inr rfl) (pe_lst (pa_cons (pe_lam0 (T := TL K) (giver_word T z _) TB hcd TL_mem TL_u z.r (lamD_by (by kernel_rfl)) (fun A outer s H E f c' hr => pe_k2 (c_cycle_of (gd := false) T) ⟨hr, fun e => nomatch e⟩ (passes_call (takes_of rfl rfl rfl rfl) (fun _ _ _ _ h => h)) (pa_cons (pv 2) pa_nil) (pk_cons (pv 2) pk_nil))) (pa_cons (pe_lamD (T := TL K) (a0 := "_law_x") (giver_word T z _) TB hcd TL_mem TL_u z.r (lamD_by (by kernel_rfl)) (fun A outer s H E f c' hr => pe_k2 (c_cycle_of (gd := false) T) ⟨hr, fun e => nomatch e⟩ (passes_call (takes_of rfl rfl rfl rfl) (fun _ _ _ _ h => h)) (pa_cons (pv 1) pa_nil) (pk_cons (pv 2) pk_nil)) (by kernel_rfl) (fun _ _ _ _ _ _ _ => ⟨_, rfl, fun _ => rfl⟩)) pa_nil)))) (pss_cons (ps_set (i := 3) sc__law_refused_right.nd rfl (by first | exact Or.inl rfl | exact Or.inr rfl) (pe_op (r := rAdd2 K) op_add2 (pv 3) (pe_lst (pa_cons (pe_lam0 (T := TL K) (giver_word T z _) TB hcd TL_mem TL_u z.r (lamD_by (by kernel_rfl)) (fun A outer s H E f c' hr => pe_cX (c_audit (gd := false) T) ⟨hr, fun e => nomatch e⟩ (passes_call (takes_of rfl rfl rfl rfl) (fun _ _ _ _ h => h)) (pa_cons (pe_lst (pa_cons pe_int pa_nil)) (pa_cons (pv 2) pa_nil)))) (pa_cons (pe_lamD (T := TL K) (a0 := "_law_x") (giver_word T z _) TB hcd TL_mem TL_u z.r (lamD_by (by kernel_rfl)) (fun A outer s H E f c' hr => pe_cX (c_audit (gd := false) T) ⟨hr, fun e => nomatch e⟩ (passes_call (takes_of rfl rfl rfl rfl) (fun _ _ _ _ h => h)) (pa_cons (pe_lst pa_nil) (pa_cons (pe_lst (pa_cons (pv 1) (pa_cons (pv 2) (pa_cons pe_int pa_nil)))) pa_nil))) (by kernel_rfl) (fun _ _ _ _ _ _ _ => ⟨_, rfl, fun _ => rfl⟩)) pa_nil))))) (pss_cons (ps_set (i := 4) sc__law_refused_right.nd rfl (by first | exact Or.inl rfl | exact Or.inr rfl) (pe_lst (pa_cons (pe_tup (pa_cons pe_str (pa_cons (pe_callB (r := rRepr4 K) (call_repr4 z) (by rfl) (T.free "repr") (by decide +kernel) (pa_cons (pv 2) pa_nil)) pa_nil))) (pa_cons (pe_tup (pa_cons pe_str (pa_cons (pe_callB (r := rRepr4 K) (call_repr4 z) (by rfl) (T.free "repr") (by decide +kernel) (pa_cons (pv 2) pa_nil)) pa_nil))) (pa_cons (pe_tup (pa_cons pe_str (pa_cons pe_int pa_nil))) (pa_cons (pe_tup (pa_cons pe_str (pa_cons (pe_callB (r := rRepr4 K) (call_repr4 z) (by rfl) (T.free "repr") (by decide +kernel) (pa_cons (pv 2) pa_nil)) pa_nil))) pa_nil)))))) (pss_cons (ps_if (PW.pt (pw_or (pt_cmpR (r := rNe2 K) (op_ne2 hu1) (pv 3) (pv 4) (nomark _)) (pw_or1 (pt_cmpR (r := rNe2 K) (op_ne2 hu1) (pe_lam0 (T := TL K) (giver_word T z _) TB hcd TL_mem TL_u z.r (lamD_by (by kernel_rfl)) (fun A outer s H E f c' hr => pe_k2 (c_cycle_of (gd := false) T) ⟨hr, fun e => nomatch e⟩ (passes_call (takes_of rfl rfl rfl rfl) (fun _ _ _ _ h => h)) (pa_cons (pv 1) pa_nil) (pk_cons pe_str pk_nil))) (pe_tup (pa_cons pe_str (pa_cons (pe_callB (r := rRepr K) (call_repr z) (by rfl) (T.free "repr") (by decide +kernel) (pa_cons pe_str pa_nil)) pa_nil))) (nomark _))))) (pss_one (ps_ret pe_bl)) pss_nil) (pss_one (ps_ret (pe_cmpR (r := rEq2 K) (op_eq2 hu1) (pe_lam0 (T := TL K) (giver_word T z _) TB hcd TL_mem TL_u z.r (lamD_by (by kernel_rfl)) (fun A outer s H E f c' hr => pe_cX (c_audit (gd := false) T) ⟨hr, fun e => nomatch e⟩ (passes_call (takes_of rfl rfl rfl rfl) (fun _ _ _ _ h => h)) (pa_cons (pe_tup pa_nil) (pa_cons (pe_prK (K := K) rfl (p_label (gd := false) T) ⟨hr, fun e => nomatch e⟩ (pv 1)) pa_nil)))) (pe_tup (pa_cons pe_str (pa_cons (pe_callB (r := rRepr K) (call_repr z) (by rfl) (T.free "repr") (by decide +kernel) (pa_cons (pe_prK (K := K) rfl (p_label T) z (pv 1)) pa_nil)) pa_nil))) (nomark _))))))))), ?_⟩
  walk_at "yhead"; walk_at "y"
  refine ⟨sz4 (by simp), fun T0 nT0 => ?_⟩
  have sH1 := same_upd (H := H) (o := .tup [.int 0]) nT0
  have eT0 := upd_same (H := H) (a := T0) (o := .tup [.int 0])
  generalize upd H T0 (.tup [.int 0]) = H1 at sH1 eT0 ⊢
  walk_at "y"
  intro D0 nD0
  have sH2 := same_upd (H := H1) (o := .dK []) nD0
  have eD0 := upd_same (H := H1) (a := D0) (o := .dK [])
  generalize upd H1 D0 (.dK []) = H2 at sH2 eD0 ⊢
  walk_at "y"
  refine ⟨sz4 (by simp), fun L1 nL1 => ?_⟩
  have sH3 := same_upd (H := H2) (o := .lst [.int 1]) nL1
  have eL1 := upd_same (H := H2) (a := L1) (o := .lst [.int 1])
  generalize upd H2 L1 (.lst [.int 1]) = H3 at sH3 eL1 ⊢
  walk_at "y"
  refine ⟨sz4 (by simp), fun O1 nO1 => ?_⟩
  have sH4 := same_upd (H := H3) (o := .lst [.non, .int 5, .str "a", .ref T0, .ref D0, .ref L1]) nO1
  have eO1 := upd_same (H := H3) (a := O1) (o := .lst [.non, .int 5, .str "a", .ref T0, .ref D0, .ref L1])
  generalize upd H3 O1 (.lst [.non, .int 5, .str "a", .ref T0, .ref D0, .ref L1]) = H4 at sH4 eO1 ⊢
  walk_at "y"
  have s04 := ((sH1.trans sH2).trans sH3).trans sH4
  refine ⟨_, _, rfl, p, L, c, t, 6, rfl, rfl, s04 _ _ hp, L0, t0, by omega, by omega, by omega, fun d5 L5 t5 H5 a1 a2 a3 a4 a5 off5 k5 => ?_⟩
  have hp4 := s04 _ _ hp
  have of5 : ∀ {b : Addr} {o : HO}, H4 b = some o → (∀ kvs, o ≠ .dK kvs ∨ b ≠ p) → H5 b = some o := fun {b o} e n => off5 b o e fun z => by
    rcases n (stK L c t) with n | n
    · rw [z, hp4] at e; exact n (Option.some.inj e).symm
    · exact n z
  have eT := of5 (((sH2.trans sH3).trans sH4) _ _ eT0) (fun _ => .inl (fun z => nomatch z))
  have nDp : D0 ≠ p := Ne.symm (ne_of_none (sH1 _ _ hp) nD0)
  have eD := of5 ((sH3.trans sH4) _ _ eD0) (fun _ => .inr nDp)
  have eL := of5 (sH4 _ _ eL1) (fun _ => .inl (fun z => nomatch z))
  have eO := of5 eO1 (fun _ => .inl (fun z => nomatch z))
  obtain ⟨n5, odd, txt, rfl, ho, od⟩ : ∃ (n5 : Nat) (odd : V) (txt : Str), d5 = n5 ∧ ([.non, .int 5, .str "a", .ref T0, .ref D0, .ref L1] : List V)[n5]? = some odd ∧ Odd H5 odd txt := by
    rcases (show d5 = 0 ∨ d5 = 1 ∨ d5 = 2 ∨ d5 = 3 ∨ d5 = 4 ∨ d5 = 5 by omega) with rfl | rfl | rfl | rfl | rfl | rfl
    · exact ⟨0, _, _, rfl, rfl, .inl ⟨rfl, rfl⟩⟩
    · exact ⟨1, _, _, rfl, rfl, .inr (.inl ⟨rfl, rfl⟩)⟩
    · exact ⟨2, _, _, rfl, rfl, .inr (.inr (.inl ⟨rfl, rfl⟩))⟩
    · exact ⟨3, _, _, rfl, rfl, .inr (.inr (.inr (.inl ⟨T0, rfl, eT, rfl⟩)))⟩
    · exact ⟨4, _, _, rfl, rfl, .inr (.inr (.inr (.inr (.inl ⟨D0, rfl, eD, rfl⟩))))⟩
    · exact ⟨5, _, _, rfl, rfl, .inr (.inr (.inr (.inr (.inr ⟨L1, rfl, eL, rfl⟩))))⟩
  refine rGet_l (SqL.of eO) ho ?_
  have x05 : OffT p H H5 := fun b o e nb _ => off5 b o (s04 _ _ e) nb
  have tb5 : Tabs (TL K) H5 := tabs_off off5 hp4 (tabs_same s04 tb)
  have fa5 : FAt K H5 fs := (fa.same s04).off fun r hr => by
    obtain ⟨i, hi⟩ := List.getElem?_of_mem hr
    have e : H4 r.a = _ := (fa.same s04).at_ i r hi
    exact (of5 e (fun _ => .inl (fun z => nomatch z))).trans e.symm
  clear eT eD eL eO eT0 eD0 eL1 eO1 of5
  obtain ⟨rf, erf⟩ := get_lt hf
  have isF : ∀ {H' : Hp}, ExtN H5 H' → IsF K H' (.ref (ad fs f)) := fun x => by rw [ad_at erf]; exact (fa5.ext x).isF erf
  walk_at "y"
  -- 1
  refine ⟨tb5, fun H6 x6 tb6 E1 Q1 hE1 => ?_⟩
  refine tCallN_i ?_
  walk_at "y"
  refine ⟨rfl, rfl, _, _, rfl, .inr (.inl ⟨(od.ext x6).notF, fun d6 H7 n6 s7 e7 => hE1 _ _ _ ⟨d6, rfl, .inl ⟨rfl, odd, txt, e7, ((od.ext x6).ext (extN_of s7)).rep, fun T1 H8 s8 h8 => ?_⟩⟩⟩)⟩
  have x8 := x6.trans (extN_of (s7.trans s8))
  have tb8 := tabs_same (s7.trans s8) tb6
  clear hE1
  walk_at "y"
  -- 2
  refine ⟨tb8, fun H9 x9 tb9 E2 Q2 hE2 => ?_⟩
  refine tCallN_i ?_
  walk_at "y"
  have o9 := od.ext (x8.trans x9)
  refine ⟨rfl, rfl, _, _, rfl, .inr (.inr ⟨isF (x8.trans x9), ⟨o9.notW, fun H' s => (o9.ext (extN_of s)).notW⟩, fun d10 H11 n11 s11 e11 => hE2 _ _ _ ⟨d10, rfl, .inr (.inl ⟨rfl, odd, txt, e11, (o9.ext (extN_of s11)).rep, fun T2 HC sC hC => ?_⟩)⟩⟩)⟩
  have x8C := x9.trans (extN_of (s11.trans sC))
  have xC := x8.trans x8C
  have tbC := tabs_same (s11.trans sC) tb9
  have hT1C := x8C _ _ h8 (fun _ z => nomatch z)
  clear hE2
  walk_at "y"
  refine ⟨sz4 (by simp), fun A1 nA1 => ?_⟩
  have sHD := same_upd (H := HC) (o := .lst [.ref T1, .ref T2]) nA1
  have eA1 := upd_same (H := HC) (a := A1) (o := .lst [.ref T1, .ref T2])
  generalize upd HC A1 (.lst [.ref T1, .ref T2]) = HD at sHD eA1 ⊢
  have tbD := tabs_same sHD tbC
  have xD := xC.trans (extN_of sHD)
  walk_at "y"
  -- 3
  refine ⟨tbD, fun HE xE tbE E3 Q3 hE3 => ?_⟩
  walk_at "y"
  refine ⟨sz4 (by simp), fun P5 nP5 => ?_⟩
  have sHF := same_upd (H := HE) (o := .lst [.int 5]) nP5
  have eP5 := upd_same (H := HE) (a := P5) (o := .lst [.int 5])
  generalize upd HE P5 (.lst [.int 5]) = HF at sHF eP5 ⊢
  walk_at "y"
  refine ⟨_, _, rfl, .inr (.inl ⟨P5, 5, rfl, eP5, fun d12 HG nG sG eG => hE3 _ _ _ ⟨d12, rfl, .inr (.inr ⟨rfl, 0, eG, fun T3 HH sH hH => ?_⟩)⟩⟩)⟩
  have xDH := xE.trans (extN_of ((sHF.trans sG).trans sH))
  have tbH := tabs_same ((sHF.trans sG).trans sH) tbE
  clear hE3
  walk_at "y"
  -- 4
  refine ⟨tbH, fun HI xI tbI E4 Q4 hE4 => ?_⟩
  walk_at "y"
  refine ⟨sz4 (by simp), fun P6 nP6 => ?_⟩
  have sHJ := same_upd (H := HI) (o := .lst []) nP6
  have eP6 := upd_same (H := HI) (a := P6) (o := .lst [])
  generalize upd HI P6 (.lst []) = HJ at sHJ eP6 ⊢
  walk_at "y"
  refine ⟨sz4 (by simp), fun P7 nP7 => ?_⟩
  have sHK := same_upd (H := HJ) (o := .lst [.ref (ad fs f), odd, .int 7]) nP7
  have eP7 := upd_same (H := HJ) (a := P7) (o := .lst [.ref (ad fs f), odd, .int 7])
  generalize upd HJ P7 (.lst [.ref (ad fs f), odd, .int 7]) = HK at sHK eP7 ⊢
  walk_at "y"
  have xK := (xD.trans xDH).trans (xI.trans (extN_of (sHJ.trans sHK)))
  refine ⟨_, _, rfl, .inr (.inr (.inr ⟨true, P6, [], P7, _, _, _, rfl, ⟨[], sHK _ _ eP6, .nil, (fun e he => nomatch he), by decide⟩, rfl, eP7, isF xK, fun H' s => (od.ext (xK.trans (extN_of s))).notF, fun d13 HL nL sL eL => hE4 _ _ _ ⟨d13, rfl, .inl ⟨rfl, odd, txt, eL, (od.ext (xK.trans (extN_of sL))).rep, fun T4 HM sM hM => ?_⟩⟩⟩))⟩
  have xHM := xI.trans (extN_of (((sHJ.trans sHK).trans sL).trans sM))
  have xDM := xDH.trans xHM
  have xM := xD.trans xDM
  have tbM := tabs_same (((sHJ.trans sHK).trans sL).trans sM) tbI
  clear hE4
  walk_at "y"
  refine ⟨sz4 (by simp), fun A2 nA2 => ?_⟩
  have sHN := same_upd (H := HM) (o := .lst [.ref T3, .ref T4]) nA2
  have eA2 := upd_same (H := HM) (a := A2) (o := .lst [.ref T3, .ref T4])
  generalize upd HM A2 (.lst [.ref T3, .ref T4]) = HN at sHN eA2 ⊢
  have eA1N := (xDM.trans (extN_of sHN)) _ _ eA1 (fun _ z => nomatch z)
  refine rAdd2_g eA1N eA2 (by simp) fun A3 HO _ sO hO => ?_
  have xO := xM.trans (extN_of (sHN.trans sO))
  have tbO := tabs_same (sHN.trans sO) tbM
  have hT1 := ((extN_of sHD).trans (xDM.trans (extN_of (sHN.trans sO)))) _ _ hT1C (fun _ z => nomatch z)
  have hT2 := ((extN_of sHD).trans (xDM.trans (extN_of (sHN.trans sO)))) _ _ hC (fun _ z => nomatch z)
  have hT3 := (xHM.trans (extN_of (sHN.trans sO))) _ _ hH (fun _ z => nomatch z)
  have hT4 := (sHN.trans sO) _ _ hM
  have odO := od.ext xO
  walk_at "y"
  refine odO.rep (K := K) HO (Same.refl _) _ ?_
  walk_at "y"
  refine ⟨sz4 (by simp), fun U1 nU1 => ?_⟩
  have sHP := same_upd (H := HO) (o := .tup [.str "fault", .str txt]) nU1
  have eU1 := upd_same (H := HO) (a := U1) (o := .tup [.str "fault", .str txt])
  generalize upd HO U1 (.tup [.str "fault", .str txt]) = HP at sHP eU1 ⊢
  walk_at "y"
  refine (odO.ext (extN_of sHP)).rep (K := K) HP (Same.refl _) _ ?_
  walk_at "y"
  refine ⟨sz4 (by simp), fun U2 nU2 => ?_⟩
  have sHQ := same_upd (H := HP) (o := .tup [.str "name", .str txt]) nU2
  have eU2 := upd_same (H := HP) (a := U2) (o := .tup [.str "name", .str txt])
  generalize upd HP U2 (.tup [.str "name", .str txt]) = HQ at sHQ eU2 ⊢
  walk_at "y"
  refine ⟨sz4 (by simp), fun U3 nU3 => ?_⟩
  have sHR := same_upd (H := HQ) (o := .tup [.str "log", .int 0]) nU3
  have eU3 := upd_same (H := HQ) (a := U3) (o := .tup [.str "log", .int 0])
  generalize upd HQ U3 (.tup [.str "log", .int 0]) = HR at sHR eU3 ⊢
  walk_at "y"
  refine (odO.ext (extN_of ((sHP.trans sHQ).trans sHR))).rep (K := K) HR (Same.refl _) _ ?_
  walk_at "y"
  refine ⟨sz4 (by simp), fun U4 nU4 => ?_⟩
  have sHS := same_upd (H := HR) (o := .tup [.str "fault", .str txt]) nU4
  have eU4 := upd_same (H := HR) (a := U4) (o := .tup [.str "fault", .str txt])
  generalize upd HR U4 (.tup [.str "fault", .str txt]) = HS at sHS eU4 ⊢
  walk_at "y"
  refine ⟨sz4 (by simp), fun B1 nB1 => ?_⟩
  have sHT := same_upd (H := HS) (o := .lst [.ref U1, .ref U2, .ref U3, .ref U4]) nB1
  have eB1 := upd_same (H := HS) (a := B1) (o := .lst [.ref U1, .ref U2, .ref U3, .ref U4])
  generalize upd HS B1 (.lst [.ref U1, .ref U2, .ref U3, .ref U4]) = HT at sHT eB1 ⊢
  have sOT := (((sHP.trans sHQ).trans sHR).trans sHS).trans sHT
  walk_at "y"
  have tr : ∀ {H' : Hp} {T : Addr} {r : List V}, H' T = some (.tup r) → TR id H' (.ref T) r := fun h => ⟨_, rfl, h⟩
  have sm1 : ∀ {x : Str}, smV (.str x) = true → ∀ y : Str, smV (.str y) = true → ([V.str x, V.str y] : List V).all smV = true := fun h1 y h2 => by rw [List.all_cons, h1, List.all_cons, h2]; rfl
  have smF : smV (.str "fault") = true := by decide +kernel
  have smN : smV (.str "name") = true := by decide +kernel
  let rows : List (List V) := [[.str "fault", .str txt], [.str "name", .str txt], [.str "log", .int 0], [.str "fault", .str txt]]
  have rsm : ∀ r ∈ rows, r.all smV = true ∧ r.length ≤ 2 := fun r hr => by
    have hr : r = [.str "fault", .str txt] ∨ r = [.str "name", .str txt] ∨ r = [.str "log", .int 0] ∨ r = [.str "fault", .str txt] := by simpa [rows] using hr
    rcases hr with rfl | rfl | rfl | rfl
    · exact ⟨sm1 smF _ od.sm, Nat.le_refl 2⟩
    · exact ⟨sm1 smN _ od.sm, Nat.le_refl 2⟩
    · exact ⟨by decide +kernel, by decide⟩
    · exact ⟨sm1 smF _ od.sm, Nat.le_refl 2⟩
  have dp1 : Dp K HT (.ref A3) (.list (rows.map fun r => .tuple ((id r).map vD))) := .lst (SqL.of (sOT _ _ hO)) (dp_TRm (f := id) (fun r hr => all_pl (rsm r hr).1) (.cons (tr (sOT _ _ hT1)) (.cons (tr (sOT _ _ hT2)) (.cons (tr (sOT _ _ hT3)) (.cons (tr (sOT _ _ hT4)) .nil)))))
  have dp2 : Dp K HT (.ref B1) (.list (rows.map fun r => .tuple ((id r).map vD))) := .lst (SqL.of eB1) (dp_TRm (f := id) (fun r hr => all_pl (rsm r hr).1) (.cons (tr (((sHQ.trans sHR).trans sHS).trans sHT _ _ eU1)) (.cons (tr (((sHR.trans sHS).trans sHT) _ _ eU2)) (.cons (tr ((sHS.trans sHT) _ _ eU3)) (.cons (tr (sHT _ _ eU4)) .nil)))))
  have shp : SeqAt.shaped (.list (rows.map fun r => .tuple ((id r).map vD))) = true := (Sm.list (sm_TR (n := 2) (f := id) rsm)).shaped
  refine rNe2_d dp1 dp2 shp shp ?_
  rw [show PyData.eqv (.list (rows.map fun r => .tuple ((id r).map vD))) (.list (rows.map fun r => .tuple ((id r).map vD))) = true by simp [rows, PyData.eqv, PyData.eqvAll, vD]]
  have xT := xO.trans (extN_of sOT)
  have tbT := tabs_same sOT tbO
  walk_at "y"
  -- 5
  refine ⟨tbT, fun Ha xa tba E5 Q5 hE5 => ?_⟩
  refine tCallN_i ?_
  walk_at "y"
  have nwh : ∀ H' : Hp, NotW K H' (.str "hides") := fun H' => .inl ⟨_, rfl, by decide +kernel⟩
  have rph : ∀ H' : Hp, RepT K H' (.str "hides") (PyData.shown (.str "hides")) := fun H' => repT_d (fun _ _ => .str _) ((smV_sm (v := .str "hides") (by decide +kernel)).mono (by decide) (by decide))
  refine ⟨rfl, rfl, _, _, rfl, .inr (.inr ⟨isF (xT.trans xa), ⟨nwh _, fun H' _ => nwh H'⟩, fun d15 Hb nb sb eb => hE5 _ _ _ ⟨d15, rfl, .inr (.inl ⟨rfl, _, _, eb, rph _, fun T5 Hc sc hc => ?_⟩)⟩⟩)⟩
  have xTc := xa.trans (extN_of (sb.trans sc))
  have tbc := tabs_same (sb.trans sc) tba
  clear hE5
  walk_at "y"
  refine ⟨.str "hides", .str "hides", rfl, .str _, (smV_sm (v := .str "hides") (by decide +kernel)).mono (by decide) (by decide), ?_⟩
  walk_at "y"
  refine ⟨sz4 (by simp), fun U5 nU5 => ?_⟩
  have sHd := same_upd (H := Hc) (o := .tup [.str "name", .str (PyData.shown (.str "hides"))]) nU5
  have eU5 := upd_same (H := Hc) (a := U5) (o := .tup [.str "name", .str (PyData.shown (.str "hides"))])
  generalize upd Hc U5 (.tup [.str "name", .str (PyData.shown (.str "hides"))]) = Hd at sHd eU5 ⊢
  have smh : ([V.str "name", V.str (PyData.shown (.str "hides"))] : List V).all smV = true := by decide +kernel
  refine rNe2_d (dp_tup (SqT.of (sHd _ _ hc)) (all_pl smh)) (dp_tup (SqT.of eU5) (all_pl smh)) (sm_tup smh).shaped (sm_tup smh).shaped ?_
  rw [show PyData.eqv (.tuple (([.str "name", .str (PyData.shown (.str "hides"))] : List V).map vD)) (.tuple (([.str "name", .str (PyData.shown (.str "hides"))] : List V).map vD)) = true by simp [PyData.eqv, PyData.eqvAll, vD]]
  walk_at "y"
  have xTd := xTc.trans (extN_of sHd)
  have tbd := tabs_same sHd tbc
  -- 6
  refine ⟨tbd, fun Hz xe tbe E6 Q6 hE6 => ?_⟩
  walk_at "y"
  refine ⟨sz4 (by simp), fun P8 nP8 => ?_⟩
  have sHf := same_upd (H := Hz) (o := .tup []) nP8
  have eP8 := upd_same (H := Hz) (a := P8) (o := .tup [])
  generalize upd Hz P8 (.tup []) = Hf at sHf eP8 ⊢
  have klr := kl rf (List.mem_of_getElem? erf)
  walk_at "y"
  have fld : ∀ {H' : Hp} {Q' : VK} {E' : XK}, ExtN H5 H' → Q' (.str rf.l) H' → ∃ a' dx' fs', V.ref (ad fs f) = .ref a' ∧ H' a' = some (.ins (He.ga K "Fault") dx' fs') ∧ spFld K "Fault" "s1_label" (.ref a' :: []) H' Q' E' := fun x qq => by
    rw [ad_at erf]
    exact spFld_i ((fa5.ext x).at_ f rf erf) frow_l qq
  have xf := (xT.trans (xTd.trans xe)).trans (extN_of sHf)
  refine fld xf ?_
  walk_at "y"
  have lr := klr.lr
  have rpl : ∀ H' : Hp, RepT K H' (.str rf.l) (PyData.shown (.str rf.l)) := fun H' => repT_d (fun _ _ => .str _) ((smV_sm klr.ls).mono (by decide) (by decide))
  refine ⟨_, _, rfl, .inr (.inr (.inl ⟨false, P8, [], rf.l, rfl, ⟨[], eP8, .nil, (fun e he => nomatch he), by decide⟩, rfl, fun d17 Hg ng sg eg => hE6 _ _ _ ⟨d17, rfl, .inl ⟨rfl, _, _, eg, rpl _, fun T6 Hh sh hh => ?_⟩⟩⟩))⟩
  have xh := xf.trans (extN_of (sg.trans sh))
  have tbh := tabs_same ((sHf.trans sg).trans sh) tbe
  clear hE6
  walk_at "y"
  refine fld xh ?_
  walk_at "y"
  refine ⟨.str rf.l, .str rf.l, rfl, .str _, (smV_sm klr.ls).mono (by decide) (by decide), ?_⟩
  walk_at "y"
  refine ⟨sz4 (by simp), fun U6 nU6 => ?_⟩
  have sHi := same_upd (H := Hh) (o := .tup [.str "fault", .str (PyData.shown (.str rf.l))]) nU6
  have eU6 := upd_same (H := Hh) (a := U6) (o := .tup [.str "fault", .str (PyData.shown (.str rf.l))])
  generalize upd Hh U6 (.tup [.str "fault", .str (PyData.shown (.str rf.l))]) = Hi at sHi eU6 ⊢
  have sml := sm1 smF _ lr
  refine rEq2_d (dp_tup (SqT.of (sHi _ _ hh)) (all_pl sml)) (dp_tup (SqT.of eU6) (all_pl sml)) (sm_tup sml).shaped (sm_tup sml).shaped ?_
  rw [show PyData.eqv (.tuple (([.str "fault", .str (PyData.shown (.str rf.l))] : List V).map vD)) (.tuple (([.str "fault", .str (PyData.shown (.str rf.l))] : List V).map vD)) = true by simp [PyData.eqv, PyData.eqvAll, vD]]
  have xi := xh.trans (extN_of sHi)
  exact q L5 t5 Hi (fun b o e nb nt => xi _ _ (x05 b o e nb nt) nt) (xi _ _ k5 (fun _ z => nomatch z)) a3 a4 a5 (tabs_same sHi tbh)
end

end L77
namespace L77
open PySem PySem.Spec PyProof.Rows L2
variable {gd : Bool}
local macro_rules | `(tactic| walk_at "y1") => `(tactic| with_reducible first
  | refine tSeq_i ?_ | refine tAsg_i ?_ | refine tCons_i ?_ | refine tNil_i ?_ | refine tC_i ?_ | refine tOp_i ?_ | refine tIfS_i ?_ | refine tTest_i ?_ | refine exBl_i ?_ | refine tRet_i ?_ | refine tCall_i ?_
  | refine tCB_i ?_ | refine tLst_i ?_ | refine tTup_i ?_ | refine rI0_i ?_ | refine tDrop_i ?_ | refine tNext_i ?_ | refine tB_i ?_ | refine tAnd_i ?_ | refine tOr_i ?_ | refine tNot_i ?_ | refine tAndV_i ?_ | refine tOrV_i ?_ | refine tNotV_i ?_
  | refine tIf_i ?_ | refine tUn_i ?_ | refine tDGet_i ?_ | refine sDPut_i ?_ | refine tFld_i ?_ | refine tRetN_i ?_ | refine tBreak_i ?_ | refine tCont_i ?_ | refine rU_i ?_)
local macro_rules | `(tactic| walk_at "yhead") => `(tactic| dsimp only [L2.start, List.map, List.length_cons, List.length_nil, Nat.reduceAdd, Nat.reduceSub, List.replicate, List.cons_append, List.nil_append])
local macro_rules | `(tactic| walk_at "y2") => `(tactic| first
  | walk_at "y1"
  | ((with_reducible refine tVar_i (v := ?v) ?h ?q); (case h => rfl))
  | ((with_reducible refine gName_i ?_); (dsimp only [List.set]))
  | ((with_reducible refine rEq_i ?h ?q); (case h => rfl)) | ((with_reducible refine rNe_i ?h ?q); (case h => rfl)))
local macro_rules | `(tactic| walk_at "y") => `(tactic| repeat walk_at "y2")

open LamX
section
variable {P : Program} {w : World} {K : PySem.W.Frag} {mg : Str → Option Value} {base : Heap}
theorem Cal.quiet {k : Nat} {x : Str} {sp : Sp} (c : Cal gd P w K mg base (CX P w) k x sp) : Cal gd P w K mg base CX0 k x (fun vs H Q _ => sp vs H Q fun _ _ _ => False) := by
  obtain ⟨f, fd, ps, F, h⟩ := c.ex
  exact ⟨f, fd, ps, F.quiet, h⟩
theorem CalKw.quiet {k : Nat} {x kw : Str} {d : V} {sp : Sp} (c : CalKw gd P w K mg base (CX P w) k x kw d sp) : CalKw gd P w K mg base CX0 k x kw d (fun vs H Q _ => sp vs H Q fun _ _ _ => False) := by
  obtain ⟨f, fd, ps, ds, F, h⟩ := c.ex
  exact ⟨f, fd, ps, ds, F.quiet, h⟩
theorem FW.off2 {H0 H H' : Hp} {D g : Addr} {fs : List Flt1} (h : FW K H0 H D fs) (s : ∀ b o, H b = some o → b ≠ g → H' b = some o) (h1 : ∀ r ∈ fs, r.a ≠ g) (h2 : D ≠ g) : FW K H0 H' D fs :=
  ⟨h.f.off fun r hr => by
    obtain ⟨i, hi⟩ := List.getElem?_of_mem hr
    have e := h.f.at_ i r hi
    exact (s _ _ e (h1 r hr)).trans (Eq.symm (show _ = _ from e)), s _ _ h.at_ h2, h.kl, h.ac, h.new, h.D0⟩
theorem FW.extN {H0 H H' : Hp} {D : Addr} {fs : List Flt1} (h : FW K H0 H D fs) (x : ExtN H H') : FW K H0 H' D fs := ⟨h.f.ext x, x _ _ h.at_ (fun _ z => nomatch z), h.kl, h.ac, h.new, h.D0⟩
theorem tabs_offL {T : List (Addr × Str)} {H H' : Hp} {p : Addr} {xs : List V} (s : ∀ b o, H b = some o → b ≠ p → H' b = some o) (hp : H p = some (.lst xs)) (t : Tabs T H) : Tabs T H' := fun q hq => by
  obtain ⟨ps, h1, h2, h3⟩ := t q hq
  refine ⟨ps, s _ _ h1 (fun z => by rw [z, hp] at h1; cases h1), h2, fun pos cv hc => ?_⟩
  obtain ⟨c, e1, e2⟩ := h3 pos cv hc
  exact ⟨c, e1, s _ _ e2 (fun z => by rw [z, hp] at e2; unfold CodeO at e2; cases e2)⟩
theorem paired_pk {F : V → Ev → Prop} {vs : List V} {es : List Ev} (h : Paired F vs es) : ∀ {is : List Nat}, (∀ i ∈ is, i < vs.length) → ∃ es', Paired F (pk is vs) es' ∧ (∀ e ∈ es', e ∈ es) ∧ es'.length = is.length
  | [], _ => ⟨[], .nil, fun e he => (by cases he), rfl⟩
  | i :: is, hi => by
    obtain ⟨es', h1, h2, h3⟩ := paired_pk h (is := is) fun j hj => hi j (List.mem_cons_of_mem _ hj)
    have hil := hi i List.mem_cons_self
    obtain ⟨e, e1, e2⟩ := paired_of h (i := i) (x := vs[i]) (List.getElem?_eq_getElem hil)
    refine ⟨e :: es', ?_, fun x hx => ?_, by simp [h3]⟩
    · show Paired F (vs.getD i .non :: pk is vs) _
      rw [List.getD_eq_getElem?_getD, List.getElem?_eq_getElem hil]
      exact .cons e2 h1
    · rcases List.mem_cons.mp hx with rfl | hx
      · exact List.mem_of_getElem? e1
      · exact h2 x hx
theorem pk_adr {fs : List Flt1} : ∀ {is : List Nat}, (∀ i ∈ is, i < fs.length) → pk is (fs.map fun r => V.ref r.a) = is.map (adr fs)
  | [], _ => rfl
  | i :: is, hi => by
    have hil := hi i List.mem_cons_self
    have ih := pk_adr (fs := fs) (is := is) fun j hj => hi j (List.mem_cons_of_mem _ hj)
    show (fs.map fun r => V.ref r.a).getD i .non :: pk is _ = adr fs i :: is.map (adr fs)
    rw [ih, List.getD_eq_getElem?_getD, List.getElem?_map, List.getElem?_eq_getElem hil]
    obtain ⟨r, e⟩ := get_lt hil
    have e2 : fs[i] = r := by rw [List.getElem?_eq_getElem hil] at e; exact Option.some.inj e
    rw [show adr fs i = .ref r.a from (by unfold adr; rw [e]), e2]
    rfl
/-- the law's clean log -/
def cleanLog (fs : List Flt1) : List Ev := .no 1 :: (List.range fs.length).map fun i : Nat => .fa (i : Nat) (kOf fs i) (lOf fs i)
theorem clean_get {fs : List Flt1} {j : Nat} (h : j < fs.length) : (cleanLog fs)[j + 1]? = some (.fa j (kOf fs j) (lOf fs j)) := by
  show ((List.range fs.length).map _)[j]? = _
  rw [List.getElem?_map, List.getElem?_range h]
  rfl
theorem clean_made {fs : List Flt1} : ∀ {j : Nat}, j ≤ fs.length → (stAt (cleanLog fs) (j + 1)).made = (j : Nat)
  | 0, _ => rfl
  | j + 1, h => by
    have ih := clean_made (fs := fs) (j := j) (by omega)
    rw [stAt_succ (clean_get (show j < fs.length by omega))]
    show (stAt (cleanLog fs) (j + 1)).made + 1 = _
    rw [ih]
    omega
theorem clean_audit {fs : List Flt1} : auditOf (cleanLog fs) fs (List.range fs.length) = [] := by
  have h1 : flawsOf (cleanLog fs) = [] := by
    unfold flawsOf
    refine List.filterMap_eq_nil_iff.mpr fun i hi => ?_
    have hi := List.mem_range.mp hi
    cases i with
    | zero => rfl
    | succ j =>
      have hj : j < fs.length := by
        have : (cleanLog fs).length = fs.length + 1 := by unfold cleanLog; simp
        omega
      rw [clean_get hj]
      show (if decide ((j : Int) = (stAt (cleanLog fs) (j + 1)).made) = true then none else _) = none
      rw [clean_made (Nat.le_of_lt hj)]
      simp
  have h2 : ∀ n, n ≤ fs.length → auRows (cleanLog fs) fs (List.range fs.length) n = [] := fun n => by
    induction n with
    | zero => intro _; rfl
    | succ n ih =>
      intro hn
      rw [auRows_succ (g := n) (List.getElem?_range (by omega)), ih (by omega)]
      unfold auRow
      rw [if_pos rfl, if_pos]
      · rfl
      · exact List.mem_of_getElem? (clean_get (show n < fs.length by omega))
  unfold auditOf
  rw [h1, List.length_range, h2 _ (Nat.le_refl _)]
  rfl
theorem clean_ok {fs : List Flt1} (kl : ∀ r ∈ fs, KL r.k r.l) (hl : fs.length ≤ 20) : ∀ e ∈ cleanLog fs, e.ok := fun e he => by
  rcases List.mem_cons.mp he with rfl | he
  · exact ⟨⟨by decide, by decide⟩, trivial⟩
  · obtain ⟨i, hi, rfl⟩ := List.mem_map.mp he
    have hi := List.mem_range.mp hi
    obtain ⟨r, er⟩ := get_lt hi
    have q := kl r (List.mem_of_getElem? er)
    refine ⟨⟨by show (0 : Int) ≤ i; omega, by show (i : Int) ≤ 1000; omega⟩, ?_⟩
    show KL (kOf fs i) (lOf fs i)
    unfold kOf lOf
    rw [er]
    exact q
theorem row_sm {es : List Ev} {fs : List Flt1} {gs : List Nat} (h1 : es.length ≤ 16) (h2 : gs.length ≤ 20) : ∀ r ∈ auditOf es fs gs, (rowV r).all smV = true ∧ (rowV r).length ≤ 2 := fun r hr => by
  refine ⟨?_, Nat.le_refl 2⟩
  have fin : ∀ (s : Str) (i : Int), smV (.str s) = true → 0 ≤ i → i ≤ 1000 → (rowV (s, i)).all smV = true := fun s i a b c => by
    show ([V.str s, V.int i] : List V).all smV = true
    rw [List.all_cons, a, List.all_cons, sm_int (by omega)]
    rfl
  rcases List.mem_append.mp hr with hr | hr
  · obtain ⟨i, hi, rfl⟩ := List.mem_map.mp hr
    unfold flawsOf at hi
    obtain ⟨j, hj, e⟩ := List.mem_filterMap.mp hi
    have hj := List.mem_range.mp hj
    have : i = (j : Nat) := by
      cases q : es[j]? with
      | none => rw [q] at e; cases e
      | some ev =>
        rw [q] at e
        have e : (if (stAt es j).ret ev = true then none else some ((j : Nat) : Int)) = some i := e
        split at e
        · cases e
        · exact (Option.some.inj e).symm
    exact fin _ _ (by decide +kernel) (by omega) (by omega)
  · unfold auRows at hr
    obtain ⟨j, hj, hr⟩ := List.mem_flatMap.mp hr
    have hj := List.mem_range.mp hj
    split at hr
    · unfold auRow at hr
      rcases List.mem_append.mp hr with hr | hr
      · split at hr
        · cases hr
        · simp at hr; subst hr; exact fin _ _ (by decide +kernel) (by omega) (by omega)
      · split at hr
        · cases hr
        · simp at hr; subst hr; exact fin _ _ (by decide +kernel) (by omega) (by omega)
    · cases hr
theorem audit_len {es : List Ev} {fs : List Flt1} {gs : List Nat} (h1 : es.length ≤ 16) (h2 : gs.length ≤ 20) : (auditOf es fs gs).length ≤ 56 := by
  unfold auditOf
  have a := flawsOf_len es
  have b := auRows_len (es := es) (fs := fs) (gs := gs) gs.length
  rw [List.length_append, List.length_map]
  omega
theorem rows_dp {H : Hp} {D : Addr} {vs : List V} {rows : List Row} (h : H D = some (.lst vs)) (p : Paired (TR rowV H) vs rows) : Dp K H (.ref D) (.list (rows.map fun a => .tuple ((rowV a).map vD))) := .lst (SqL.of h) (dp_TR (fun a => rfl) p)
theorem rows_sm {es : List Ev} {fs : List Flt1} {gs : List Nat} (h1 : es.length ≤ 16) (h2 : gs.length ≤ 20) : Sm 50 100000 (.list ((auditOf es fs gs).map fun a => .tuple ((rowV a).map vD))) := by
  have h := Sm.list (sm_TR (n := 2) (f := rowV) (as := auditOf es fs gs) (row_sm h1 h2))
  refine h.mono (by decide) ?_
  have := audit_len (fs := fs) h1 h2
  rw [List.length_map]
  omega
/-- the round of causes, as data -/
theorem cyc_bd {nx : Nat → Option Nat} {N f : Nat} (hN : ∀ i j, nx i = some j → j < N) (hf : f < N) (hl : N ≤ 100) : (∀ i ∈ cycOf nx N f, i < N) ∧ (cycOf nx N f).length ≤ N := by
  rcases cyc_spec hN hf (N + 1) 0 [] rfl rfl (fun i h => absurd h (Nat.not_lt_zero _)) List.nodup_nil (fun i h => by cases h) with ⟨e, _⟩ | ⟨qs, j, e, hj, hq, nd, hi, hl2⟩
  · rw [show cycOf nx N f = [] from e]
    exact ⟨fun i h => (by cases h), Nat.zero_le _⟩
  · rw [show cycOf nx N f = qs.drop j from e]
    refine ⟨fun x hx => ?_, by rw [List.length_drop]; omega⟩
    obtain ⟨i, h1, h2⟩ := List.mem_iff_getElem.mp (List.mem_of_mem_drop hx)
    have h3 := hi i h1
    rw [List.getD_eq_getElem?_getD, List.getElem?_eq_getElem h1, h2] at h3
    cases i with
    | zero => cases h3; exact hf
    | succ i =>
      have h3 : (itN nx f i).bind nx = some x := h3
      cases q : itN nx f i with
      | none => rw [q] at h3; cases h3
      | some a => rw [q] at h3; exact hN a x h3
end

end L77
namespace L77
open PySem PySem.Spec PyProof.Rows L2
variable {gd : Bool}
local macro_rules | `(tactic| walk_at "y1") => `(tactic| with_reducible first
  | refine tSeq_i ?_ | refine tAsg_i ?_ | refine tCons_i ?_ | refine tNil_i ?_ | refine tC_i ?_ | refine tOp_i ?_ | refine tIfS_i ?_ | refine tTest_i ?_ | refine exBl_i ?_ | refine tRet_i ?_ | refine tCall_i ?_
  | refine tCB_i ?_ | refine tLst_i ?_ | refine tTup_i ?_ | refine rI0_i ?_ | refine tDrop_i ?_ | refine tNext_i ?_ | refine tB_i ?_ | refine tAnd_i ?_ | refine tOr_i ?_ | refine tNot_i ?_ | refine tAndV_i ?_ | refine tOrV_i ?_ | refine tNotV_i ?_
  | refine tYes_i ?_ | refine tTM_i ?_ | refine tPar_i ?_ | refine tSl_i ?_ | refine tNoPart_i ?_ | refine tPart_i ?_ | refine part_i ?_ | refine tMake_i ?_ | refine tProp_i ?_ | refine tCallOG_i ?_ | refine tVeI_i ?_ | refine tOst_i ?_ | refine tMkO_i ?_ | refine sFld_i ?_ | refine fldaug_i ?_ | refine gCons_i ?_ | refine gNil_i ?_ | refine tChain_i ?_ | refine tBM_i ?_ | refine rAdd2_i ?_ | refine rLe2_i ?_ | refine rEq2_i ?_ | refine rEq2_ss ?_ | refine rNe2_i ?_ | refine rNe2_ss ?_ | refine rIsN_i ?_ | refine rNotN_i ?_ | refine tTup_i2 ?_ | refine tIf_i ?_ | refine tUn_i ?_ | refine tDGet_i ?_ | refine sDPut_i ?_ | refine tFld_i ?_ | refine tRetN_i ?_ | refine tBreak_i ?_ | refine tCont_i ?_ | refine rU_i ?_)
local macro_rules | `(tactic| walk_at "yhead") => `(tactic| dsimp only [L2.start, List.map, List.length_cons, List.length_nil, Nat.reduceAdd, Nat.reduceSub, List.replicate, List.cons_append, List.nil_append])
local macro_rules | `(tactic| walk_at "y2") => `(tactic| first
  | walk_at "y1"
  | ((with_reducible refine tVar_i (v := ?v) ?h ?q); (case h => rfl))
  | ((with_reducible refine gName_i ?_); (dsimp only [L2.wipe, List.set]))
  | with_reducible refine iteT ?_ | with_reducible refine iteF ?_ | with_reducible refine iteNT ?_ | with_reducible refine iteNF ?_
  | ((with_reducible refine iteDT ?h ?q); (case h => first | decide +kernel | omega | assumption | exact nv1 | exact nv2 | exact nv3 | exact nv4)) | ((with_reducible refine iteDF ?h ?q); (case h => first | decide +kernel | omega | assumption | exact nv1 | exact nv2 | exact nv3 | exact nv4))
  | ((with_reducible refine iteNDT ?h ?q); (case h => first | decide +kernel | omega | assumption | exact nv1 | exact nv2 | exact nv3 | exact nv4)) | ((with_reducible refine iteNDF ?h ?q); (case h => first | decide +kernel | omega | assumption | exact nv1 | exact nv2 | exact nv3 | exact nv4))
  | ((with_reducible refine rIsi2_1 (T := ?T) (b := true) ?ty ?h ?q); (case ty => first | exact ty_str | exact ty_int | exact ty_bl | exact ty_non); (case h => decide +kernel))
  | ((with_reducible refine rIsi2_1 (T := ?T) (b := false) ?ty ?h ?q); (case ty => first | exact ty_str | exact ty_int | exact ty_bl | exact ty_non); (case h => decide +kernel))
  | ((with_reducible refine rEq2_s ?h ?q); (case h => rfl)) | ((with_reducible refine rNe2_s ?h ?q); (case h => rfl))
  | ((with_reducible refine rEq_i ?h ?q); (case h => rfl)) | ((with_reducible refine rNe_i ?h ?q); (case h => rfl)))
local macro_rules | `(tactic| walk_at "y") => `(tactic| repeat walk_at "y2")

open LamX
section
variable {X : Cx}
def rTupN (K : PySem.W.Frag) : List V → Hp → VK → Prop := fun xs H Q => ∃ p ys, xs = [.ref p] ∧ ((SqL K H p ys ∧ ∀ l, H l = none → Q (.ref l) (upd H l (.tup ys))) ∨ (SqT K H p ys ∧ Q (.ref p) H))
theorem call_tupN : CallR X (.type "tuple") (rTupN X.K) := call_tuple_of
end
section
variable {P : Program} {w : World} {K : PySem.W.Frag} {mg : Str → Option Value} {base : Heap}
theorem paired_take {α β : Type} {F : α → β → Prop} : ∀ (k : Nat) {xs : List α} {ys : List β}, Paired F xs ys → Paired F (xs.take k) (ys.take k)
  | 0, _, _, _ => .nil
  | _ + 1, _, _, .nil => .nil
  | k + 1, _, _, .cons r t => .cons r (paired_take k t)
theorem paired_drop {α β : Type} {F : α → β → Prop} : ∀ (k : Nat) {xs : List α} {ys : List β}, Paired F xs ys → Paired F (xs.drop k) (ys.drop k)
  | 0, _, _, h => h
  | _ + 1, _, _, .nil => .nil
  | k + 1, _, _, .cons r t => paired_drop k t
def spLaw (K : PySem.W.Frag) : Sp := sp1 fun x H Q _ => ∃ (a : Addr) (ns : List Int), x = .ref a ∧ SqL K H a (ns.map V.int) ∧ ns.length ≤ 63 ∧ Tabs (TL K) H ∧ ∀ H', Q (.bl true) H'
theorem sc_law : FnScope ["_law_script", "_law_k", "_law_cell", "_law_state", "_law_faults_here", "_law_fault", "_law_log", "_law_turn", "_law_word_here", "_law_number", "_law_some", "_law_others"] ["_law_script"] (defScope (top 47)) := ⟨rfl, rfl, rfl, by decide +kernel, rfl, by decide +kernel, by decide +kernel⟩
theorem f_law (T : Sy K mg) (TB : TabB base mg (He.cT K refAt).1 (He.cT K refAt).2) {fd : FuncData} (F : FunD K "law" "law" (defArgs (top 47)) (defBody (top 47)) (defScope (top 47)) [] [] (He.fAd K (dG "law" 47).at_) fd) : FnG true P w K mg base CX0 15 (He.fAd K (dG "law" 47).at_) fd ["_law_script"] (spLaw K) := by
  refine FnG.body F sc_law sp1_len fun cdv A outer s H vs Q E z h => qt ?_
  replace z : RG true 14 _ := z
  have hu1 := hu_1 z; have hu2 := hu_2 z; have hu3 := hu_3 z
  obtain ⟨_, rfl, a, ns, rfl, hs, hn, tb0, q⟩ := h
  refine ⟨_, (pss_cons (ps_for PassesOwn.never (by rfl) (pi_enum2K (K := K) rfl (by rfl) (T.free "enumerate") (pe_op (r := rAdd2 K) op_add2 (pe_slice (r := rSl2 K) sl_2 (pv 0) po_none (po_some pe_int)) (pe_lst (pa_cons (pe_callB (r := rSum K) (cr_sum rfl) (by rfl) (T.free "sum") (by decide +kernel) (pa_cons (pv 0) pa_nil)) pa_nil)))) (pg_tupK (K := K) rfl (by rfl) (pgs_cons (pg_name (i := 1) sc_law.nd rfl (by first | exact Or.inl rfl | exact Or.inr rfl)) (pgs_cons (pg_name (i := 2) sc_law.nd rfl (by first | exact Or.inl rfl | exact Or.inr rfl)) pgs_nil))) (pss_cons (ps_set (i := 3) sc_law.nd rfl (by first | exact Or.inl rfl | exact Or.inr rfl) (pe_c (c__law_draw T) z (pa_cons (pv 2) (pa_cons (pv 1) pa_nil)))) (pss_cons (ps_set (i := 4) sc_law.nd rfl (by first | exact Or.inl rfl | exact Or.inr rfl) (pe_c (c__law_faults T) z (pa_cons (pv 3) pa_nil))) (pss_cons (ps_for PassesOwn.never (by rfl) (pi_anyK (K := K) rfl (pv 4)) (pg_name (i := 5) sc_law.nd rfl (by first | exact Or.inl rfl | exact Or.inr rfl)) (pss_cons (ps_if (PW.pt (pw_or (pt_cmpR (r := rNe2 K) (op_ne2 hu1) (pe_k1 (c_cycle_of T).quiet z pass0 (pa_cons (pv 5) pa_nil)) (pe_lst pa_nil) (nomark _)) (pw_or1 (pt_cmpR (r := rNe2 K) (op_ne2 hu1) (pe_k2 (c_cycle_of T).quiet z pass0 (pa_cons (pv 5) pa_nil) (pk_cons pe_str pk_nil)) (pe_lst pa_nil) (nomark _))))) (pss_one (ps_ret pe_bl)) pss_nil) (pss_one (ps_if (pt_cmpR (r := rNe2 K) (op_ne2 hu1) (pe_callB (r := rRepr K) (call_repr z) (by rfl) (T.free "repr") (by decide +kernel) (pa_cons (pe_k2 (c_cycle_of T).quiet z pass0 (pa_cons (pv 5) pa_nil) (pk_cons pe_str pk_nil)) pa_nil)) (pe_callB (r := rRepr K) (call_repr z) (by rfl) (T.free "repr") (by decide +kernel) (pa_cons (pe_c (c__law_cycle T) z (pa_cons (pv 5) (pa_cons pe_str (pa_cons (pe_callB (r := rLen2 K) call_len2 (by rfl) (T.free "len") (by decide +kernel) (pa_cons (pv 4) pa_nil)) pa_nil)))) pa_nil)) (nomark _)) (pss_one (ps_ret pe_bl)) pss_nil)))) (pss_cons (ps_set (i := 6) sc_law.nd rfl (by first | exact Or.inl rfl | exact Or.inr rfl) (pe_op (r := rAdd2 K) op_add2 (pe_lst (pa_cons (pe_tup (pa_cons pe_str (pa_cons pe_int pa_nil))) pa_nil)) (pe_lc (own := [("_law_fault", 5)]) (g := gName 5) (by rfl) sc_law.nd (pi_anyK (K := K) rfl (pv 4)) (blkOk_by (own := [("_law_fault", 5)]) (N := ["_law_script", "_law_k", "_law_cell", "_law_state", "_law_faults_here", "_law_fault", "_law_log", "_law_turn", "_law_word_here", "_law_number", "_law_some", "_law_others"]) (sc := (defScope (top 47))) (by decide +kernel)) (fun _ _ _ _ _ => (pg_name (i := 5) sc_law.nd rfl (by first | exact Or.inl rfl | exact Or.inr rfl))) (fun _ _ _ _ _ => pts_nil) (fun _ _ _ _ _ => (pe_tup (pa_cons pe_str (pa_cons (pe_prK (K := K) rfl (p_number T) z (pv 5)) (pa_cons (pe_prK (K := K) rfl (p_kind T) z (pv 5)) (pa_cons (pe_prK (K := K) rfl (p_label T) z (pv 5)) pa_nil))))))))) (pss_cons (ps_if (PW.pt (pw_or (pt_cmpR (r := rNe2 K) (op_ne2 hu1) (pe_c (c_audit T).quiet z (pa_cons (pv 6) (pa_cons (pv 4) pa_nil))) (pe_lst pa_nil) (nomark _)) (pw_or1 (pt_cmpR (r := rNe2 K) (op_ne2 hu1) (pe_c (c_audit T).quiet z (pa_cons (pe_callTy (r := rTupN K) call_tupN (by rfl) (T.free "tuple") (by decide +kernel) (pa_cons (pv 6) pa_nil)) (pa_cons (pe_callTy (r := rTupN K) call_tupN (by rfl) (T.free "tuple") (by decide +kernel) (pa_cons (pv 4) pa_nil)) pa_nil))) (pe_lst pa_nil) (nomark _))))) (pss_one (ps_ret pe_bl)) pss_nil) (pss_cons (ps_for PassesOwn.never (by rfl) (pi_range1 (by rfl) (T.free "range") (pa_cons pe_int pa_nil)) (pg_name (i := 7) sc_law.nd rfl (by first | exact Or.inl rfl | exact Or.inr rfl)) (pss_cons (ps_par (i := 8) (j := 9) (by rfl) sc_law.nd rfl rfl (by decide) rfl rfl (pa_cons (pe_ix (r := rGet K) (ix_get hu3) (pe_lst (pa_cons pe_str (pa_cons pe_str pa_nil))) (pe_c (c__law_digit T) z (pa_cons (pv 3) (pa_cons pe_int pa_nil))) (fun _ _ => rfl)) (pa_cons (pe_c (c__law_digit T) z (pa_cons (pv 3) (pa_cons pe_int pa_nil))) pa_nil)) (by rfl)) (pss_cons (ps_expr (pe_bmK (K := K) rfl PySem.F.plainAttrs_list PySem.F.slot_list_insert PySem.F.type_list_insert mt_insert (pv 6) (pa_cons (pe_c (c__law_digit T) z (pa_cons (pv 3) (pa_cons (pe_op (r := rAdd2 K) op_add2 (pe_callB (r := rLen2 K) call_len2 (by rfl) (T.free "len") (by decide +kernel) (pa_cons (pv 6) pa_nil)) pe_int) pa_nil))) (pa_cons (pe_tup (pa_cons (pv 8) (pa_cons (pv 9) pa_nil))) pa_nil)))) (pss_cons (ps_par (i := 10) (j := 11) (by rfl) sc_law.nd rfl rfl (by decide) rfl rfl (pa_cons (pe_c (c__law_spoilt T) z (pa_cons (pv 3) (pa_cons (pv 6) pa_nil))) (pa_cons (pe_c (c__law_spoilt T) z (pa_cons (pv 3) (pa_cons (pv 4) pa_nil))) pa_nil)) (by rfl)) (pss_one (ps_if (pt_cmpR (r := rNe2 K) (op_ne2 hu1) (pe_callB (r := rRepr K) (call_repr z) (by rfl) (T.free "repr") (by decide +kernel) (pa_cons (pe_c (c_audit T).quiet z (pa_cons (pv 10) (pa_cons (pv 11) pa_nil))) pa_nil)) (pe_callB (r := rRepr K) (call_repr z) (by rfl) (T.free "repr") (by decide +kernel) (pa_cons (pe_c (c__law_findings T) z (pa_cons (pv 10) (pa_cons (pv 11) pa_nil))) pa_nil)) (nomark _)) (pss_one (ps_ret pe_bl)) pss_nil)))))) (pss_one (ps_if (pt_not (pt_val (pe_c (c__law_refused_right T TB) z (pa_cons (pv 3) (pa_cons (pe_ix (r := rGet K) (ix_get hu3) (pv 4) pe_int (fun _ _ => rfl)) pa_nil))))) (pss_one (ps_ret pe_bl)) pss_nil))))))))) (pss_one (ps_ret (pe_cmpR (r := rEq2 K) (op_eq2 hu1) (pe_c (c_audit T).quiet z (pa_cons (pe_lst pa_nil) (pa_cons (pe_lst pa_nil) pa_nil))) (pe_lst pa_nil) (nomark _))))), ?_⟩
  walk_at "yhead"; walk_at "y"
  refine for_eb true ?_
  walk_at "y"
  refine ⟨_, rfl, ?_⟩
  refine rSl2_l (N := fun _ _ => True) hs fun S1 n1 => ?_
  have s1 := same_upd (H := H) (o := .lst (cutV (ns.map V.int) none (some 4))) n1
  have e1 := upd_same (H := H) (a := S1) (o := .lst (cutV (ns.map V.int) none (some 4)))
  generalize upd H S1 (.lst (cutV (ns.map V.int) none (some 4))) = H1 at s1 e1 ⊢
  rw [show (4 : Int) = ((4 : Nat) : Int) from rfl, cut_to, ← List.map_take] at e1
  walk_at "y"
  refine ⟨a, ns, rfl, Same.seq s1 hs, ?_⟩
  walk_at "y"
  refine ⟨sz4 (by simp), fun S2 nS2 => ?_⟩
  have sH2 := same_upd (H := H1) (o := .lst [.int ns.sum]) nS2
  have eS2 := upd_same (H := H1) (a := S2) (o := .lst [.int ns.sum])
  generalize upd H1 S2 (.lst [.int ns.sum]) = H2 at sH2 eS2 ⊢
  refine rAdd2_l (sH2 _ _ e1) eS2 (sz4 (by rw [List.length_map, List.length_take]; simp; omega)) fun S3 n3 => ?_
  rw [show (ns.take 4).map V.int ++ [V.int ns.sum] = (ns.take 4 ++ [ns.sum]).map V.int by simp]
  have lms : (ns.take 4 ++ [ns.sum]).length ≤ 5 := by rw [List.length_append, List.length_take]; simp; omega
  generalize ns.take 4 ++ [ns.sum] = ms at lms ⊢
  have s3 := same_upd (H := H2) (o := .lst (ms.map V.int)) n3
  have e3 := upd_same (H := H2) (a := S3) (o := .lst (ms.map V.int))
  generalize upd H2 S3 (.lst (ms.map V.int)) = H3 at s3 e3 ⊢
  have tb3 := tabs_same ((s1.trans sH2).trans s3) tb0
  refine ⟨S3, _, rfl, SqL.of e3, for_it (walk_eb (b := true)) (Pv := fun i σ H' => ∃ x1 x2 x3 x4 x5 x6 x7 x8 x9 x10 x11, σ = [some (.ref a), x1, x2, x3, x4, x5, x6, x7, x8, x9, x10, x11] ∧ ExtN H3 H' ∧ Tabs (TL K) H')
    ⟨_, _, _, _, _, _, _, _, _, _, _, rfl, ExtN.refl _, tb3⟩ (fun i σ H' _ hp => let ⟨_, _, _, _, _, _, _, _, _, _, _, _, s, _⟩ := hp; s _ _ e3 (fun _ z => nomatch z)) (fun i v σ H4 H5 hi hp y => ?_) fun σ H' hp => ?_⟩
  rotate_left
  · obtain ⟨x1, x2, x3, x4, x5, x6, x7, x8, x9, x10, x11, rfl, sP, tbP⟩ := hp
    walk_at "y"
    refine ⟨sz4 (by simp), fun P1 nP1 => ?_⟩
    have sHA := same_upd (H := H') (o := .lst []) nP1
    have eP1 := upd_same (H := H') (a := P1) (o := .lst [])
    generalize upd H' P1 (.lst []) = HA at sHA eP1 ⊢
    walk_at "y"
    refine ⟨sz4 (by simp), fun P2 nP2 => ?_⟩
    have sHB := same_upd (H := HA) (o := .lst []) nP2
    have eP2 := upd_same (H := HA) (a := P2) (o := .lst [])
    generalize upd HA P2 (.lst []) = HB at sHB eP2 ⊢
    walk_at "y"
    refine ⟨_, _, rfl, .inl ⟨true, P1, [], true, P2, [], [], rfl, ⟨[], sHB _ _ eP1, .nil, (fun e he => nomatch he), by decide⟩, rfl, ⟨.nil, eP2, (fun g hg => nomatch hg), (fun r hr => nomatch hr), by decide, by decide⟩, fun i => ⟨0, .last rfl⟩, fun D HC vs nD sC eD pr => ?_⟩⟩
    cases pr
    walk_at "y"
    refine ⟨sz4 (by simp), fun P3 nP3 => ?_⟩
    have sHD := same_upd (H := HC) (o := .lst []) nP3
    have eP3 := upd_same (H := HC) (a := P3) (o := .lst [])
    generalize upd HC P3 (.lst []) = HD at sHD eP3 ⊢
    refine rEq2_d (dp_ints (ns := []) (sHD _ _ eD)) (dp_ints (ns := []) eP3) (by decide +kernel) (by decide +kernel) ?_
    exact q _
  obtain ⟨x1, x2, x3, x4, x5, x6, x7, x8, x9, x10, x11, rfl, sP, tbP⟩ := hp
  obtain ⟨tt, v1, v2, rfl, ht, rfl, d1, d2⟩ := y
  cases d1
  have hi5 : i < 5 := by rw [List.length_map] at hi; omega
  obtain ⟨c, rfl⟩ : ∃ c : Int, v2 = .int c := by
    have d3 : (ms.map V.int)[i]? = some v2 := d2
    rw [List.getElem?_map] at d3
    cases h : ms[i]? with
    | none => rw [h] at d3; cases d3
    | some c => rw [h] at d3; cases d3; exact ⟨c, rfl⟩
  have sY := same_upd (o := .tup [.int i, .int c]) ht
  refine gTup_i (SqT.of upd_same) ?_
  have xA := sP.trans (extN_of sY)
  have tbA := tabs_same sY tbP
  generalize upd H4 tt (.tup [.int i, .int c]) = HA at *
  walk_at "y"
  refine ⟨_, _, rfl, c, i, rfl, rfl, by omega, by omega, fun p L HB L0 np sB ep => ?_⟩
  have tbB := tabs_same sB tbA
  walk_at "y"
  refine ⟨_, rfl, p, L, c, _, rfl, ep, L0, by omega, by omega, fun D fs L1 t1 HC fw n1 n6 offC kC L10 tC1 tC2 => ?_⟩
  have tbC := tabs_off offC ep tbB
  have xAC : ExtN HA HC := fun b o e _ => offC b o (sB _ _ e) (ne_of_none e np)
  walk_at "y"
  have ee : PyData.eqv (.list (([] : List Int).map V.int |>.map vD)) (.list (([] : List Int).map V.int |>.map vD)) = true := by decide +kernel
  have lfs : (fs.map fun r => V.ref r.a).length = fs.length := List.length_map ..
  refine for_b true ?_
  walk_at "y"
  refine ⟨D, rfl, ⟨_, SqL.of fw.at_⟩, for_it (walk_b (b := true)) (Pv := fun j σ H' => (∃ x5, σ = [some (.ref a), some (.int i), some (.int c), some (.ref p), some (.ref D), x5, x6, x7, x8, x9, x10, x11]) ∧ Same HC H') ⟨⟨_, rfl⟩, Same.refl _⟩ (fun j σ H' _ hp => hp.2 _ _ fw.at_) (fun j x σ H5 H6 hj hp y => ?_) fun σ H' hp => ?_⟩
  · obtain ⟨⟨x5', rfl⟩, s5⟩ := hp
    obtain ⟨rfl, e5⟩ := y
    rw [lfs] at hj
    rw [List.getElem?_map] at e5
    obtain ⟨r, er⟩ := get_lt hj
    rw [er] at e5
    cases e5
    have ar : V.ref r.a = adr fs j := (show lnk fs (some j) = _ from lnk_some er).symm
    walk_at "y"
    refine ⟨_, _, rfl, .inl ⟨fs, j, true, fw.f.same s5, by omega, hj, ar, rfl, fun D1 HD nD1 sD eD1 => ?_⟩⟩
    rw [show nxOf true fs = ctxOf fs from rfl, cycOf_acyc fw.ac] at eD1
    walk_at "y"
    refine ⟨sz4 (by simp), fun N1 nN1 => ?_⟩
    have sHE := same_upd (H := HD) (o := .lst []) nN1
    have eN1 := upd_same (H := HD) (a := N1) (o := .lst [])
    generalize upd HD N1 (.lst []) = HE at sHE eN1 ⊢
    refine rNe2_d (dp_ints (ns := []) (sHE _ _ eD1)) (dp_ints (ns := []) eN1) (by decide +kernel) (by decide +kernel) ?_
    rw [ee]
    walk_at "y"
    refine tCallN_i ?_
    walk_at "y"
    have s5E := (s5.trans sD).trans sHE
    refine ⟨rfl, rfl, _, _, rfl, .inl ⟨fs, j, true, fw.f.same s5E, by omega, hj, ar, rfl, fun D2 HF nD2 sF eD2 => ?_⟩⟩
    rw [show nxOf true fs = ctxOf fs from rfl, cycOf_acyc fw.ac] at eD2
    walk_at "y"
    refine ⟨sz4 (by simp), fun N2 nN2 => ?_⟩
    have sHG := same_upd (H := HF) (o := .lst []) nN2
    have eN2 := upd_same (H := HF) (a := N2) (o := .lst [])
    generalize upd HF N2 (.lst []) = HG at sHG eN2 ⊢
    refine rNe2_d (dp_ints (ns := []) (sHG _ _ eD2)) (dp_ints (ns := []) eN2) (by decide +kernel) (by decide +kernel) ?_
    rw [ee]
    walk_at "y"
    refine tCallN_i ?_
    walk_at "y"
    have s5G := (s5E.trans sF).trans sHG
    have bd := cyc_bd (nx := causeOf fs) (N := fs.length) (f := j) (fun i j h => nx_lt fw.f (b := false) (i := i) h) hj (by omega)
    refine ⟨rfl, rfl, _, _, rfl, .inl ⟨fs, j, false, fw.f.same s5G, by omega, hj, ar, rfl, fun D3 HI nD3 sI eD3 => ?_⟩⟩
    rw [show nxOf false fs = causeOf fs from rfl, ← iN_V] at eD3
    have smC : ((iN (cycOf (causeOf fs) fs.length j)).map V.int).all smV = true := sm_ints fun n hn => by
      unfold iN at hn
      obtain ⟨m, hm, rfl⟩ := List.mem_map.mp hn
      have := bd.1 m hm
      omega
    have smL : Sm 50 100000 (.list (((iN (cycOf (causeOf fs) fs.length j)).map V.int).map vD)) := (sm_lst smC).mono (by decide) (by unfold iN; rw [List.length_map, List.length_map]; omega)
    walk_at "y"
    refine ⟨_, _, rfl, dp_ints eD3, smL, ?_⟩
    walk_at "y"
    have s5I := s5G.trans sI
    refine rLen2_l (SqL.of (s5I _ _ fw.at_)) ?_ lfs
    walk_at "y"
    refine ⟨_, _, _, rfl, fs, j, fw.f.same s5I, by omega, hj, by rw [ad_at er], rfl, rfl, fun D4 HJ nD4 sJ eD4 => ?_⟩
    rw [← iN_V] at eD4
    walk_at "y"
    refine ⟨_, _, rfl, dp_ints eD4, smL, ?_⟩
    refine rNe2_ss ?_
    refine ⟨_, rfl, iteNDT rfl ?_⟩
    walk_at "y"
    exact ⟨⟨_, rfl⟩, s5I.trans sJ⟩
  obtain ⟨⟨x5', rfl⟩, s5⟩ := hp
  have fw5 := fw.same s5
  have tb5 := tabs_same s5 tbC
  have k5 := s5 _ _ kC
  have x5 := xAC.trans (extN_of s5)
  walk_at "y"
  refine ⟨sz4 (by simp), fun TN nTN => ?_⟩
  have sHK := same_upd (H := H') (o := .tup [.str "note", .int 1]) nTN
  have eTN := upd_same (H := H') (a := TN) (o := .tup [.str "note", .int 1])
  generalize upd H' TN (.tup [.str "note", .int 1]) = HK at sHK eTN ⊢
  walk_at "y"
  refine ⟨sz4 (by simp), fun LN nLN => ?_⟩
  have sHL := same_upd (H := HK) (o := .lst [.ref TN]) nLN
  have eLN := upd_same (H := HK) (a := LN) (o := .lst [.ref TN])
  generalize upd HK LN (.lst [.ref TN]) = HL at sHL eLN ⊢
  have s5L := sHK.trans sHL
  refine lc_b true ?_
  walk_at "y"
  refine ⟨D, rfl, ⟨_, SqL.of (s5L _ _ fw5.at_)⟩, lc_pure (walk_b (b := true) (xs := fs.map fun r : Flt1 => V.ref r.a)) (by rw [lfs]; exact sz4 (by omega)) (fun j => ((List.range fs.length)[j]?).bind fun i => some (Ev.fa (i : Nat) (kOf fs i) (lOf fs i))) (firm_TR Ev.xs) (fun H' s => s _ _ (s5L _ _ fw5.at_)) (fun i H0 x H1 y => by obtain ⟨rfl, _⟩ := y; exact Same.refl _) (fun j x H0 H6 hj s0 s6 y N C hC hN => ?_) fun LG HM vs nLG sM eLG pr => ?_⟩
  · obtain ⟨rfl, e5⟩ := y
    rw [lfs] at hj
    rw [List.getElem?_map] at e5
    obtain ⟨r, er⟩ := get_lt hj
    rw [er] at e5
    cases e5
    have hx := (fw5.f.same (s5L.trans s6)).at_ j r er
    have ek : kOf fs j = r.k := by unfold kOf; rw [er]; rfl
    have el : lOf fs j = r.l := by unfold lOf; rw [er]; rfl
    walk_at "y"
    refine ⟨rfl, ?_⟩
    walk_at "y"
    refine spFld_i hx frow_n ?_
    walk_at "y"
    refine spFld_i hx frow_k ?_
    walk_at "y"
    refine spFld_i hx frow_l ?_
    walk_at "y"
    refine ⟨sz4 (by simp), fun T9 nT9 => ?_⟩
    have sH7 := same_upd (H := H6) (o := .tup [.str "fault", .int j, .str r.k, .str r.l]) nT9
    have eT9 := upd_same (H := H6) (a := T9) (o := .tup [.str "fault", .int j, .str r.k, .str r.l])
    generalize upd H6 T9 (.tup [.str "fault", .int j, .str r.k, .str r.l]) = H7 at sH7 eT9 ⊢
    exact hC _ _ (.fa j r.k r.l) sH7 (by rw [List.getElem?_range hj, ← ek, ← el]; rfl) ⟨T9, rfl, eT9⟩
  rw [lfs] at pr
  have pr2 : Paired (TR Ev.xs HM) vs ((List.range fs.length).map fun i : Nat => Ev.fa (i : Nat) (kOf fs i) (lOf fs i)) := by
    have e := filterMap_ix (fun i : Nat => some (Ev.fa (i : Nat) (kOf fs i) (lOf fs i))) (List.range fs.length)
    rw [List.length_range] at e
    rw [e] at pr
    rwa [show (List.range fs.length).filterMap (fun i : Nat => some (Ev.fa (i : Nat) (kOf fs i) (lOf fs i))) = (List.range fs.length).map fun i : Nat => Ev.fa (i : Nat) (kOf fs i) (lOf fs i) from congrFun (List.filterMap_eq_map (f := fun i : Nat => Ev.fa (i : Nat) (kOf fs i) (lOf fs i))) _] at pr
  have lvs : vs.length = fs.length := by rw [pr2.length, List.length_map, List.length_range]
  walk_at "y"
  refine rAdd2_g (sM _ _ eLN) eLG (by rw [lvs]; simp; omega) fun LO HN nLO sN eLO => ?_
  have s5N := (s5L.trans sM).trans sN
  have fwN := fw5.same s5N
  have lgN : LogAt true HN LO (cleanLog fs) := ⟨_, eLO, .cons ⟨TN, rfl, ((sHL.trans sM).trans sN) _ _ eTN⟩ ((firm_TR Ev.xs).all (sT sN) pr2), clean_ok fwN.kl (by omega), by unfold cleanLog; simp; omega⟩
  clear pr pr2 eLG eLO eTN eLN
  walk_at "y"
  refine ⟨_, _, rfl, .inl ⟨true, LO, cleanLog fs, true, D, fs, List.range fs.length, rfl, lgN, rfl, fwN.gs (by omega), fwN.ac, fun R1 HO1 vs1 nR1 sO eR1 prR => ?_⟩⟩
  rw [clean_audit] at prR
  cases prR
  walk_at "y"
  refine ⟨sz4 (by simp), fun N1 nN1 => ?_⟩
  have sHP := same_upd (H := HO1) (o := .lst []) nN1
  have eN1 := upd_same (H := HO1) (a := N1) (o := .lst [])
  generalize upd HO1 N1 (.lst []) = HP at sHP eN1 ⊢
  refine rNe2_d (dp_ints (ns := []) (sHP _ _ eR1)) (dp_ints (ns := []) eN1) (by decide +kernel) (by decide +kernel) ?_
  rw [ee]
  walk_at "y"
  have sNP := sO.trans sHP
  have lgP := lgN.same sNP
  obtain ⟨vsL, hL1, hL2, hL3, hL4⟩ := id lgP
  refine ⟨LO, _, rfl, .inl ⟨SqL.of hL1, fun TL1 nTL1 => ?_⟩⟩
  have sQ := same_upd (o := .tup vsL) nTL1
  have eTL1 := upd_same (H := HP) (a := TL1) (o := .tup vsL)
  generalize upd HP TL1 (.tup vsL) = HQ at sQ eTL1 ⊢
  walk_at "y"
  have fwQ := fwN.same (sNP.trans sQ)
  refine ⟨D, _, rfl, .inl ⟨SqL.of fwQ.at_, fun TF1 nTF1 => ?_⟩⟩
  have sR := same_upd (o := .tup (fs.map fun r : Flt1 => V.ref r.a)) nTF1
  have eTF1 := upd_same (H := HQ) (a := TF1) (o := .tup (fs.map fun r : Flt1 => V.ref r.a))
  generalize upd HQ TF1 (.tup (fs.map fun r : Flt1 => V.ref r.a)) = HR at sR eTF1 ⊢
  walk_at "y"
  have fwR := fwQ.same sR
  have gR := fwR.gs (by omega)
  refine ⟨_, _, rfl, .inl ⟨false, TL1, cleanLog fs, false, TF1, fs, List.range fs.length, rfl, ⟨vsL, sR _ _ eTL1, (firm_TR Ev.xs).all (sT (sQ.trans sR)) hL2, hL3, hL4⟩, rfl, ⟨fwR.f, by rw [adrs]; exact eTF1, gR.lt, gR.kl, gR.fl, gR.gl⟩, fwR.ac, fun R2 HS vs2 nR2 sS eR2 prR2 => ?_⟩⟩
  rw [clean_audit] at prR2
  cases prR2
  walk_at "y"
  refine ⟨sz4 (by simp), fun N2 nN2 => ?_⟩
  have sHT := same_upd (H := HS) (o := .lst []) nN2
  have eN2 := upd_same (H := HS) (a := N2) (o := .lst [])
  generalize upd HS N2 (.lst []) = HT at sHT eN2 ⊢
  refine rNe2_d (dp_ints (ns := []) (sHT _ _ eR2)) (dp_ints (ns := []) eN2) (by decide +kernel) (by decide +kernel) ?_
  rw [ee]
  have sNT := (((sNP.trans sQ).trans sR).trans sS).trans sHT
  have fwT := fwN.same sNT
  have lgT := lgN.same sNT
  have s5T := s5N.trans sNT
  have tbT := tabs_same s5T tb5
  have kT := s5T _ _ k5
  have xT := x5.trans (extN_of s5T)
  have npD : ∀ {H' : Hp}, FW K HB H' D fs → D ≠ p := fun fw z => by have := fw.D0; rw [z, ep] at this; cases this
  have LOp : LO ≠ p := Ne.symm (ne_of_none (show HM p = _ from sM _ _ (s5L _ _ k5)) nLO)
  have LOD : D ≠ LO := ne_of_none (show HM D = _ from sM _ _ (s5L _ _ fw5.at_)) nLO
  have LOx : ∀ {b : Addr} {o : HO}, HA b = some o → (∀ ps, o ≠ .tbl ps) → b ≠ LO := fun e n => ne_of_none (((extN_of s5L).trans (extN_of sM)) _ _ (x5 _ _ e n) n) nLO
  walk_at "y"
  refine for_r1 ?_
  walk_at "y"
  refine ⟨4, rfl, by decide, by decide, for_it walk_range (Pv := fun j σ H' => ∃ L' t' es y5 y7 y8 y9 y10 y11, σ = [some (.ref a), some (.int i), some (.int c), some (.ref p), some (.ref D), y5, some (.ref LO), y7, y8, y9, y10, y11] ∧ 0 ≤ L' ∧ 1000 * (i : Int) ≤ t' ∧ t' ≤ 1000 * (i : Int) + 300 + 40 * (j : Nat) ∧ H' p = some (.dK (stK L' c t')) ∧ LogAt true H' LO es ∧ es.length ≤ 7 + j ∧ FW K HB H' D fs ∧ Tabs (TL K) H' ∧ ExtN HA H')
    ⟨L1, t1, cleanLog fs, _, _, _, _, _, _, rfl, L10, tC1, by omega, kT, lgT, by unfold cleanLog; simp; omega, fwT, tbT, xT⟩ (fun _ _ _ _ _ => trivial) (fun j v σ HU HV hj hp y => ?_) fun σ H' hp => ?_⟩
  rotate_left
  · obtain ⟨L', t', es, y5, y7, y8, y9, y10, y11, rfl, L0', ta, tb, kp, lg, le, fw', tb', x'⟩ := hp
    walk_at "y"
    obtain ⟨r0, er0⟩ := get_lt (show 0 < fs.length by omega)
    refine rGet_l (n := 0) (SqL.of fw'.at_) (by rw [List.getElem?_map, er0]; rfl) ?_
    walk_at "y"
    refine ⟨_, _, rfl, p, L', c, t', fs, 0, rfl, kp, L0', by omega, by omega, by rw [ad_at er0], fw'.f, by omega, fw'.kl, tb', fun L2 t2 HZ offZ kZ _ _ _ tbZ => ?_⟩
    walk_at "y"
    exact ⟨_, _, _, _, _, _, _, _, _, _, _, rfl, fun b o e n => offZ _ _ (x' _ _ (xA _ _ e n) n) (ne_of_none (xA _ _ e n) np) n, tbZ⟩
  obtain ⟨L', t', es, y5, y7, y8, y9, y10, y11, rfl, L0', ta, tb, kp, lg, le, fw', tb', x'⟩ := hp
  obtain ⟨rfl, rfl⟩ := y
  have hj4 : j < 4 := hj
  walk_at "y"
  refine ⟨sz4 (by simp), fun B1 nB1 => ?_⟩
  have sHW := same_upd (H := HV) (o := .lst [.str "open", .str "shut"]) nB1
  have eB1 := upd_same (H := HV) (a := B1) (o := .lst [.str "open", .str "shut"])
  generalize upd HV B1 (.lst [.str "open", .str "shut"]) = HW at sHW eB1 ⊢
  walk_at "y"
  have hpA : HA p = none := np
  have npp : HB p ≠ none := by rw [ep]; simp
  refine ⟨_, _, rfl, p, L', c, t', 2, rfl, rfl, sHW _ _ kp, L0', by omega, by omega, by omega, by omega, fun dw L2 t2 H6 b1 b2 b3 b4 b5 off6 k6 => ?_⟩
  have B1p : B1 ≠ p := Ne.symm (ne_of_none kp nB1)
  have eB6 := off6 _ _ eB1 B1p
  obtain ⟨nw, wd, rfl, ew, hwd⟩ : ∃ (nw : Nat) (wd : Str), dw = nw ∧ ([.str "open", .str "shut"] : List V)[nw]? = some (.str wd) ∧ (wd = "open" ∨ wd = "shut") := by
    rcases (show dw = 0 ∨ dw = 1 by omega) with rfl | rfl
    · exact ⟨0, _, rfl, rfl, .inl rfl⟩
    · exact ⟨1, _, rfl, rfl, .inr rfl⟩
  refine rGet_l (SqL.of eB6) ew ?_
  walk_at "y"
  refine ⟨_, _, rfl, p, L2, c, t2, 3, rfl, rfl, k6, b3, by omega, by omega, by omega, by omega, fun dn L3 t3 H7 c1 c2 c3 c4 c5 off7 k7 => ?_⟩
  refine ⟨_, _, rfl, ?_⟩
  walk_at "y"
  have off67 : ∀ b o, HV b = some o → b ≠ p → H7 b = some o := fun b o e nb => off7 _ _ (off6 _ _ (sHW _ _ e) nb) nb
  have fw7 := ((fw'.same sHW).off off6 npp).off off7 npp
  have tb7 := tabs_off off7 k6 (tabs_off off6 (sHW _ _ kp) (tabs_same sHW tb'))
  obtain ⟨vs, h1, h2, ok, hl⟩ := id lg
  have h17 := off67 _ _ h1 LOp
  have off67p : ∀ {v : V} {e : Ev}, TR Ev.xs HV v e → TR Ev.xs H7 v e := fun ⟨g, eg, hg⟩ => ⟨g, eg, off67 _ _ hg (fun z => by rw [z, kp] at hg; cases hg)⟩
  have h27 : Paired (TR Ev.xs H7) vs es := h2.mono fun v e h => off67p h
  have lv : vs.length = es.length := h2.length
  refine ⟨tyL h17, ?_⟩
  walk_at "y"
  refine rLen2_l (SqL.of h17) ?_ lv
  walk_at "y"
  refine ⟨_, _, rfl, p, L3, c, t3, _, rfl, rfl, k7, c3, by omega, by omega, by omega, by omega, fun dk L4 t4 H8 e1 e2 e3 e4 e5 off8 k8 => ?_⟩
  walk_at "y"
  refine ⟨sz4 (by simp), fun TE nTE => ?_⟩
  have sH9 := same_upd (H := H8) (o := .tup [.str wd, .int dn]) nTE
  have eTE := upd_same (H := H8) (a := TE) (o := .tup [.str wd, .int dn])
  generalize upd H8 TE (.tup [.str wd, .int dn]) = H9 at sH9 eTE ⊢
  walk_at "y"
  have fw9 := (fw7.off off8 npp).same sH9
  have tb9 := tabs_same sH9 (tabs_off off8 k7 tb7)
  have off89 : ∀ b o, H7 b = some o → b ≠ p → H9 b = some o := fun b o e nb => sH9 _ _ (off8 _ _ e nb)
  have h19 := off89 _ _ h17 LOp
  have h29 : Paired (TR Ev.xs H9) vs es := h27.mono fun v e h => (let ⟨g, eg, hg⟩ := h; ⟨g, eg, off89 _ _ hg (fun z => by rw [z, k7] at hg; cases hg)⟩)
  have k9 := sH9 _ _ k8
  obtain ⟨ev, exs, eok⟩ : ∃ ev : Ev, ev.xs = [.str wd, .int dn] ∧ ev.ok := by
    rcases hwd with rfl | rfl
    · exact ⟨.op dn, rfl, ⟨c1, by show dn ≤ 1000; omega⟩, trivial⟩
    · exact ⟨.sh dn, rfl, ⟨c1, by show dn ≤ 1000; omega⟩, trivial⟩
  obtain ⟨kk, rfl⟩ : ∃ kk : Nat, dk = kk := ⟨dk.toNat, by omega⟩
  refine ⟨LO, vs, _, _, rfl, rfl, h19, Nat.lt_of_lt_of_le (show vs.length < 17 by omega) (sz4 (n := 17)), by omega, by omega, ?_⟩
  rw [show ((kk : Int)).toNat = kk by omega]
  have uX : ∀ b, b ≠ LO → upd H9 LO (.lst (vs.take kk ++ [.ref TE] ++ vs.drop kk)) b = H9 b := fun b nb => upd_ne nb
  have eX := upd_same (H := H9) (a := LO) (o := .lst (vs.take kk ++ [.ref TE] ++ vs.drop kk))
  generalize upd H9 LO (.lst (vs.take kk ++ [.ref TE] ++ vs.drop kk)) = HX at uX eX ⊢
  have sLO : ∀ b o, H9 b = some o → b ≠ LO → HX b = some o := fun b o e nb => (uX b nb).trans e
  have pX : ∀ {v : V} {e : Ev}, TR Ev.xs H9 v e → TR Ev.xs HX v e := fun ⟨g, eg, hg⟩ => ⟨g, eg, sLO _ _ hg (fun z => by rw [z, h19] at hg; cases hg)⟩
  have prX : Paired (TR Ev.xs HX) (vs.take kk ++ [.ref TE] ++ vs.drop kk) (es.take kk ++ [ev] ++ es.drop kk) :=
    paired_append (paired_append ((paired_take kk h29).mono fun v e h => pX h) (.cons (pX ⟨TE, rfl, by rw [exs]; exact eTE⟩) .nil)) ((paired_drop kk h29).mono fun v e h => pX h)
  have okX : ∀ e ∈ es.take kk ++ [ev] ++ es.drop kk, e.ok := fun e he => by
    rcases List.mem_append.mp he with h | h
    · rcases List.mem_append.mp h with h | h
      · exact ok e (List.mem_of_mem_take h)
      · rw [List.mem_singleton.mp h]; exact eok
    · exact ok e (List.mem_of_mem_drop h)
  have leX : (es.take kk ++ [ev] ++ es.drop kk).length ≤ 7 + (j + 1) := by
    rw [List.length_append, List.length_append, List.length_take, List.length_drop, List.length_singleton]; omega
  have leX1 : 1 ≤ (vs.take kk ++ [V.ref TE] ++ vs.drop kk).length := by rw [List.length_append, List.length_append, List.length_singleton]; omega
  have lvX := prX.length
  generalize es.take kk ++ [ev] ++ es.drop kk = es2 at prX okX leX lvX
  generalize vs.take kk ++ [V.ref TE] ++ vs.drop kk = vs2 at prX eX lvX leX1
  have fwX := fw9.off2 sLO (fun r hr z => by
    obtain ⟨i, hi⟩ := List.getElem?_of_mem hr
    have e : H9 r.a = _ := fw9.f.at_ i r hi
    rw [z, h19] at e
    cases e) LOD
  have tbX := tabs_offL sLO h19 tb9
  have kX := sLO _ _ k9 (Ne.symm LOp)
  have xX : ExtN HA HX := fun b o e n => sLO _ _ (off89 _ _ (off67 _ _ (x' _ _ e n) (ne_of_none e np)) (ne_of_none e np)) (LOx e n)
  clear eTE eB6 eB1 h19 h29 h17 h27 h1 h2 pX off67p
  walk_at "y"
  refine ⟨_, _, rfl, p, L4, c, t4, LO, vs2, rfl, kX, e3, by omega, by omega, rfl, eX, leX1, by omega, fun r1 is1 L5 t5 HY hi1 hl1 hr1 offY kY f1 f2 f3 => ?_⟩
  walk_at "y"
  have prY : Paired (TR Ev.xs HY) vs2 es2 := prX.mono fun v e h => (let ⟨g, eg, hg⟩ := h; ⟨g, eg, offY _ _ hg (fun z => by rw [z, kX] at hg; cases hg)⟩)
  have fwY := fwX.off offY npp
  have tbY := tabs_off offY kX tbX
  have eY := offY _ _ eX LOp
  refine ⟨_, _, rfl, p, L5, c, t5, D, _, rfl, kY, f1, by omega, by omega, rfl, fwY.at_, by rw [lfs]; exact n1, by rw [lfs]; omega, fun r2 is2 L6 t6 HZ hi2 hl2 hr2 offZ kZ g1 g2 g3 => ?_⟩
  rw [lfs] at hi2 hl2
  have fwZ := fwY.off offZ npp
  have tbZ := tabs_off offZ kY tbY
  have eZ := offZ _ _ eY LOp
  have prZ : Paired (TR Ev.xs HZ) vs2 es2 := prY.mono fun v e h => (let ⟨g, eg, hg⟩ := h; ⟨g, eg, offZ _ _ hg (fun z => by rw [z, kY] at hg; cases hg)⟩)
  have hr1Z := offZ _ _ hr1 (fun z => by rw [z, kY] at hr1; cases hr1)
  obtain ⟨es3, q1, q2, q3⟩ := paired_pk prZ (is := is1) hi1
  rw [pk_adr hi2] at hr2
  have lg3 : LogAt true HZ r1 es3 := ⟨_, hr1Z, q1, fun e he => okX e (q2 e he), by omega⟩
  have ga2 : GsAt K true HZ r2 fs is2 := ⟨fwZ.f, hr2, hi2, fwZ.kl, by omega, by omega⟩
  refine ⟨_, _, rfl, ?_⟩
  walk_at "y"
  refine ⟨_, _, rfl, .inl ⟨true, r1, es3, true, r2, fs, is2, rfl, lg3, rfl, ga2, fwZ.ac, fun R3 Hp1 vs3 nR3 sp1 eR3 prR3 => ?_⟩⟩
  have l16 : es3.length ≤ 16 := lg3.choose_spec.2.2.2
  have l20 : is2.length ≤ 20 := ga2.gl
  walk_at "y"
  refine ⟨_, _, rfl, rows_dp eR3 prR3, rows_sm l16 l20, ?_⟩
  walk_at "y"
  refine ⟨_, _, rfl, r1, es3, r2, fs, is2, rfl, lg3.same sp1, rfl, ga2.same sp1, fun R4 Hp2 vs4 nR4 sp2 eR4 prR4 => ?_⟩
  walk_at "y"
  refine ⟨_, _, rfl, rows_dp eR4 prR4, rows_sm l16 l20, ?_⟩
  refine rNe2_ss ?_
  refine ⟨_, rfl, iteNDT rfl ?_⟩
  walk_at "y"
  have sp := sp1.trans sp2
  refine ⟨L6, t6, es2, _, _, _, _, _, _, rfl, g1, by omega, by omega, sp _ _ kZ, ⟨vs2, sp _ _ eZ, (firm_TR Ev.xs).all (sT sp) prZ, okX, by omega⟩, leX, fwZ.same sp, tabs_same sp tbZ, fun b o e n => sp _ _ (offZ _ _ (offY _ _ (xX _ _ e n) (ne_of_none e np)) (ne_of_none e np))⟩
end

end L77
namespace L77
open PySem PySem.Spec PyProof.Rows L2
variable {gd : Bool}
local macro_rules | `(tactic| walk_at "y1") => `(tactic| with_reducible first
  | refine tSeq_i ?_ | refine tAsg_i ?_ | refine tCons_i ?_ | refine tNil_i ?_ | refine tC_i ?_ | refine tOp_i ?_ | refine tIfS_i ?_ | refine tTest_i ?_ | refine exBl_i ?_ | refine tRet_i ?_ | refine tCall_i ?_
  | refine tCB_i ?_ | refine tLst_i ?_ | refine tTup_i ?_ | refine rI0_i ?_ | refine tDrop_i ?_ | refine tNext_i ?_ | refine tB_i ?_ | refine tAnd_i ?_ | refine tOr_i ?_ | refine tNot_i ?_ | refine tAndV_i ?_ | refine tOrV_i ?_ | refine tNotV_i ?_
  | refine tIf_i ?_ | refine tUn_i ?_ | refine tDGet_i ?_ | refine sDPut_i ?_ | refine tFld_i ?_ | refine tRetN_i ?_ | refine tBreak_i ?_ | refine tCont_i ?_ | refine rU_i ?_)
local macro_rules | `(tactic| walk_at "yhead") => `(tactic| dsimp only [L2.start, List.map, List.length_cons, List.length_nil, Nat.reduceAdd, Nat.reduceSub, List.replicate, List.cons_append, List.nil_append])
local macro_rules | `(tactic| walk_at "y2") => `(tactic| first
  | walk_at "y1"
  | ((with_reducible refine tVar_i (v := ?v) ?h ?q); (case h => rfl))
  | ((with_reducible refine gName_i ?_); (dsimp only [List.set]))
  | ((with_reducible refine rEq_i ?h ?q); (case h => rfl)) | ((with_reducible refine rNe_i ?h ?q); (case h => rfl)))
local macro_rules | `(tactic| walk_at "y") => `(tactic| repeat walk_at "y2")

/-! the end of a law over FnG whose defs make functions: their tables stand empty at the start -/
theorem lawGT {P : Program} {w : World} {K : PySem.W.Frag} {mg mb : Str → Option Value} {CX : CXT} {n : Nat} {fa a c Pt : Addr} {fd : FuncData} {x : Str} {sp : Sp} {st : Shared} {us : List Value} {ns : List Int}
    (KX : K.In st.heap) (G1 : st.heap.Ns mainGlobals mg) (G2 : st.heap.Ns builtinsNs mb) (G3 : ∀ y : Str, y ≠ "__name__" → mb y = bootBuiltins y) (G4 : st.heap.NoLimit) (G5 : st.gens = #[])
    (hh : PySem.W.codeHdIn K c Pt = true) (hT : st.heap.get? Pt = some { cls := .none, data := .fields #[] }) (nT : K.lookup Pt = none)
    (hbm : ∃ (bm : Addr) (ob : Obj), mg "__builtins__" = some (.ref bm) ∧ bm ≠ builtinsNs ∧ st.heap.get? bm = some ob ∧ ob.cls = .type "module" ∧ ob.dict = some builtinsNs ∧ ob.data = .plain)
    (ha : st.heap.get? a = some { cls := .type "list", data := .seq us.toArray }) (hi : IntsAre us ns) (hl : ns.length ≤ sizeLine) (z : RG true n callerA)
    (F : ∀ base : Heap, K.In base → base.Ns mainGlobals mg → LamX.TabB base mg c Pt → FnG true P w K mg base CX n fa fd [x] sp) (bd : ∀ (s : Shared) (u : Value), BindsTo s fd ⟨[u], []⟩ [(x, u)])
    (hsp : ∀ H : Hp, H Pt = some (.tbl #[]) → SqL K H a (ns.map V.int) → sp [.ref a] H (fun v _ => v = .bl true) fun _ _ _ => False)
    (hCX : ∀ H e sz, CX [] H st (fun _ _ _ => False) e sz → False) :
    codeAny (model P w) callerA (.call (.ref fa) ⟨[.ref a], []⟩) (fun r sz => r = .ok (.ret (.bool true)) ∧ OldK st.heap sz.heap ∧ sz.os = st.os ∧ AllBare sz.gens) st := by
  have rv := vals_ints hi
  have ln := hi.length
  have nPa : a ≠ Pt := fun e => by rw [e, hT] at ha; cases ha
  have core : ∀ H : Hp, H Pt = some (.tbl #[]) → (∀ b, b = Pt ∨ H b = none ∨ ∃ o xs, H b = some (.frz o (.lst xs))) → SqL K H a (ns.map V.int) → HOk P w H st.heap → (∀ b, H b ≠ none → b = Pt ∨ (b = a ∧ K.lookup a = none)) →
      codeAny (model P w) callerA (.call (.ref fa) ⟨[.ref a], []⟩) (fun r sz => r = .ok (.ret (.bool true)) ∧ OldK st.heap sz.heap ∧ sz.os = st.os ∧ AllBare sz.gens) st := by
    intro H hP hO hS ok hA
    have fr0 : ∀ {b : Addr} {o : Obj}, st.heap.get? b = some o → H b = none → (hidT st.heap H).get? b = some o := fun e k => hidT_get e k
    have out : ∀ {b : Addr} {o : Obj}, st.heap.get? b = some o → (o.data ≠ .seq us.toArray 0 ∧ o.data ≠ .fields #[]) ∨ (∃ q, K.lookup b = some q) → H b = none := by
      intro b o e d
      cases q : H b with
      | none => rfl
      | some u =>
        rcases hA b (by rw [q]; exact fun y => nomatch y) with eb | ⟨eb, ek⟩
        · subst eb
          rcases d with d | ⟨y, d⟩
          · rw [hT] at e; cases e; exact absurd rfl d.2
          · rw [nT] at d; cases d
        · subst eb
          rcases d with d | ⟨y, d⟩
          · rw [ha] at e; cases e; exact absurd rfl d.1
          · rw [ek] at d; cases d
    have ns0 : ∀ {b : Addr} {m : Str → Option Value}, st.heap.Ns b m → (hidT st.heap H).Ns b m := fun ⟨o, es, ep, e, d, r⟩ => ⟨o, es, ep, fr0 e (out e (.inl (by rw [d]; exact ⟨(fun y => nomatch y), (fun y => nomatch y)⟩))), d, r⟩
    have KB : K.In (hidT st.heap H) := fun b o e => fr0 (KX b o e) (out (KX b o e) (.inr ⟨o, e⟩))
    have MD : Mod K mg (hidT st.heap H) := ⟨KB, ns0 G1, ⟨mb, ns0 G2, G3⟩, let ⟨mc, q1, q2⟩ := G4; ⟨mc, ns0 q1, q2⟩⟩
    have e0 : Env0 P w K mg (hidT st.heap H) callerA [] st H := ⟨rfl, MD, fun b o e => of_hidT e, Nat.le_of_eq (hidT_size _ _), trivial, fun b hb => absurd (show b ∈ ([] : List Addr) from hb) List.not_mem_nil, ok, .of_eq G5⟩
    have gP : mainGlobals ≠ Pt := fun e => by
      obtain ⟨o, es, ep, q, hd, _⟩ := G1
      rw [e, hT] at q
      cases q
      cases hd
    have TB : LamX.TabB (hidT st.heap H) mg c Pt := by
      refine NdefX.tabB_of_K KB hh ?_ gP
      obtain ⟨bm, ob, b1, b2, b3, b4, b5, b6⟩ := hbm
      refine ⟨bm, ob, b1, b2, fun e => ?_, fun e => ?_, fr0 b3 (out b3 (.inl (by rw [b6]; exact ⟨(fun y => nomatch y), (fun y => nomatch y)⟩))), b4, b5, b6⟩
      · obtain ⟨o, es, ep, q, hd, _⟩ := G1
        rw [← e, b3] at q
        cases q
        rw [hd] at b6
        cases b6
      · rw [e, hT] at b3
        cases b3
        cases b6
    refine codeAny_mono ((F _ KB (ns0 G1) TB).run callerA [] st H ⟨[.ref a], []⟩ [.ref a] [.ref a] _ _ z e0 (bd st (.ref a)) (.cons rfl .nil) (hsp H hP hS)) fun r sz h => ?_
    cases r with
    | error e => exact (hCX H e sz h).elim
    | ok fl =>
      cases fl with
      | next => exact False.elim h
      | brk => exact False.elim h
      | cont => exact False.elim h
      | ret u =>
        obtain ⟨v, H', os, bare, un, ok', r2, q⟩ := h
        have qv : v = .bl true := q
        subst qv
        obtain rfl : u = Value.bool true := r2
        have kept : ∀ b o, b ≠ Pt → st.heap.get? b = some o → sz.heap.get? b = some o := fun b o nb e => by
          rcases hO b with k | k | ⟨ob, xs, k⟩
          · exact absurd k nb
          · exact un.keep b o e k (fun y => nomatch (show b ∈ ([] : List Addr) from y)) (fun y => nomatch y)
          · obtain ⟨e1, _⟩ := ok b _ k
            obtain ⟨e2, _⟩ := ok' b _ (un.frzs b ob _ k)
            rw [e] at e1; cases e1
            exact e2
        obtain ⟨more, hm⟩ := un.tbls Pt #[] hP
        have hm2 : sz.heap.get? Pt = some { cls := .none, data := .fields (#[] ++ more) } := ok' Pt _ hm
        refine ⟨rfl, ⟨fun b o e => ?_, fun b o e => ?_⟩, os, bare⟩
        · by_cases hb : b = Pt
          · subst hb
            rw [hT] at e
            cases e
            exact .inr (.inl ⟨((PySem.W.codeHd_of_K KX hh).tab hT).isCodeTable, rfl, #[], more, rfl, hm2⟩)
          · exact .inl (kept b o hb e)
        · by_cases hb : b = Pt
          · subst hb; exact ⟨_, hm2⟩
          · exact ⟨o, kept b o hb e⟩
  cases hk : K.lookup a with
  | some o =>
    have e := KX a o hk
    rw [ha] at e
    cases e
    refine core (fun b => if b = Pt then some (.tbl #[]) else none) (if_pos rfl) (fun b => ?_) (.inr ⟨_, us.toArray, _, hk, rfl, rfl, rfl, by rw [List.size_toArray, ln]; exact hl, by simpa using rv⟩) (fun b u y => ?_) fun b y => ?_
    · by_cases hb : b = Pt
      · exact .inl hb
      · exact .inr (.inl (if_neg hb))
    · by_cases hb : b = Pt
      · have y2 := (if_pos hb).symm.trans y
        cases y2
        rw [hb]
        exact hT
      · exact nomatch (if_neg hb).symm.trans y
    · by_cases hb : b = Pt
      · exact .inl hb
      · exact absurd (if_neg hb) y
  | none =>
    refine core (fun b => if b = Pt then some (.tbl #[]) else if b = a then some (HO.frz { cls := .type "list", data := .seq us.toArray } (.lst (ns.map V.int))) else none) (if_pos rfl) (fun b => ?_) (.inl (.inr ⟨{ cls := .type "list", data := .seq us.toArray }, (if_neg nPa).trans (if_pos rfl)⟩)) (fun b u y => ?_) fun b y => ?_
    · by_cases hb : b = Pt
      · exact .inl hb
      · by_cases hb2 : b = a
        · exact .inr (.inr ⟨_, _, (if_neg hb).trans (if_pos hb2)⟩)
        · exact .inr (.inl ((if_neg hb).trans (if_neg hb2)))
    · by_cases hb : b = Pt
      · have y2 := (if_pos hb).symm.trans y
        cases y2
        rw [hb]
        exact hT
      · have y1 := (if_neg hb).symm.trans y
        by_cases hb2 : b = a
        · have y2 := (if_pos hb2).symm.trans y1
          cases y2
          subst hb2
          exact ⟨ha, by rw [List.length_map]; exact hl, us, _, rv, ha⟩
        · exact nomatch (if_neg hb2).symm.trans y1
    · by_cases hb : b = Pt
      · exact .inl hb
      · by_cases hb2 : b = a
        · exact .inr ⟨hb2, hk⟩
        · exact absurd ((if_neg hb).trans (if_neg hb2)) y
theorem walkGT {l : PySem.W.OpenLaw} {m n : Nat} {q : Program} {loose : List Str} {XP : (Str → Option Value) → Heap → Prop} {YP : World → Heap → Prop} {d : DefRec} {CX : World → CXT} {x : Str}
    (hm : l.most = some m) (hm2 : m ≤ sizeLine) (hdf : d.params.defaults = []) (hr : Room n callerA)
    (F : ∀ (w : World) (mg : Str → Option Value) (fa : Addr) (h : Heap), YP w h → h.Ns mainGlobals mg → mg d.name = some (.ref fa) →
      ∃ (K : PySem.W.Frag) (fd : FuncData) (sp : Sp) (c Pt : Addr), K.In h ∧ PySem.W.codeHdIn K c Pt = true ∧ h.get? Pt = some { cls := .none, data := .fields #[] } ∧ K.lookup Pt = none ∧ (∀ (s : Shared) (u : Value), BindsTo s fd ⟨[u], []⟩ [(x, u)]) ∧
        (∀ (H : Hp) (a : Addr) (ns : List Int), ns.length ≤ m → H Pt = some (.tbl #[]) → SqL K H a (ns.map V.int) → sp [.ref a] H (fun v _ => v = .bl true) fun _ _ _ => False) ∧
        ∀ base : Heap, K.In base → base.Ns mainGlobals mg → LamX.TabB base mg c Pt → FnG true l.prog w K mg base (CX w) n fa fd [x] sp)
    (hCX : ∀ (w : World) (H : Hp) (s : Shared) (e : Value) (sz : Shared), CX w [] H s (fun _ _ _ => False) e sz → False) :
    PySem.W.WalkO q loose XP YP l.row.toRowW d [] (fun f vs => PySem.call f vs) := by
  refine Att.attach_callB hm hdf fun w s0 st mg mb fa o pm cd doc a us ns G Y ho hd hcd hmg hobj hints hlen hbits hg => ?_
  obtain ⟨K, fd, sp, c, Pt, KX, hh, hT, nT, bd, hsp, hF⟩ := F w mg fa _ Y G.T.g hmg
  exact lawGT KX G.T.g G.T.b G.T.builtins G.T.nolimit hg hh hT nT G.T.bmain hobj hints (Nat.le_trans hlen hm2) ⟨hr, fun _ => rfl⟩ hF bd (fun H hP hS => hsp H a ns hlen hP hS) fun H e sz => hCX w H st e sz
section
theorem law_facts {P : Program} {w : World} {K : PySem.W.Frag} {h : Heap} {mg : Str → Option Value} {f : Addr} (X : K.In h) (G : h.Ns mainGlobals mg) (hfa : mg ("law" : Str) = some (.ref f)) (c : obsX fa fn pr xb K = valX fn pr) :
    ∃ fd : FuncData, (∀ (s : Shared) (v : Value), BindsTo s fd ⟨[v], []⟩ [("_law_script", v)]) ∧ ∀ base : Heap, K.In base → base.Ns mainGlobals mg → LamX.TabB base mg (He.cT K refAt).1 (He.cT K refAt).2 → FnG true P w K mg base CX0 15 f fd ["_law_script"] (spLaw K) := by
  obtain ⟨c1, c2, c3⟩ := saysX c
  have T : Sy K mg := ⟨c1, c2, c3, h, X, G⟩
  obtain ⟨fd, F⟩ := F_law T
  have e := hfa.symm.trans (T.glo "law")
  cases e
  have b := FunD.bindsA (ps := ["_law_script"]) F fun _ _ _ _ _ _ us hl => match us, hl with | [_], _ => rfl
  exact ⟨fd, fun s v => b s [v] rfl, fun base _ _ TB => f_law T TB F⟩
end

end L77
open PySem PySem.W PySem.Calls PyProof.Rows
theorem PySem.Challenge.cw_exitstacks_k77_cycles_and_findings_holds : PySem.Challenge.rw_exitstacks_k77_cycles_and_findings.Holds := by
  w_on; o_law
  refine HandSHeadRun.head_any (r := OpenLaw.row PySem.Challenge.rw_exitstacks_k77_cycles_and_findings) (q := view (OpenLaw.row PySem.Challenge.rw_exitstacks_k77_cycles_and_findings).prog [47]) (H := L77.hk) (ob := L77.ob) (M := 6000) (loose := L77.loose) (d := HandSHeadRun.topDef (OpenLaw.row PySem.Challenge.rw_exitstacks_k77_cycles_and_findings).prog 47) (kwd := []) L77.ob_eq
    (by kernel_rfl) (fun s => by kernel_rfl) L77.run (by kernel_rfl) (by kernel_rfl) (by kernel_rfl) (by rfl) (by first | assumption | decide +kernel) (by decide +kernel) ⟨rfl, rfl, rfl, rfl, rfl, by decide +kernel⟩ ?hw ?hc
  case hw => w_witness2
  case hc =>
    refine L77.walkGT (l := PySem.Challenge.rw_exitstacks_k77_cycles_and_findings) (m := 63) (n := 15) (x := "_law_script") (CX := fun _ => L2.CX0) rfl (by decide) (by kernel_rfl) ⟨rfl, by decide, by decide⟩ ?F (fun _ _ _ _ _ z => z)
    intro w mg fa h Y G hmg0
    obtain ⟨K, KX, c, t⟩ := Y
    have hmg : mg ("law" : PySem.Str) = some (.ref fa) := by
      have e : (HandSHeadRun.topDef (OpenLaw.row PySem.Challenge.rw_exitstacks_k77_cycles_and_findings).prog 47).name = ("law" : PySem.Str) := by kernel_rfl
      rw [← e]
      exact hmg0
    obtain ⟨fd, hb, hF⟩ := L77.law_facts (P := (PySem.Challenge.rw_exitstacks_k77_cycles_and_findings).prog) (w := w) KX G hmg c
    have hm : L77.refAt ∈ L77.tf := List.mem_singleton.mpr rfl
    refine ⟨K, fd, L77.spLaw K, _, _, KX, t.hd _ hm, t.empty _ hm, t.out _ hm, hb, fun H a ns hl hP hS => ⟨_, rfl, a, ns, rfl, hS, hl, fun p hp => ?_, fun _ => rfl⟩, hF⟩
    rw [List.mem_singleton.mp hp]
    exact LamX.TabS.nil hP
