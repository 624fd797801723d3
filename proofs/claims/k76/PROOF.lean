import PyProof.Rows.All
import Wide.All
import OpenK.AllK
import Wide.FinOn
import KE.KStateDown
import HandS.ForMost
import HandS.More
import HandS.Defaults
import HandS.Head0
import HandS.Head1
import HandS.Head2
import HandS.HeadEnd
import HandS.HeadHook1
import HandS.HeadHook2
import HandS.Property
import HandS.Exc
import HandS.ExcInit
import HandS.ExcOwn
import HandS.TryOnly
import HandS.ExcField
import KE.KExcInit
import OpenK.KCls
import PySem.Challenge.RW_exitstacks_k76_spans_and_crossings
import HandS.Wide
import HandS.EndBits
import HandS.TupAny
import HandS.TupMul
import HandS.IsInst
import HandS.Deep
import HandS.Style
import HandS.Remove
import KE.KUnpackStar
import HandS.Walk
import HandS.SortInts
import HandS.SortRule
import HandS.SetFor
import HandS.Star
import PyProof.ReprRoads
import PyProof.ReprBulk
import PyProof.Rows.ReprShort
import KE.GoesEnum
import KE.KIndexOf
import PyProof.IsInstance
import HandS.WordsExc
import HandS.GenList
import KE.GoesMore
import PyProof.RangeIter
set_option Elab.async false
set_option linter.all false
set_option maxRecDepth 100000
set_option maxHeartbeats 4000000
namespace L76
open PySem PySem.Spec PyProof.Rows L2
def top (i : Nat) : Stmt := PySem.Challenge.pw_exitstacks_k76_spans_and_crossings.main.body.getD i (.Pass ⟨0, 0, 0, 0⟩)
def dG (x : Str) (i : Nat) : He.DefD := ⟨(x, none), x, x, defArgs (top i), defBody (top i), defScope (top i), [], []⟩
def dM (c x q : Str) (i j : Nat) : He.DefD := ⟨(c, some x), x, q, defArgs (inClass (top i) j), defBody (inClass (top i) j), defScope (inClass (top i) j), [], []⟩
def fn : List He.DefD := ([dM "BadLog" "__init__" "BadLog.__init__" 2 0, dM "NoPlace" "__init__" "NoPlace.__init__" 4 0, dG "is_letter" 8, dG "is_kind" 9, dG "is_label" 10, dG "s7_is_number" 14, dG "s7_is_name" 15, dG "s7_is_plain" 16, dG "s7_is_shown" 17, dG "s7_is_word" 18, dG "is_event" 19, dG "check_log" 20, dM "Watcher" "__init__" "Watcher.__init__" 21 0, dM "Watcher" "__call__" "Watcher.__call__" 21 1, dG "spans" 22] : List He.DefD) ++ ([dG "never_shut" 23, dG "most_open" 24, dG "crossings" 25, dG "flaws" 26, dG "notes_within" 27, dG "_law_mixed" 29, dG "_law_draw" 30, dG "_law_digit" 31, dG "_law_log" 32, dG "_law_states" 33, dG "_law_flaws" 34, dG "_law_spans" 35, dG "_law_crossings" 36, dG "_law_notes_right" 37, dG "_law_watched_right" 38] : List He.DefD) ++ ([dG "law" 39] : List He.DefD)
def fa : List He.Fa := ([.glo "ModelError", .glo "BadLog", .glo "Absent", .glo "NoPlace", .int "MOST_LETTERS" 12, .int "MOST_LABEL" 40, .glo "is_letter", .glo "is_kind", .glo "is_label", .int "MOST_NAME" 8, .int "MOST_VALUE" 1000000000, .glo "s7_is_number", .glo "s7_is_name", .glo "s7_is_plain", .glo "s7_is_shown"] : List He.Fa) ++ ([.glo "s7_is_word", .glo "is_event", .glo "check_log", .glo "Watcher", .cls "Watcher", .mkr "Watcher", .noat "Watcher" "s7_seen", .noat "Watcher" "s7_opened", .noat "Watcher" "s7_made", .noat "Watcher" "s7_open", .noat "Watcher" "s7_most", .meth "Watcher" "__init__", .meth "Watcher" "__call__", .glo "spans", .glo "never_shut"] : List He.Fa) ++ ([.glo "most_open", .glo "crossings", .glo "flaws", .glo "notes_within", .glo "_law_mixed", .glo "_law_draw", .glo "_law_digit", .glo "_law_log", .glo "_law_states", .glo "_law_flaws", .glo "_law_spans", .glo "_law_crossings", .glo "_law_notes_right", .glo "_law_watched_right", .glo "law"] : List He.Fa) ++ ([.free "ValueError", .free "LookupError", .free "property", .free "all", .free "isinstance", .free "int", .free "enumerate", .free "range", .free "sorted", .free "bool", .free "tuple", .free "str", .free "list", .free "len", .free "max"] : List He.Fa) ++ ([.free "repr", .free "zip", .free "sum", .free "ord", .free "min"] : List He.Fa)
abbrev R : PySem.W.OpenRow := PySem.W.OpenLaw.row PySem.Challenge.rw_exitstacks_k76_spans_and_crossings
/-! the head's facts: properties and more -/
def pgA (K : PySem.W.Frag) (c f : Str) : Addr := match PySem.W.recIn K (He.ma K (He.ga K c) f) "property" with
  | some (.ref g :: _) => g
  | _ => 0
def fnWA (K : PySem.W.Frag) (a : Addr) : He.FnW := match K.lookup a with
  | some ⟨_, _, .func fd, _⟩ => some (fd.name, fd.qualname, fd.params, fd.body, fd.scope, fd.globals, fd.closure, fd.builtins)
  | _ => none
/-- a property of a class: its getter's text -/
structure PrD where
  c : Str
  f : Str
  d : He.DefD
def PrD.ok (K : PySem.W.Frag) (p : PrD) : Bool := He.eqO (PySem.W.findIn K (.ref (He.ga K p.c)) p.f) (some (some (.ref (He.ma K (He.ga K p.c) p.f)))) &&
  (He.eqO (PySem.W.specialIn K (.ref (He.ma K (He.ga K p.c) p.f)) "__get__") (some (some (.builtin "property.__get__"))) &&
  (decide (PySem.W.takesIn K (.ref (He.ma K (He.ga K p.c) p.f)) = some true) &&
  ((match PySem.W.recIn K (He.ma K (He.ga K p.c) p.f) "property" with | some (.ref _ :: _) => true | _ => false) &&
  (PySem.W.keepIn K (.ref (pgA K p.c p.f)) && (match K.lookup (pgA K p.c p.f) with
  | some ⟨_, _, .func fd, _⟩ => PySem.W.codeIn K fd.code p.d.qual && (He.dflB K fd.defaults (p.d.dvs K) && He.kwdB K fd.kwdefaults (p.d.kws K))
  | _ => false)))))
def PrD.val (p : PrD) : He.FnW := p.d.val
theorem funDA {K : PySem.W.Frag} {d : He.DefD} {a : Addr} (e : fnWA K a = d.val) (kp : PySem.W.keepIn K (.ref a) = true) (c2 : (match K.lookup a with
  | some ⟨_, _, .func fd, _⟩ => PySem.W.codeIn K fd.code d.qual && (He.dflB K fd.defaults (d.dvs K) && He.kwdB K fd.kwdefaults (d.kws K))
  | _ => false) = true) : ∃ fd, FunD K d.name d.qual d.params d.body d.scope (d.dvs K) (d.kws K) a fd := by
  unfold fnWA at e
  cases q : K.lookup a with
  | none =>
    rw [q] at c2
    cases c2
  | some o =>
    obtain ⟨oc, od, dt, osl⟩ := o
    rw [q] at c2 e
    cases dt with
    | func fd =>
      obtain ⟨n1, n2, n3, n4, n5, n6, n7, n8, n9, n10, n11, n12, n13, n14, n15⟩ := fd
      have e2 : (some (n1, n2, n3, n4, n5, n6, n7, n15) : He.FnW) = some (d.name, d.qual, d.params, .stmts d.body, d.scope, mainGlobals, [], builtinsNs) := e
      simp only [Option.some.injEq, Prod.mk.injEq] at e2
      obtain ⟨h1, h2, h3, h4, h5, h6, h7, h8⟩ := e2
      subst h1 h2 h3 h4 h5 h6 h7 h8
      obtain ⟨k1, k2⟩ := He.ba (show (PySem.W.codeIn K n13 d.qual && (He.dflB K n8 (d.dvs K) && He.kwdB K n9 (d.kws K))) = true from c2)
      obtain ⟨k3, k4⟩ := He.ba k2
      exact ⟨_, ⟨oc, od, n8, n9, n10, n11, n12, n13, n14, osl, rfl, q, k1, He.dflB_ok k3, He.kwdB_ok k4⟩, kp⟩
    | _ => cases c2
abbrev AlX : Type := He.AlD × (Bool × List He.FnW)
def obsX (fa : List He.Fa) (fn : List He.DefD) (pr : List PrD) (xb : PySem.W.Frag → Bool) (K : PySem.W.Frag) : AlX := (He.obsD fa fn K, ((pr.all fun p : PrD => p.ok K) && xb K, pr.map fun p : PrD => fnWA K (pgA K p.c p.f)))
def valX (fn : List He.DefD) (pr : List PrD) : AlX := (He.valD fn, (true, pr.map PrD.val))
def obsXG (n : Nat) (fa : List He.Fa) (fn : List He.DefD) (pr : List PrD) (xb : PySem.W.Frag → Bool) (g : Addr → Option Obj) : AlX := obsX fa fn pr xb (He.frG g (cStatics :: He.asD g n))
def hookX (n : Nat) (fa : List He.Fa) (fn : List He.DefD) (pr : List PrD) (xb : PySem.W.Frag → Bool) : PySem.W.Hook where
  α := AlX
  obs := fun s => obsXG n fa fn pr xb s.heap.get?
  val := fun _ => valX fn pr
  says := fun _ h => ∃ K : PySem.W.Frag, K.In h ∧ obsX fa fn pr xb K = valX fn pr
  of := fun _ _ e => ⟨_, He.frG_in, e⟩
  keeps := fun _ _ _ ⟨K, hK, c⟩ k => ⟨K, PySem.W.Frag.In.keeps hK k, c⟩
theorem obsXG_eq {n : Nat} {fa : List He.Fa} {fn : List He.DefD} {pr : List PrD} {xb : PySem.W.Frag → Bool} {g : Addr → Option Obj} {s : Shared} (h : ∀ a, g a = s.heap.get? a) : obsXG n fa fn pr xb g = (hookX n fa fn pr xb).obs s := by
  have e : g = s.heap.get? := funext h
  rw [e] <;> rfl
theorem saysX {fa : List He.Fa} {fn : List He.DefD} {pr : List PrD} {xb : PySem.W.Frag → Bool} {K : PySem.W.Frag} (c : obsX fa fn pr xb K = valX fn pr) : He.SaysD fa fn K ∧ xb K = true ∧
    ∀ (i : Nat) (p : PrD), pr[i]? = some p → PropOf K (He.ga K p.c) p.f (He.ma K (He.ga K p.c) p.f) (pgA K p.c p.f) ∧ ∃ fd, FunD K p.d.name p.d.qual p.d.params p.d.body p.d.scope (p.d.dvs K) (p.d.kws K) (pgA K p.c p.f) fd := by
  have c1 : He.obsD fa fn K = He.valD fn := congrArg (fun z : AlX => z.1) c
  have c2 : ((pr.all fun p : PrD => p.ok K) && xb K) = true := congrArg (fun z : AlX => z.2.1) c
  have c3 : (pr.map fun p : PrD => fnWA K (pgA K p.c p.f)) = pr.map PrD.val := congrArg (fun z : AlX => z.2.2) c
  obtain ⟨k1, k2⟩ := He.ba c2
  refine ⟨c1, k2, fun i p hp => ?_⟩
  have k := List.all_eq_true.mp k1 p (List.mem_of_getElem? hp)
  unfold PrD.ok at k
  obtain ⟨a1, k⟩ := He.ba k
  obtain ⟨a2, k⟩ := He.ba k
  obtain ⟨a3, k⟩ := He.ba k
  obtain ⟨a4, k⟩ := He.ba k
  obtain ⟨a5, a6⟩ := He.ba k
  have e2 : (pr.map fun p : PrD => fnWA K (pgA K p.c p.f))[i]? = (pr.map PrD.val)[i]? := by rw [c3]
  rw [List.getElem?_map, List.getElem?_map, hp] at e2
  refine ⟨⟨He.eqO_ok a1, He.eqO_ok a2, of_decide_eq_true a3, ?_⟩, funDA (Option.some.inj e2) a5 a6⟩
  unfold pgA
  split at a4
  · rename_i g rest hq
    rw [hq]
    exact ⟨rest, rfl⟩
  · cases a4
/-! own exceptions with an __init__ that calls its base's -/
/-- the class object at C is an exception's over ValueError -/
def oexB (K : PySem.W.Frag) (C : Addr) : Bool := match K.lookup C with
  | some ⟨.type "type", _, .cls cd, ⟨[_, _, _, _, some (.builtin n), _]⟩⟩ => (match cd.mro with
    | .ref C' :: bm => C' == C && (n == "ValueError.__new__" && (!cd.hasDel && (cd.hasDict && PySem.HandSPX.refsVE bm)))
    | _ => false)
  | _ => false
theorem oexB_ok {K : PySem.W.Frag} {C : Addr} (h : oexB K C = true) : ∃ nm q N bs bm sn sub ab col dd k0 k1 k2 k3 k5, K.lookup C = some (excClassObj nm q C N bs bm true sn sub ab col dd k0 k1 k2 k3 k5 "ValueError.__new__") ∧ PySem.HandSPX.refsVE bm = true := by
  unfold oexB at h
  split at h
  · rename_i dd cd k0 k1 k2 k3 n k5 ho
    split at h
    · rename_i C' bm hm
      simp only [Bool.and_eq_true, beq_iff_eq, Bool.not_eq_true'] at h
      obtain ⟨rfl, rfl, h1, h2, h3⟩ := h
      obtain ⟨nm, bs, mro, N, q, hd, sn, sub, ab, col, hdel⟩ := cd
      simp only at hm h1 h2
      subst hm h1 h2
      exact ⟨nm, q, N, bs, bm, sn, sub, ab, col, dd, k0, k1, k2, k3, k5, ho, h3⟩
    · cases h
  · cases h
/-- the facts of such a class, its attribute's name f -/
def exB (K : PySem.W.Frag) (c f : Str) : Bool := oexB K (He.ga K c) && (He.eqO (PySem.W.findIn K (.ref (He.ga K c)) "__setattr__") (some (some (.builtin "object.__setattr__"))) && (decide (PySem.W.subIn K (.ref (He.ga K c)) (.type "BaseException") = some true) &&
  (decide (PySem.W.typeIn K (.ref (He.ga K c)) = some (.type "type")) && (PySem.W.keepIn K (.ref (He.ga K c)) && (He.eqO (PySem.W.findIn K (.ref (He.ga K c)) "__init__") (some (some (.ref (He.ma K (He.ga K c) "__init__")))) &&
  (decide (PySem.W.typeIn K (.ref (He.ma K (He.ga K c) "__init__")) = some (.type "function")) && He.eqO (PySem.W.findIn K (.ref (He.ga K c)) f) (some none)))))))
structure ExC (K : PySem.W.Frag) (c f : Str) : Prop where
  o : OexC K (He.ga K c)
  i : PySem.W.findIn K (.ref (He.ga K c)) "__init__" = some (some (.ref (He.ma K (He.ga K c) "__init__")))
  t : PySem.W.typeIn K (.ref (He.ma K (He.ga K c) "__init__")) = some (.type "function")
  n : PySem.W.findIn K (.ref (He.ga K c)) f = some none
theorem exB_ok {K : PySem.W.Frag} {c f : Str} (h : exB K c f = true) : ExC K c f := by
  unfold exB at h
  obtain ⟨a1, h⟩ := He.ba h
  obtain ⟨a2, h⟩ := He.ba h
  obtain ⟨a3, h⟩ := He.ba h
  obtain ⟨a4, h⟩ := He.ba h
  obtain ⟨a5, h⟩ := He.ba h
  obtain ⟨a6, h⟩ := He.ba h
  obtain ⟨a7, a8⟩ := He.ba h
  exact ⟨⟨oexB_ok a1, He.eqO_ok a2, of_decide_eq_true a3, of_decide_eq_true a4, a5⟩, He.eqO_ok a6, of_decide_eq_true a7, He.eqO_ok a8⟩
/-- the class named m has ValueError's __init__ -/
def viB (K : PySem.W.Frag) (m : Str) : Bool := decide (PySem.W.specialIn K (.ref (He.ga K m)) "__getattribute__" = some (some (.builtin "type.__getattribute__"))) && (PySem.W.readsIn K (He.ga K m) (.type "type") &&
  (match PySem.W.findCls K (.ref (He.ga K m)) (.type "type") "__init__" with | some (.val (.builtin n)) => n == "ValueError.__init__" | _ => false))
structure ViC (K : PySem.W.Frag) (m : Str) : Prop where
  g : PySem.W.specialIn K (.ref (He.ga K m)) "__getattribute__" = some (some (.builtin "type.__getattribute__"))
  r : PySem.W.readsIn K (He.ga K m) (.type "type") = true
  f : PySem.W.findCls K (.ref (He.ga K m)) (.type "type") "__init__" = some (.val (.builtin "ValueError.__init__"))
theorem viB_ok {K : PySem.W.Frag} {m : Str} (h : viB K m = true) : ViC K m := by
  unfold viB at h
  obtain ⟨a1, h⟩ := He.ba h
  obtain ⟨a2, a3⟩ := He.ba h
  refine ⟨of_decide_eq_true a1, a2, ?_⟩
  split at a3
  · rename_i n hn
    rw [hn, beq_iff_eq.mp a3]
  · cases a3
/-- what the written part says of such a class -/
structure OexT (K : PySem.W.Frag) (C : Addr) (B newId initId : String) (bmB : List Value) : Prop where
  F : ExcBaseFacts B newId initId bmB
  SF : StoreFacts B bmB "object.__setattr__" "object"
  q : PySem.W.excInitIn K C bmB newId = true
  ov : PySem.W.excOver K C bmB = true
  hd : PySem.W.hasDictIn K C = true
  sa : PySem.W.findIn K (.ref C) "__setattr__" = some (some (.builtin "object.__setattr__"))
  exC : PySem.W.subIn K (.ref C) (.type "BaseException") = some true
  tyC : PySem.W.typeIn K (.ref C) = some (.type "type")
  kC : PySem.W.keepIn K (.ref C) = true
/-- M.__init__(self, ..), M over the base -/
structure BiC (K : PySem.W.Frag) (m : Str) (initId : String) : Prop where
  g : PySem.W.specialIn K (.ref (He.ga K m)) "__getattribute__" = some (some (.builtin "type.__getattribute__"))
  r : PySem.W.readsIn K (He.ga K m) (.type "type") = true
  f : PySem.W.findCls K (.ref (He.ga K m)) (.type "type") "__init__" = some (.val (.builtin initId))
def leB : List Value := [.type "LookupError", .type "Exception", .type "BaseException", .type "object"]
/-- the facts of an own class over LookupError whose __init__ lays the attribute f -/
def exTB (K : PySem.W.Frag) (c f : Str) : Bool := PySem.W.excInitIn K (He.ga K c) leB "LookupError.__new__" && (PySem.W.excOver K (He.ga K c) leB && (PySem.W.hasDictIn K (He.ga K c) && (He.eqO (PySem.W.findIn K (.ref (He.ga K c)) "__setattr__") (some (some (.builtin "object.__setattr__"))) &&
  (decide (PySem.W.subIn K (.ref (He.ga K c)) (.type "BaseException") = some true) && (decide (PySem.W.typeIn K (.ref (He.ga K c)) = some (.type "type")) && (PySem.W.keepIn K (.ref (He.ga K c)) &&
  (He.eqO (PySem.W.findIn K (.ref (He.ga K c)) "__init__") (some (some (.ref (He.ma K (He.ga K c) "__init__")))) && (decide (PySem.W.typeIn K (.ref (He.ma K (He.ga K c) "__init__")) = some (.type "function")) &&
  (He.eqO (PySem.W.takerIn K (He.ga K c) f) (some none) && He.eqO (PySem.W.findIn K (.ref (He.ga K c)) f) (some none))))))))))
structure ExT (K : PySem.W.Frag) (c f : Str) : Prop where
  o : OexT K (He.ga K c) "LookupError" "LookupError.__new__" "LookupError.__init__" leB
  i : PySem.W.findIn K (.ref (He.ga K c)) "__init__" = some (some (.ref (He.ma K (He.ga K c) "__init__")))
  t : PySem.W.typeIn K (.ref (He.ma K (He.ga K c) "__init__")) = some (.type "function")
  tk : PySem.W.takerIn K (He.ga K c) f = some none
  n : PySem.W.findIn K (.ref (He.ga K c)) f = some none
theorem exTB_ok {K : PySem.W.Frag} {c f : Str} (h : exTB K c f = true) : ExT K c f := by
  unfold exTB at h
  obtain ⟨a1, h⟩ := He.ba h
  obtain ⟨a2, h⟩ := He.ba h
  obtain ⟨a3, h⟩ := He.ba h
  obtain ⟨a4, h⟩ := He.ba h
  obtain ⟨a5, h⟩ := He.ba h
  obtain ⟨a6, h⟩ := He.ba h
  obtain ⟨a7, h⟩ := He.ba h
  obtain ⟨a8, h⟩ := He.ba h
  obtain ⟨a9, h⟩ := He.ba h
  obtain ⟨b1, b2⟩ := He.ba h
  exact ⟨⟨F.excBase_LookupError, F.store_LookupError, a1, a2, a3, He.eqO_ok a4, of_decide_eq_true a5, of_decide_eq_true a6, a7⟩, He.eqO_ok a8, of_decide_eq_true a9, He.eqO_ok b1, He.eqO_ok b2⟩
def biB (K : PySem.W.Frag) (m : Str) (initId : String) : Bool := decide (PySem.W.specialIn K (.ref (He.ga K m)) "__getattribute__" = some (some (.builtin "type.__getattribute__"))) && (PySem.W.readsIn K (He.ga K m) (.type "type") &&
  (match PySem.W.findCls K (.ref (He.ga K m)) (.type "type") "__init__" with | some (.val (.builtin n)) => n == initId | _ => false))
theorem biB_ok {K : PySem.W.Frag} {m : Str} {initId : String} (h : biB K m initId = true) : BiC K m initId := by
  unfold biB at h
  obtain ⟨a1, h⟩ := He.ba h
  obtain ⟨a2, a3⟩ := He.ba h
  refine ⟨of_decide_eq_true a1, a2, ?_⟩
  split at a3
  · rename_i n hn
    rw [hn, beq_iff_eq.mp a3]
  · cases a3

def pr : List PrD := ([⟨"Watcher", "seen", dM "Watcher" "seen" "Watcher.seen" 21 2⟩, ⟨"Watcher", "now_open", dM "Watcher" "now_open" "Watcher.now_open" 21 3⟩, ⟨"Watcher", "open_at_most", dM "Watcher" "open_at_most" "Watcher.open_at_most" 21 4⟩] : List PrD)
def xb : PySem.W.Frag → Bool := fun K => exB K "BadLog" "index" && (viB K "ModelError" && (xfB K (He.ga K "BadLog") && (decide (PySem.W.exmOne K (.ref (He.ga K "BadLog")) (.ref (He.ga K "ModelError")) = some true) && (exTB K "NoPlace" "index" && (biB K "Absent" "LookupError.__init__" && (xfB K (He.ga K "NoPlace") && decide (PySem.W.exmOne K (.ref (He.ga K "NoPlace")) (.ref (He.ga K "Absent")) = some true)))))))
abbrev hk : PySem.W.Hook := hookX 5 fa fn pr xb
def ob (s : PySem.W.SharedT) : AlX := obsXG 5 fa fn pr xb (HandSHeadRun.getT s)
theorem ob_eq (s : PySem.W.SharedT) : ob s = hk.obs s.abs := obsXG_eq (HandSHeadRun.getT_eq s)
def loose : List Str := (["Absent", "BadLog", "MOST_LABEL", "MOST_LETTERS", "MOST_NAME", "MOST_VALUE", "ModelError", "NoPlace", "Watcher", "_law_crossings", "_law_digit", "_law_draw", "_law_flaws", "_law_log", "_law_mixed"] : List Str) ++ (["_law_notes_right", "_law_spans", "_law_states", "_law_watched_right", "check_log", "crossings", "flaws", "is_event", "is_kind", "is_label", "is_letter", "most_open", "never_shut", "notes_within", "s7_is_name"] : List Str) ++ (["s7_is_number", "s7_is_plain", "s7_is_shown", "s7_is_word", "spans"] : List Str)
theorem run (w : World) : HandSHeadRun.RunEq R (PySem.W.view R.prog [39]) hk ob 4000 loose w := by
  intro os
  kernel_rfl
structure Sy (K : PySem.W.Frag) (mg : Str → Option Value) : Prop where
  s : He.SaysD fa fn K
  b : xb K = true
  p : ∀ (i : Nat) (p : PrD), pr[i]? = some p → PropOf K (He.ga K p.c) p.f (He.ma K (He.ga K p.c) p.f) (pgA K p.c p.f) ∧ ∃ fd, FunD K p.d.name p.d.qual p.d.params p.d.body p.d.scope (p.d.dvs K) (p.d.kws K) (pgA K p.c p.f) fd
  x : ∃ h : Heap, K.In h ∧ h.Ns mainGlobals mg
def FDx (K : PySem.W.Frag) (d : He.DefD) : Prop := ∃ fd, FunD K d.name d.qual d.params d.body d.scope [] [] (He.fAd K d.at_) fd
section
variable {K : PySem.W.Frag} {mg : Str → Option Value}
theorem F_BadLog___init__ (T : Sy K mg) : FDx K (dM "BadLog" "__init__" "BadLog.__init__" 2 0) := T.s.def_ 0 (d := dM "BadLog" "__init__" "BadLog.__init__" 2 0) rfl
theorem F_NoPlace___init__ (T : Sy K mg) : FDx K (dM "NoPlace" "__init__" "NoPlace.__init__" 4 0) := T.s.def_ 1 (d := dM "NoPlace" "__init__" "NoPlace.__init__" 4 0) rfl
theorem F_is_letter (T : Sy K mg) : FDx K (dG "is_letter" 8) := T.s.def_ 2 (d := dG "is_letter" 8) rfl
theorem F_is_kind (T : Sy K mg) : FDx K (dG "is_kind" 9) := T.s.def_ 3 (d := dG "is_kind" 9) rfl
theorem F_is_label (T : Sy K mg) : FDx K (dG "is_label" 10) := T.s.def_ 4 (d := dG "is_label" 10) rfl
theorem F_s7_is_number (T : Sy K mg) : FDx K (dG "s7_is_number" 14) := T.s.def_ 5 (d := dG "s7_is_number" 14) rfl
theorem F_s7_is_name (T : Sy K mg) : FDx K (dG "s7_is_name" 15) := T.s.def_ 6 (d := dG "s7_is_name" 15) rfl
theorem F_s7_is_plain (T : Sy K mg) : FDx K (dG "s7_is_plain" 16) := T.s.def_ 7 (d := dG "s7_is_plain" 16) rfl
theorem F_s7_is_shown (T : Sy K mg) : FDx K (dG "s7_is_shown" 17) := T.s.def_ 8 (d := dG "s7_is_shown" 17) rfl
theorem F_s7_is_word (T : Sy K mg) : FDx K (dG "s7_is_word" 18) := T.s.def_ 9 (d := dG "s7_is_word" 18) rfl
theorem F_is_event (T : Sy K mg) : FDx K (dG "is_event" 19) := T.s.def_ 10 (d := dG "is_event" 19) rfl
theorem F_check_log (T : Sy K mg) : FDx K (dG "check_log" 20) := T.s.def_ 11 (d := dG "check_log" 20) rfl
theorem F_Watcher___init__ (T : Sy K mg) : FDx K (dM "Watcher" "__init__" "Watcher.__init__" 21 0) := T.s.def_ 12 (d := dM "Watcher" "__init__" "Watcher.__init__" 21 0) rfl
theorem F_Watcher___call__ (T : Sy K mg) : FDx K (dM "Watcher" "__call__" "Watcher.__call__" 21 1) := T.s.def_ 13 (d := dM "Watcher" "__call__" "Watcher.__call__" 21 1) rfl
theorem F_spans (T : Sy K mg) : FDx K (dG "spans" 22) := T.s.def_ 14 (d := dG "spans" 22) rfl
theorem F_never_shut (T : Sy K mg) : FDx K (dG "never_shut" 23) := T.s.def_ 15 (d := dG "never_shut" 23) rfl
theorem F_most_open (T : Sy K mg) : FDx K (dG "most_open" 24) := T.s.def_ 16 (d := dG "most_open" 24) rfl
theorem F_crossings (T : Sy K mg) : FDx K (dG "crossings" 25) := T.s.def_ 17 (d := dG "crossings" 25) rfl
theorem F_flaws (T : Sy K mg) : FDx K (dG "flaws" 26) := T.s.def_ 18 (d := dG "flaws" 26) rfl
theorem F_notes_within (T : Sy K mg) : FDx K (dG "notes_within" 27) := T.s.def_ 19 (d := dG "notes_within" 27) rfl
theorem F_law_mixed (T : Sy K mg) : FDx K (dG "_law_mixed" 29) := T.s.def_ 20 (d := dG "_law_mixed" 29) rfl
theorem F_law_draw (T : Sy K mg) : FDx K (dG "_law_draw" 30) := T.s.def_ 21 (d := dG "_law_draw" 30) rfl
theorem F_law_digit (T : Sy K mg) : FDx K (dG "_law_digit" 31) := T.s.def_ 22 (d := dG "_law_digit" 31) rfl
theorem F_law_log (T : Sy K mg) : FDx K (dG "_law_log" 32) := T.s.def_ 23 (d := dG "_law_log" 32) rfl
theorem F_law_states (T : Sy K mg) : FDx K (dG "_law_states" 33) := T.s.def_ 24 (d := dG "_law_states" 33) rfl
theorem F_law_flaws (T : Sy K mg) : FDx K (dG "_law_flaws" 34) := T.s.def_ 25 (d := dG "_law_flaws" 34) rfl
theorem F_law_spans (T : Sy K mg) : FDx K (dG "_law_spans" 35) := T.s.def_ 26 (d := dG "_law_spans" 35) rfl
theorem F_law_crossings (T : Sy K mg) : FDx K (dG "_law_crossings" 36) := T.s.def_ 27 (d := dG "_law_crossings" 36) rfl
theorem F_law_notes_right (T : Sy K mg) : FDx K (dG "_law_notes_right" 37) := T.s.def_ 28 (d := dG "_law_notes_right" 37) rfl
theorem F_law_watched_right (T : Sy K mg) : FDx K (dG "_law_watched_right" 38) := T.s.def_ 29 (d := dG "_law_watched_right" 38) rfl
theorem F_law (T : Sy K mg) : FDx K (dG "law" 39) := T.s.def_ 30 (d := dG "law" 39) rfl
end
end L76
namespace L76
open PySem PySem.Spec PyProof.Rows L2
variable {gd : Bool}
def isFree (x : Str) : He.Fa → Bool | .free y => decide (y = x) | _ => false
def isGlo (x : Str) : He.Fa → Bool | .glo y => decide (y = x) | _ => false
def isIntF (x : Str) (i : Int) : He.Fa → Bool | .int y j => decide (y = x) && decide (j = i) | _ => false
def isCls (x : Str) : He.Fa → Bool | .cls y => decide (y = x) | _ => false
def isMkr (x : Str) : He.Fa → Bool | .mkr y => decide (y = x) | _ => false
def isNoat (x f : Str) : He.Fa → Bool | .noat y g => decide (y = x) && decide (g = f) | _ => false
def isMeth (x f : Str) : He.Fa → Bool | .meth y g => decide (y = x) && decide (g = f) | _ => false
section
variable {P : Program} {w : World} {K : PySem.W.Frag} {mg : Str → Option Value} {base : Heap}
theorem Sy.fact (T : Sy K mg) {f : He.Fa} (h : f ∈ fa) : f.ok K = true := by
  obtain ⟨i, hi⟩ := List.getElem?_of_mem h
  exact T.s.fact i hi
theorem Sy.free (T : Sy K mg) (x : Str) (h : fa.any (isFree x) = true := by decide +kernel) : mg x = none := by
  obtain ⟨f, hf, e⟩ := List.any_eq_true.mp h
  obtain ⟨_, X, G⟩ := T.x
  cases f <;> first | (have e2 := of_decide_eq_true e; subst e2; exact He.free_ok X G (T.fact hf)) | exact Bool.noConfusion e
theorem Sy.glo (T : Sy K mg) (x : Str) (h : fa.any (isGlo x) = true := by decide +kernel) : mg x = some (.ref (He.ga K x)) := by
  obtain ⟨f, hf, e⟩ := List.any_eq_true.mp h
  obtain ⟨_, X, G⟩ := T.x
  cases f <;> first | (have e2 := of_decide_eq_true e; subst e2; exact He.glo_ok X G (T.fact hf)) | exact Bool.noConfusion e
theorem Sy.int (T : Sy K mg) (x : Str) (j : Int) (h : fa.any (isIntF x j) = true := by decide +kernel) : ∃ t, mg x = some (.int j t) := by
  obtain ⟨f, hf, e⟩ := List.any_eq_true.mp h
  obtain ⟨_, X, G⟩ := T.x
  cases f <;> first | (have e2 := Bool.and_eq_true_iff.mp e; have e3 := of_decide_eq_true e2.1; have e4 := of_decide_eq_true e2.2; subst e3 e4; exact He.int_ok X G (T.fact hf)) | exact Bool.noConfusion e
theorem Sy.cls (T : Sy K mg) (x : Str) (h : fa.any (isCls x) = true := by decide +kernel) : Cls K (He.ga K x) := by
  obtain ⟨f, hf, e⟩ := List.any_eq_true.mp h
  cases f <;> first | (have e2 := of_decide_eq_true e; subst e2; exact He.cls_ok (T.fact hf)) | exact Bool.noConfusion e
theorem Sy.mkr (T : Sy K mg) (x : Str) (h : fa.any (isMkr x) = true := by decide +kernel) : Mk K (He.ga K x) (He.ma K (He.ga K x) "__init__") := by
  obtain ⟨f, hf, e⟩ := List.any_eq_true.mp h
  cases f <;> first | (have e2 := of_decide_eq_true e; subst e2; exact He.mkr_ok (T.fact hf)) | exact Bool.noConfusion e
theorem Sy.noat (T : Sy K mg) (x f : Str) (h : fa.any (isNoat x f) = true := by decide +kernel) : NoAttr K (He.ga K x) f := by
  obtain ⟨g, hf, e⟩ := List.any_eq_true.mp h
  cases g <;> first | (have e2 := Bool.and_eq_true_iff.mp e; have e3 := of_decide_eq_true e2.1; have e4 := of_decide_eq_true e2.2; subst e3 e4; exact He.noat_ok (T.fact hf)) | exact Bool.noConfusion e
theorem Sy.meth (T : Sy K mg) (x f : Str) (h : fa.any (isMeth x f) = true := by decide +kernel) : Meth K (He.ga K x) f (He.ma K (He.ga K x) f) := by
  obtain ⟨g, hf, e⟩ := List.any_eq_true.mp h
  cases g <;> first | (have e2 := Bool.and_eq_true_iff.mp e; have e3 := of_decide_eq_true e2.1; have e4 := of_decide_eq_true e2.2; subst e3 e4; exact He.meth_ok (T.fact hf)) | exact Bool.noConfusion e
end
/-! the readings, step by step -/
section
variable {K : PySem.W.Frag} {σ : L2.St} {H : Hp} {Q : VK} {D : Ends} {ta tb tc te : TE} {tt uu : TT} {ts us : TS} {tl : TA} {i : Nat} {v x y : V} {g : TG}
theorem tVar_i (h : σ[i]? = some (some v)) (q : Q v H) : tVar i σ H Q := ⟨v, h, q⟩
theorem tC_i (q : Q v H) : tC v σ H Q := q
theorem tOp_i {r : R2} (q : ta σ H fun x H1 => tb σ H1 fun y H2 => r x y H2 Q) : tOp r ta tb σ H Q := q
theorem tUn_i {r : V → Hp → VK → Prop} (q : ta σ H fun x H1 => r x H1 Q) : tUn r ta σ H Q := q
theorem tNil_i {Q : List V → Hp → Prop} (q : Q [] H) : tNil σ H Q := q
theorem tCons_i {Q : List V → Hp → Prop} (q : ta σ H fun x H1 => tl σ H1 fun xs H2 => Q (x :: xs) H2) : tCons ta tl σ H Q := q
theorem tSeq_i (q : ts { D with nx := us D } σ H) : tSeq ts us D σ H := q
theorem tAsg_i (q : te σ H fun x H1 => g x σ H1 D.nx) : tAsg te g D σ H := q
theorem gName_i {Q : L2.St → Hp → Prop} (q : Q (σ.set i (some v)) H) : gName i v σ H Q := q
theorem tRet_i (q : te σ H D.rt) : tRet te D σ H := q
theorem tRetN_i (q : D.rt .non H) : tRetN D σ H := q
theorem tDrop_i (q : te σ H fun _ H1 => D.nx σ H1) : tDrop te D σ H := q
theorem tNext_i (q : D.nx σ H) : tNext D σ H := q
theorem tBreak_i (q : D.bk σ H) : tBreak D σ H := q
theorem tCont_i (q : D.ct σ H) : tCont D σ H := q
theorem tIfS_i (q : tt σ H fun b H1 => if b = true then ts D σ H1 else us D σ H1) : tIfS tt ts us D σ H := q
theorem tIf_i (q : tt σ H fun b H1 => if b = true then ta σ H1 Q else tb σ H1 Q) : tIf tt ta tb σ H Q := q
theorem tTest_i {Q : Bool → Hp → Prop} (q : te σ H fun x H' => ∃ k, x = .bl k ∧ Q k H') : tTest te σ H Q := q
theorem tB_i {Q : Bool → Hp → Prop} (q : te σ H fun x H' => ∃ k, x = .bl k ∧ Q k H') : tB te σ H Q := q
theorem exBl_i {Q : Bool → Prop} {b : Bool} (q : Q b) : ∃ k, V.bl b = .bl k ∧ Q k := ⟨b, rfl, q⟩
theorem tAnd_i {Q : Bool → Hp → Prop} (q : tt σ H fun c H1 => if c = true then uu σ H1 Q else Q false H1) : tAnd tt uu σ H Q := q
theorem tOr_i {Q : Bool → Hp → Prop} (q : tt σ H fun c H1 => if c = true then Q true H1 else uu σ H1 Q) : tOr tt uu σ H Q := q
theorem tNot_i {Q : Bool → Hp → Prop} (q : tt σ H fun c H1 => Q (!c) H1) : tNot tt σ H Q := q
theorem tAndV_i (q : ta σ H fun x H1 => ∃ c, x = .bl c ∧ if c = true then tb σ H1 Q else Q (.bl false) H1) : tAndV ta tb σ H Q := q
theorem tOrV_i (q : ta σ H fun x H1 => ∃ c, x = .bl c ∧ if c = true then Q (.bl true) H1 else tb σ H1 Q) : tOrV ta tb σ H Q := q
theorem tNotV_i (q : ta σ H fun x H1 => ∃ c, x = .bl c ∧ Q (.bl (!c)) H1) : tNotV ta σ H Q := q
theorem rI0_i {f : Int → Int → V} {i j : Int} (q : Q (f i j) H) : rI0 f (.int i) (.int j) H Q := ⟨i, j, rfl, rfl, q⟩
theorem rI_i {C : Int → Int → Prop} {f : Int → Int → V} {i j : Int} (c : C i j) (q : Q (f i j) H) : rI C f (.int i) (.int j) H Q := ⟨i, j, rfl, rfl, c, q⟩
theorem rU_i {f : Int → V} {i : Int} (q : Q (f i) H) : rU f (.int i) H Q := ⟨i, rfl, q⟩
theorem rEq_i (h : scal x y = true) (q : Q (.bl (decide (x = y))) H) : rEq x y H Q := ⟨h, q⟩
theorem rNe_i (h : scal x y = true) (q : Q (.bl (!decide (x = y))) H) : rNe x y H Q := ⟨h, q⟩
theorem tLst_i (q : tl σ H fun xs H1 => xs.length ≤ sizeLine ∧ ∀ p, H1 p = none → Q (.ref p) (upd H1 p (.lst xs))) : tLst tl σ H Q := q
theorem tTup_i (q : tl σ H fun xs H1 => xs.length ≤ sizeLine ∧ ∀ p, H1 p = none → Q (.ref p) (upd H1 p (.tup xs))) : tTup tl σ H Q := q
theorem tCB_i {r : List V → Hp → VK → Prop} (q : tl σ H fun vs H1 => r vs H1 Q) : tCB r tl σ H Q := q
theorem tCall_i {sp : Sp} {dvs : List V} {E : XK} (q : tl σ H fun vs H1 => sp (vs ++ dvs) H1 Q E) : tCall sp dvs E tl σ H Q := q
theorem tDGet_i {td ty : TE} (q : td σ H fun x H1 => ty σ H1 fun y H2 => ∃ a v, x = .ref a ∧ DGet H2 a y (some v) ∧ Q v H2) : tDGet td ty σ H Q := q
theorem dget_i {a : Addr} {kvs : List (Key × V)} {k : Key} (h : H a = some (.dK kvs)) (e : valV kvs k = some v) (hy : y = kV k) (q : Q v H) : ∃ a' v', V.ref a = .ref a' ∧ DGet H a' y (some v') ∧ Q v' H :=
  ⟨a, v, rfl, by rw [hy, ← e]; exact DGet.k h, q⟩
theorem sDPut_i {td ty tv : TE} (q : tv σ H fun v H1 => td σ H1 fun x H2 => ty σ H2 fun y H3 => ∃ a H4, x = .ref a ∧ DPut H3 a y v H4 ∧ D.nx σ H4) : sDPut td ty tv D σ H := q
theorem dput_i {N : L2.St → Hp → Prop} {a : Addr} {kvs : List (Key × V)} {k : Key} (h : H a = some (.dK kvs)) (hy : y = kV k) (hl : kvs.length < sizeLine) (q : N σ (upd H a (.dK (putK kvs k v)))) : ∃ a' H4, V.ref a = .ref a' ∧ DPut H a' y v H4 ∧ N σ H4 :=
  ⟨a, _, rfl, by rw [hy]; exact DPut.k h hl, q⟩
theorem tFld_i {f : Str} (q : ta σ H fun x H1 => ∃ a C dx fs v, x = .ref a ∧ H1 a = some (.ins C dx fs) ∧ Cls K C ∧ NoAttr K C f ∧ fs.lookup f = some v ∧ Q v H1) : tFld K ta f σ H Q := q
theorem fld_i {f : Str} {a C dx : Addr} {fs : List (Str × V)} (h : H a = some (.ins C dx fs)) (c : Cls K C) (n : NoAttr K C f) (e : fs.lookup f = some v) (q : Q v H) :
    ∃ a' C dx fs v, V.ref a = .ref a' ∧ H a' = some (.ins C dx fs) ∧ Cls K C ∧ NoAttr K C f ∧ fs.lookup f = some v ∧ Q v H := ⟨a, C, dx, fs, v, rfl, h, c, n, e, q⟩
theorem rIxL_i {p : Addr} {xs : List V} {i : Int} (h : H p = some (.lst xs)) (e : atI xs i = some v) (q : Q v H) : rIxL K (.ref p) (.int i) H Q := ⟨p, xs, i, v, rfl, rfl, SqL.of h, e, q⟩
theorem rIxT_i {p : Addr} {xs : List V} {i : Int} (h : H p = some (.tup xs)) (e : atI xs i = some v) (q : Q v H) : rIxT K (.ref p) (.int i) H Q := ⟨p, xs, i, v, rfl, rfl, SqT.of h, e, q⟩
theorem sz4 {n : Nat} (h : n ≤ 1000 := by decide) : n ≤ sizeLine := Nat.le_trans h (by decide)
end
end L76
namespace L76
open PySem PySem.Spec PyProof.Rows L2
variable {gd : Bool}
local macro_rules | `(tactic| walk_at "y1") => `(tactic| with_reducible first
  | refine tSeq_i ?_ | refine tAsg_i ?_ | refine tCons_i ?_ | refine tNil_i ?_ | refine tC_i ?_ | refine tOp_i ?_ | refine tIfS_i ?_ | refine tTest_i ?_ | refine exBl_i ?_ | refine tRet_i ?_ | refine tCall_i ?_
  | refine tCB_i ?_ | refine tLst_i ?_ | refine tTup_i ?_ | refine rI0_i ?_ | refine tDrop_i ?_ | refine tNext_i ?_ | refine tB_i ?_ | refine tAnd_i ?_ | refine tOr_i ?_ | refine tNot_i ?_ | refine tAndV_i ?_ | refine tOrV_i ?_ | refine tNotV_i ?_
  | refine tIf_i ?_ | refine tUn_i ?_ | refine tDGet_i ?_ | refine sDPut_i ?_ | refine tFld_i ?_ | refine tRetN_i ?_ | refine tBreak_i ?_ | refine tCont_i ?_ | refine rU_i ?_)
local macro_rules | `(tactic| walk_at "yhead") => `(tactic| dsimp only [L2.start, List.map, List.length_cons, List.length_nil, Nat.reduceAdd, Nat.reduceSub, List.replicate, List.cons_append, List.nil_append])
local macro_rules | `(tactic| walk_at "y2") => `(tactic| first
  | walk_at "y1"
  | ((with_reducible refine tVar_i (v := ?v) ?h ?q); (case h => rfl))
  | ((with_reducible refine gName_i ?_); (dsimp only [List.set]))
  | ((with_reducible refine rEq_i ?h ?q); (case h => rfl)) | ((with_reducible refine rNe_i ?h ?q); (case h => rfl)))
local macro_rules | `(tactic| walk_at "y") => `(tactic| repeat walk_at "y2")
/-! calls, with the guards of repr told -/
structure RG (gd : Bool) (n : Nat) (A : Around) : Prop where
  r : Room n A
  g : gd = true → A.guards = some []
theorem RG.mono {i n : Nat} {A : Around} (z : RG gd n A) (h : i ≤ n) : RG gd i A := ⟨z.r.mono h, z.g⟩
theorem RG.dpr {n : Nat} {A : Around} (z : RG gd (n + 1) A) (en : Env) : RG gd n (A.deeper en) := ⟨z.r.deeper en, z.g⟩
theorem RG.one {n : Nat} {A : Around} (z : RG gd (n + 1) A) : RG gd n A.in1 := ⟨z.r.in1, z.g⟩
theorem RG.mk1 {n : Nat} {A : Around} (z : RG gd (n + 1) A) (C : Addr) (us : List Value) (kw : List (Str × Value)) : RG gd n (A.under (.builtin "type.__call__" ⟨.ref C :: us, kw⟩)) :=
  ⟨z.r.make C us kw, by
    have e : (A.under (.builtin "type.__call__" ⟨.ref C :: us, kw⟩)).guards = A.guards := by
      first | rfl | simp [Around.under, Code.guards, Code.isGuard, guardIds, pushGuards]
    rw [e]; exact z.g⟩
/-- a def keeps its promise wherever nothing is being shown -/
structure FnG (gd : Bool) (P : Program) (w : World) (K : PySem.W.Frag) (mg : Str → Option Value) (base : Heap) (CX : CXT) (n : Nat) (f : Addr) (fd : FuncData) (ps : List Str) (sp : Sp) : Prop where
  len : ∀ vs H Q E, sp vs H Q E → vs.length = ps.length
  run : ∀ (A : Around) (out : List Env) (st : Shared) (H : Hp) (ag : Args) (us : List Value) (vs : List V) (Q : VK) (E : XK), RG gd n A → Env0 P w K mg base A out st H → BindsTo st fd ag (ps.zip us) → Vals vs us → sp vs H Q E →
    codeAny (model P w) A (.call (.ref f) ag) (CR CX out P w H st Q E) st
theorem FnG.mono {P : Program} {w : World} {K : PySem.W.Frag} {mg : Str → Option Value} {base : Heap} {CX : CXT} {i n : Nat} {f : Addr} {fd : FuncData} {ps : List Str} {sp : Sp} (F : FnG gd P w K mg base CX i f fd ps sp) (h : i ≤ n) :
    FnG gd P w K mg base CX n f fd ps sp := ⟨F.len, fun A out st H ag us vs Q E z => F.run A out st H ag us vs Q E (z.mono h)⟩
theorem FnG.of {P : Program} {w : World} {K : PySem.W.Frag} {mg : Str → Option Value} {base : Heap} {CX : CXT} {n : Nat} {f : Addr} {fd : FuncData} {ps : List Str} {sp : Sp} (F : FnOk P w K mg base CX n f fd ps sp) :
    FnG gd P w K mg base CX n f fd ps sp := ⟨F.len, fun A out st H ag us vs Q E z => F.run A out st H ag us vs Q E z.r⟩
theorem FnG.imp {P : Program} {w : World} {K : PySem.W.Frag} {mg : Str → Option Value} {base : Heap} {CX : CXT} {n : Nat} {f : Addr} {fd : FuncData} {ps : List Str} {sp sq : Sp} (F : FnG gd P w K mg base CX n f fd ps sp)
    (h : ∀ vs H Q E, sq vs H Q E → sp vs H Q E) : FnG gd P w K mg base CX n f fd ps sq :=
  ⟨fun vs H Q E q => F.len vs H Q E (h _ _ _ _ q), fun A out st H ag us vs Q E z he hb hv q => F.run A out st H ag us vs Q E z he hb hv (h _ _ _ _ q)⟩
/-- by the body -/
theorem FnG.body {P : Program} {w : World} {K : PySem.W.Frag} {mg : Str → Option Value} {base : Heap} {x qual : Str} {params : Arguments} {body : List Stmt} {scope : Scope} {dvs : List V} {kws : List (Str × V)} {f : Addr} {fd : FuncData}
    {CX : CXT} {N ps : List Str} {n : Nat} {sp : Sp} (F : FunD K x qual params body scope dvs kws f fd) (S : FnScope N ps scope) (len : ∀ vs H Q E, sp vs H Q E → vs.length = ps.length)
    (hb : ∀ (cdv : Value) (A : Around) (out : List Env) (st : Shared) (H : Hp) (vs : List V) (Q : VK) (E : XK), RG gd n (A.deeper (envOfC qual scope st.heap.objs.size f cdv)) → sp vs H Q E →
      ∃ t, PSs (cxOf CX P w K mg base N qual scope f cdv A out st H E) body t ∧ t { nx := fun _ H' => Q .non H', rt := Q } (start N vs) H) : FnG gd P w K mg base CX (n + 1) f fd ps sp := by
  obtain ⟨oc, od, dV, kV, doc, pm, an, cdv, ct, osl, rfl, lk, hcd, _, _⟩ := F.ex
  refine ⟨len, fun A out st H ag us vs Q E z e0 bd rv q0 => ?_⟩
  have nl := len _ _ _ _ q0
  have KX : K.In st.heap := e0.mod.kin.keeps fun b o e => (e0.bs b o e).1
  have lim : st.heap.NoLimit := e0.mod.nolimit.keeps fun b o e => (e0.bs b o e).1
  have kd : ∀ y ∈ ps.zip us, scope.names.lookup y.1 = some .local ∨ (scope.names.lookup y.1 = some .cell ∧ ((cellsFrom (st.heap.objs.size + 1) scope.names []).lookup y.1).isSome = true) := fun ⟨a, v⟩ hy =>
    (S.par a (List.of_mem_zip hy).1).elim .inl fun q => .inr ⟨q, PySem.W.cellsFrom_some _ _ _ (.inl q)⟩
  refine codeAny_call_function z.r.depth (KX _ _ lk) rfl S.co S.gen rfl (PySem.W.codeRec_of KX hcd) (bd _ _ _ _ ?_)
  refine wpAny_newFunctionEnv_cells S.kind kd fun en he st1 ic => ?_
  subst he
  refine ⟨lim.keeps ic.toInCall.keep, codeAny_func ?_⟩
  obtain ⟨t, ht, hq⟩ := hb cdv A out st H vs Q E (z.dpr _) q0
  have I := inv_start (CX := CX) (E := E) S z.r.hd e0 nl rv ic
  refine wpAny_mono (ht.run [] st1 (start N vs) H _ I hq) (fun fl sz hs => ?_) fun _ _ hs => hs
  cases fl with
  | ret u =>
    obtain ⟨v, σ', H', J, r2, q⟩ := hs
    exact ⟨v, H', J.os, J.bare, J.base, J.hok, r2, q⟩
  | next =>
    obtain ⟨σ', H', J, q⟩ := hs
    exact ⟨V.non, H', J.os, J.bare, J.base, J.hok, rfl, q⟩
  | brk => exact (let ⟨_, _, _, q⟩ := hs; False.elim q)
  | cont => exact (let ⟨_, _, _, q⟩ := hs; False.elim q)
section
variable {X : Cx} {CX : CXT} {n : Nat} {f C : Addr} {fd : FuncData} {ps : List Str} {sp : Sp} {dvs : List V} {ds : List Value} {E : XK} {x m : Str} {p pos apos : Pos} {e o : Expr} {es : List Expr} {ta : TE} {t : TA}
theorem runG {pins : List (Addr × Obj)} {σ : L2.St} {H : Hp} {st : Shared} {Q : VK} {us : List Value} {vs : List V} (F : FnG gd X.prog X.w X.K X.mg X.base CX n f fd ps sp) (z : RG gd n X.A) (bd : Binds X.K fd ps ds) (dv : Vals dvs ds) (hx : Passes CX X E)
    (I : Inv X pins σ H st) (rv : Vals vs us) (q : sp (vs ++ dvs) H Q E) : wpAny (model X.prog X.w) X.A (call (.ref f) us) (EP X pins σ Q) X.xe st := by
  have r2 : Vals (vs ++ dvs) (us ++ ds) := rv.append dv
  refine wpAny_call (codeAny_mono (F.run X.A X.stack st H ⟨us, []⟩ (us ++ ds) (vs ++ dvs) Q E z I.env0 (bd st us I.kIn (by rw [← r2.length]; exact F.len _ _ _ _ q)) r2 q) fun r sz hq => ?_)
  cases r with
  | error er => exact hx pins σ H st er sz I hq
  | ok fl => cases fl <;> first | exact I.after hq | exact False.elim hq
theorem pe_callG (F : FnG gd X.prog X.w X.K X.mg X.base CX n f fd ps sp) (z : RG gd n X.A) (hg : Gl X x) (hm : X.mg x = some (.ref f)) (hk : PySem.W.keepIn X.K (.ref f) = true) (bd : Binds X.K fd ps ds) (dv : Vals dvs ds) (hx : Passes CX X E)
    (ha : PA X (e :: es) t) (hdb : (x == ("__debug__" : Str)) = false := by decide) (he : starEach (e :: es) X.env = (false, eval e X.env) :: starEach es X.env := by rfl) (hpl : (backTo pos (starEach es X.env)).any (·.1) = false := by rfl) :
    PE X (.Call (.Name x p) (e :: es) [] pos) (tCall sp dvs E t) :=
  ⟨fun pins st σ H Q I h => wpAny_Call_Name_kw (ld_glob I hg hm (PySem.W.callWith_K (h₀ := X.base) I.ok.mod.kin hk (thn (ha.run pos pins st σ H _ I h) fun us s1 ⟨vs, H1, I1, rv, q⟩ => ⟨I1.kIn, runG F z bd dv hx I1 rv q⟩) he hpl) hdb)⟩
theorem pe_callG0 (F : FnG gd X.prog X.w X.K X.mg X.base CX n f fd ps sp) (z : RG gd n X.A) (hg : Gl X x) (hm : X.mg x = some (.ref f)) (hk : PySem.W.keepIn X.K (.ref f) = true) (bd : Binds X.K fd ps ds) (dv : Vals dvs ds) (hx : Passes CX X E)
    (hdb : (x == ("__debug__" : Str)) = false := by decide) : PE X (.Call (.Name x p) [] [] pos) (tCall sp dvs E tNil) :=
  ⟨fun pins st σ H Q I h => wpAny_Call_Name_kw (ld_glob I hg hm (PySem.W.callWith_K0 I.kIn hk (runG (us := []) F z bd dv hx I .nil h)) hdb)⟩
theorem pe_methG {pl : Sem Bool} (he : PE X o ta) (c : Cls X.K C) (hm : Meth X.K C m f) (F : FnG gd X.prog X.w X.K X.mg X.base CX n f fd ps sp) (z : RG gd n X.A) (bd : Binds X.K fd ps ds) (dv : Vals dvs ds) (hx : Passes CX X E) (ha : PA X (e :: es) t)
    (hst : starEach (e :: es) X.env = (false, eval e X.env) :: starEach es X.env := by rfl) (hpl : (backTo pos (starEach es X.env)).any (·.1) = false := by rfl)
    (ht : eval (.Call (.Attribute o m apos) (e :: es) [] pos) X.env = (eval o X.env >>= fun ov => standAt apos.atName >>= fun _ => holding [ov] (getMethod ov m pl) >>= fun fr => callWith pos fr.1 fr.2 (backTo pos (starEach (e :: es) X.env)) (backToKw pos (keywordEach [] X.env))) := by rfl) :
    PE X (.Call (.Attribute o m apos) (e :: es) [] pos) (tMeth C m sp dvs E ta t) := by
  refine ⟨fun pins st σ H Q I h => PySem.W.methodCall_KW (pl := pl) (thn (he.run pins st σ H _ I h) fun u s1 ⟨x, H1, I1, rx, a, dx, fs, ex, ea, l, q⟩ => ?_) ht⟩
  subst ex
  obtain rfl : u = Value.ref a := rx
  exact getmeth_ok I1 ea c hm l (PySem.W.callWith_K (first := [.ref a]) (h₀ := X.base) I.ok.mod.kin hm.kp (thn (ha.run pos pins s1 σ H1 _ I1 q) fun us s2 ⟨vs, H2, I2, rv, q2⟩ => ⟨I2.kIn, runG (us := .ref a :: us) (vs := .ref a :: vs) F z bd dv hx I2 (.cons rfl rv) q2⟩) hst hpl)
theorem pe_methG0 {pl : Sem Bool} (he : PE X o ta) (c : Cls X.K C) (hm : Meth X.K C m f) (F : FnG gd X.prog X.w X.K X.mg X.base CX n f fd ps sp) (z : RG gd n X.A) (bd : Binds X.K fd ps ds) (dv : Vals dvs ds) (hx : Passes CX X E)
    (ht : eval (.Call (.Attribute o m apos) [] [] pos) X.env = (eval o X.env >>= fun ov => standAt apos.atName >>= fun _ => holding [ov] (getMethod ov m pl) >>= fun fr => callWith pos fr.1 fr.2 (backTo pos (starEach [] X.env)) (backToKw pos (keywordEach [] X.env))) := by rfl) :
    PE X (.Call (.Attribute o m apos) [] [] pos) (tMeth C m sp dvs E ta tNil) := by
  refine ⟨fun pins st σ H Q I h => PySem.W.methodCall_KW (pl := pl) (thn (he.run pins st σ H _ I h) fun u s1 ⟨x, H1, I1, rx, a, dx, fs, ex, ea, l, q⟩ => ?_) ht⟩
  subst ex
  obtain rfl : u = Value.ref a := rx
  exact getmeth_ok I1 ea c hm l (PySem.W.callWith_K0 (first := [.ref a]) I1.kIn hm.kp (runG (us := [.ref a]) (vs := [.ref a]) F z bd dv hx I1 (.cons rfl .nil) q))
theorem runMakeG {pins : List (Addr × Obj)} {σ : L2.St} {H : Hp} {st : Shared} {Q : VK} {us : List Value} {vs : List V} (M : Mk X.K C f) (F : FnG gd X.prog X.w X.K X.mg X.base CX n f fd ps sp) (z : RG gd (n + 1) X.A) (bd : Binds X.K fd ps ds) (dv : Vals dvs ds)
    (hx : Passes CX X E) (I : Inv X pins σ H st) (rv : Vals vs us)
    (h : ∀ x dx, H x = none → H dx = none → dx ≠ x → sp (.ref x :: (vs ++ dvs)) (upd (upd H dx (.own x)) x (.ins C dx [])) (fun v H2 => v = .non ∧ Q (.ref x) H2) E) :
    wpAny (model X.prog X.w) X.A (call (.ref C) us) (EP X pins σ Q) X.xe st := by
  have q0 := h (st.heap.objs.size + 1) st.heap.objs.size (I.hok.fresh (Nat.le_succ _)) (I.hok.fresh (Nat.le_refl _)) (Nat.ne_of_lt (Nat.lt_succ_self _))
  have J := Inv.made (C := C) I
  have r2 : Vals (V.ref (st.heap.objs.size + 1) :: (vs ++ dvs)) (Value.ref (st.heap.objs.size + 1) :: (us ++ ds)) := .cons rfl (rv.append dv)
  have nl : (Value.ref (st.heap.objs.size + 1) :: us ++ ds).length = ps.length := (r2.length.symm.trans (F.len _ _ _ _ q0) : _)
  refine wpAny_call (make_map (f := f) I.kIn M.makes M.init (beq_iff_eq.mp M.fn) (codeAny_mono (F.run _ X.stack _ _ ⟨Value.ref (st.heap.objs.size + 1) :: us, []⟩ (Value.ref (st.heap.objs.size + 1) :: (us ++ ds)) _ _ E (z.mk1 C us [])
    (J.env0.make C us []) (bd _ (Value.ref (st.heap.objs.size + 1) :: us) J.kIn nl) r2 q0) fun r sz hq => ?_))
  cases r with
  | error er => exact hx pins σ _ _ er sz J hq
  | ok fl =>
    cases fl with
    | ret u =>
      obtain ⟨v, H', I3, r3, ev, q3⟩ := J.after hq
      subst ev
      exact ⟨r3, ⟨V.ref (st.heap.objs.size + 1), H', I3, rfl, q3⟩⟩
    | next => exact False.elim hq
    | brk => exact False.elim hq
    | cont => exact False.elim hq
theorem pe_makeG (M : Mk X.K C f) (F : FnG gd X.prog X.w X.K X.mg X.base CX n f fd ps sp) (z : RG gd (n + 1) X.A) (hg : Gl X x) (hm : X.mg x = some (.ref C)) (bd : Binds X.K fd ps ds) (dv : Vals dvs ds) (hx : Passes CX X E)
    (ha : PA X (e :: es) t) (hdb : (x == ("__debug__" : Str)) = false := by decide) (he : starEach (e :: es) X.env = (false, eval e X.env) :: starEach es X.env := by rfl) (hpl : (backTo pos (starEach es X.env)).any (·.1) = false := by rfl) :
    PE X (.Call (.Name x p) (e :: es) [] pos) (tMake C sp dvs E t) :=
  ⟨fun pins st σ H Q I h => wpAny_Call_Name_kw (ld_glob I hg hm (PySem.W.callWith_K (h₀ := X.base) I.ok.mod.kin M.kp (thn (ha.run pos pins st σ H _ I h) fun us s1 ⟨vs, H1, I1, rv, q⟩ => ⟨I1.kIn, runMakeG M F z bd dv hx I1 rv q⟩) he hpl) hdb)⟩
theorem pe_makeG0 (M : Mk X.K C f) (F : FnG gd X.prog X.w X.K X.mg X.base CX n f fd ps sp) (z : RG gd (n + 1) X.A) (hg : Gl X x) (hm : X.mg x = some (.ref C)) (bd : Binds X.K fd ps ds) (dv : Vals dvs ds) (hx : Passes CX X E)
    (hdb : (x == ("__debug__" : Str)) = false := by decide) : PE X (.Call (.Name x p) [] [] pos) (tMake C sp dvs E tNil) :=
  ⟨fun pins st σ H Q I h => wpAny_Call_Name_kw (ld_glob I hg hm (PySem.W.callWith_K0 I.kIn M.kp (runMakeG (us := []) M F z bd dv hx I .nil h)) hdb)⟩
end
/-! the end of a law over FnG -/
theorem lawG {P : Program} {w : World} {K : PySem.W.Frag} {mg mb : Str → Option Value} {CX : CXT} {n : Nat} {fa a : Addr} {fd : FuncData} {x : Str} {sp : Sp} {st : Shared} {us : List Value} {ns : List Int}
    (KX : K.In st.heap) (G1 : st.heap.Ns mainGlobals mg) (G2 : st.heap.Ns builtinsNs mb) (G3 : ∀ y : Str, y ≠ "__name__" → mb y = bootBuiltins y) (G4 : st.heap.NoLimit) (G5 : st.gens = #[])
    (ha : st.heap.get? a = some { cls := .type "list", data := .seq us.toArray }) (hi : IntsAre us ns) (hl : ns.length ≤ sizeLine) (z : RG true n callerA)
    (F : ∀ base : Heap, K.In base → base.Ns mainGlobals mg → FnG true P w K mg base CX n fa fd [x] sp) (bd : ∀ (s : Shared) (u : Value), BindsTo s fd ⟨[u], []⟩ [(x, u)])
    (hsp : ∀ H : Hp, Only H → SqL K H a (ns.map V.int) → sp [.ref a] H (fun v _ => v = .bl true) fun _ _ _ => False)
    (hCX : ∀ H e sz, CX [] H st (fun _ _ _ => False) e sz → False) :
    codeAny (model P w) callerA (.call (.ref fa) ⟨[.ref a], []⟩) (fun r sz => r = .ok (.ret (.bool true)) ∧ OldK st.heap sz.heap ∧ sz.os = st.os ∧ AllBare sz.gens) st := by
  have rv := vals_ints hi
  have ln := hi.length
  have core : ∀ H : Hp, Only H → SqL K H a (ns.map V.int) → HOk P w H st.heap → (∀ b, H b ≠ none → b = a ∧ K.lookup a = none) →
      codeAny (model P w) callerA (.call (.ref fa) ⟨[.ref a], []⟩) (fun r sz => r = .ok (.ret (.bool true)) ∧ OldK st.heap sz.heap ∧ sz.os = st.os ∧ AllBare sz.gens) st := by
    intro H hO hS ok hA
    have fr0 : ∀ {b : Addr} {o : Obj}, st.heap.get? b = some o → H b = none → (hidT st.heap H).get? b = some o := fun e k => hidT_get e k
    have out : ∀ {b : Addr} {o : Obj}, st.heap.get? b = some o → o.data ≠ .seq us.toArray 0 ∨ (∃ q, K.lookup b = some q) → H b = none := by
      intro b o e d
      cases q : H b with
      | none => rfl
      | some u =>
        obtain ⟨eb, ek⟩ := hA b (by rw [q]; exact fun y => nomatch y)
        subst eb
        rcases d with d | ⟨y, d⟩
        · rw [ha] at e; cases e; exact absurd rfl d
        · rw [ek] at d; cases d
    have ns0 : ∀ {b : Addr} {m : Str → Option Value}, st.heap.Ns b m → (hidT st.heap H).Ns b m := fun ⟨o, es, ep, e, d, r⟩ => ⟨o, es, ep, fr0 e (out e (.inl (by rw [d]; exact fun y => nomatch y))), d, r⟩
    have KB : K.In (hidT st.heap H) := fun b o e => fr0 (KX b o e) (out (KX b o e) (.inr ⟨o, e⟩))
    have MD : Mod K mg (hidT st.heap H) := ⟨KB, ns0 G1, ⟨mb, ns0 G2, G3⟩, let ⟨mc, q1, q2⟩ := G4; ⟨mc, ns0 q1, q2⟩⟩
    have e0 : Env0 P w K mg (hidT st.heap H) callerA [] st H := ⟨rfl, MD, fun b o e => of_hidT e, Nat.le_of_eq (hidT_size _ _), trivial, fun b hb => absurd (show b ∈ ([] : List Addr) from hb) List.not_mem_nil, ok, .of_eq G5⟩
    refine codeAny_mono ((F _ KB (ns0 G1)).run callerA [] st H ⟨[.ref a], []⟩ [.ref a] [.ref a] _ _ z e0 (bd st (.ref a)) (.cons rfl .nil) (hsp H hO hS)) fun r sz h => ?_
    cases r with
    | error e => exact (hCX H e sz h).elim
    | ok fl =>
      cases fl with
      | next => exact False.elim h
      | brk => exact False.elim h
      | cont => exact False.elim h
      | ret u =>
        obtain ⟨v, H', os, bare, un, ok', r2, q⟩ := h
        have qv : v = .bl true := q
        subst qv
        obtain rfl : u = Value.bool true := r2
        refine ⟨rfl, OldK.of_keep fun b o e => ?_, os, bare⟩
        rcases hO b with k | ⟨ob, xs, k⟩
        · exact un.keep b o e k (fun y => nomatch (show b ∈ ([] : List Addr) from y)) (fun y => nomatch y)
        · obtain ⟨e1, _⟩ := ok b _ k
          obtain ⟨e2, _⟩ := ok' b _ (un.frzs b ob _ k)
          rw [e] at e1; cases e1
          exact e2
  cases hk : K.lookup a with
  | some o =>
    have e := KX a o hk
    rw [ha] at e
    cases e
    exact core (fun _ => none) (fun _ => .inl rfl) (.inr ⟨_, us.toArray, _, hk, rfl, rfl, rfl, by rw [List.size_toArray, ln]; exact hl, by simpa using rv⟩) (fun b u y => nomatch (show (none : Option HO) = some u from y)) fun b y => absurd rfl y
  | none =>
    have hf : ∀ b, b ≠ a → (fun b => if b = a then some (HO.frz { cls := .type "list", data := .seq us.toArray } (.lst (ns.map V.int))) else none) b = none := fun b nb => if_neg nb
    refine core (fun b => if b = a then some (HO.frz { cls := .type "list", data := .seq us.toArray } (.lst (ns.map V.int))) else none) (fun b => ?_) (.inl (.inr ⟨{ cls := .type "list", data := .seq us.toArray }, if_pos rfl⟩)) (fun b u y => ?_) fun b y => ?_
    · by_cases hb : b = a
      · exact .inr ⟨_, _, if_pos hb⟩
      · exact .inl (if_neg hb)
    · by_cases hb : b = a
      · have y2 := (if_pos hb).symm.trans y
        cases y2
        subst hb
        exact ⟨ha, by rw [List.length_map]; exact hl, us, _, rv, ha⟩
      · exact nomatch ((hf b hb).symm.trans y)
    · by_cases hb : b = a
      · exact ⟨hb, hk⟩
      · exact absurd (hf b hb) y
theorem walkG {l : PySem.W.OpenLaw} {m n : Nat} {q : Program} {loose : List Str} {XP : (Str → Option Value) → Heap → Prop} {YP : World → Heap → Prop} {d : DefRec} {CX : World → CXT} {x : Str}
    (hm : l.most = some m) (hm2 : m ≤ sizeLine) (hdf : d.params.defaults = []) (hr : Room n callerA)
    (F : ∀ (w : World) (mg : Str → Option Value) (fa : Addr) (h : Heap), YP w h → h.Ns mainGlobals mg → mg d.name = some (.ref fa) →
      ∃ (K : PySem.W.Frag) (fd : FuncData) (sp : Sp), K.In h ∧ (∀ (s : Shared) (u : Value), BindsTo s fd ⟨[u], []⟩ [(x, u)]) ∧
        (∀ (H : Hp) (a : Addr) (ns : List Int), ns.length ≤ m → (∀ y ∈ ns, Builtin.Int.intBits y ≤ 1048576) → Only H → SqL K H a (ns.map V.int) → sp [.ref a] H (fun v _ => v = .bl true) fun _ _ _ => False) ∧
        ∀ base : Heap, K.In base → base.Ns mainGlobals mg → FnG true l.prog w K mg base (CX w) n fa fd [x] sp)
    (hCX : ∀ (w : World) (H : Hp) (s : Shared) (e : Value) (sz : Shared), CX w [] H s (fun _ _ _ => False) e sz → False) :
    PySem.W.WalkO q loose XP YP l.row.toRowW d [] (fun f vs => PySem.call f vs) := by
  refine Att.attach_callB hm hdf fun w s0 st mg mb fa o pm cd doc a us ns G Y ho hd hcd hmg hobj hints hlen hbits hg => ?_
  obtain ⟨K, fd, sp, KX, bd, hsp, hF⟩ := F w mg fa _ Y G.T.g hmg
  exact lawG KX G.T.g G.T.b G.T.builtins G.T.nolimit hg hobj hints (Nat.le_trans hlen hm2) ⟨hr, fun _ => rfl⟩ hF bd (fun H hO hS => hsp H a ns hlen hbits hO hS) fun H e sz => hCX w H st e sz
end L76
namespace L76
open PySem PySem.Spec PyProof.Rows L2
variable {gd : Bool}
local macro_rules | `(tactic| walk_at "y1") => `(tactic| with_reducible first
  | refine tSeq_i ?_ | refine tAsg_i ?_ | refine tCons_i ?_ | refine tNil_i ?_ | refine tC_i ?_ | refine tOp_i ?_ | refine tIfS_i ?_ | refine tTest_i ?_ | refine exBl_i ?_ | refine tRet_i ?_ | refine tCall_i ?_
  | refine tCB_i ?_ | refine tLst_i ?_ | refine tTup_i ?_ | refine rI0_i ?_ | refine tDrop_i ?_ | refine tNext_i ?_ | refine tB_i ?_ | refine tAnd_i ?_ | refine tOr_i ?_ | refine tNot_i ?_ | refine tAndV_i ?_ | refine tOrV_i ?_ | refine tNotV_i ?_
  | refine tIf_i ?_ | refine tUn_i ?_ | refine tDGet_i ?_ | refine sDPut_i ?_ | refine tFld_i ?_ | refine tRetN_i ?_ | refine tBreak_i ?_ | refine tCont_i ?_ | refine rU_i ?_)
local macro_rules | `(tactic| walk_at "yhead") => `(tactic| dsimp only [L2.start, List.map, List.length_cons, List.length_nil, Nat.reduceAdd, Nat.reduceSub, List.replicate, List.cons_append, List.nil_append])
local macro_rules | `(tactic| walk_at "y2") => `(tactic| first
  | walk_at "y1"
  | ((with_reducible refine tVar_i (v := ?v) ?h ?q); (case h => rfl))
  | ((with_reducible refine gName_i ?_); (dsimp only [List.set]))
  | ((with_reducible refine rEq_i ?h ?q); (case h => rfl)) | ((with_reducible refine rNe_i ?h ?q); (case h => rfl)))
local macro_rules | `(tactic| walk_at "y") => `(tactic| repeat walk_at "y2")
/-! operations, whatever the kinds of the values -/
section
variable {X : Cx}
def rIxDct : R2 := fun x y H Q => ∃ a v, x = .ref a ∧ DGet H a y (some v) ∧ Q v H
theorem ix_dct (hu : X.A.units + 1 < cLine) : IxR X rIxDct := by
  intro value slice pins st σ H x y v u Q I rx ry q hs
  obtain ⟨a, w, rfl, g, q⟩ := q
  obtain rfl : v = Value.ref a := rx
  have hT := dict_typeIs I g
  unfold subscriptTail
  refine wpAny_bind ?_
  rw [getitemInPython_of_ne hT.not_modules]
  refine wpAny_bind (wpAny_specialOf hT PySem.F.slot_dict_getitem.lookup ?_)
  have fin : wpAny (model X.prog X.w) X.A (subscripted slice false (.ref a) u) (fun r s3 => wpAny (model X.prog X.w) X.A (letTemporaryGo value (.ref a) r >>= fun _ => pure r) (EP X pins σ Q) X.xe s3) X.xe st := by
    rw [hs]
    exact wpAny_operating (d_getItem hu I g ry fun w2 s3 I3 r3 => wpAny_bind (wpAny_letTemporaryGo (wpAny_pure ⟨w, H, I3, r3, q⟩)))
  first
    | exact wpAny_pure (wpAny_bind fin)
    | exact wpAny_bind (wpAny_pure (wpAny_bind fin))
    | exact wpAny_bind fin
def rGet (K : PySem.W.Frag) : R2 := fun x y H Q => rIx K x y H Q ∨ rIxDct x y H Q
theorem ix_get (hu : X.A.units + 1 < cLine) : IxR X (rGet X.K) := ix_seq.or (ix_dct hu)
def rStrCat : R2 := fun x y H Q => ∃ i j, x = .str i ∧ y = .str j ∧ i.length + j.length ≤ sizeLine ∧ Q (.str (i ++ j)) H
/-- two lists, the left or the right one perhaps the script -/
def rAdd2 (K : PySem.W.Frag) : R2 := fun x y H Q => rI0 (fun i j => .int (i + j)) x y H Q ∨ rStrCat x y H Q ∨ rCat x y H Q ∨ rCatA K x y H Q
theorem op_add2 : OpR X (binaryOp .Add) (rAdd2 X.K) := op_add.or (op_add_str.or (op_cat.or op_catA))
def rMul2 (K : PySem.W.Frag) : R2 := fun x y H Q => rI CMul (fun i j => .int (i * j)) x y H Q ∨ rRep x y H Q
theorem op_mul2 : OpR X (binaryOp .Mult) (rMul2 X.K) := op_mul.or op_rep
def rEq2 (K : PySem.W.Frag) : R2 := fun x y H Q => rEq x y H Q ∨ rEqD K x y H Q
theorem op_eq2 (hu : X.A.units + 64 < cLine) : OpR X (compareOp .Eq) (rEq2 X.K) := op_eq.or (op_eqD hu)
def rNe2 (K : PySem.W.Frag) : R2 := fun x y H Q => rNe x y H Q ∨ rNeD K x y H Q
theorem op_ne2 (hu : X.A.units + 64 < cLine) : OpR X (compareOp .NotEq) (rNe2 X.K) := op_ne.or (op_neD hu)
def rDIn : R2 := fun y x H Q => ∃ a o, x = .ref a ∧ DGet H a y o ∧ Q (.bl o.isSome) H
theorem op_din (hu : X.A.units + 1 < cLine) : OpR X (compareOp .In) rDIn := by
  intro pins st σ H y x u v Q I ry rx q
  obtain ⟨a, o, rfl, g, q⟩ := q
  obtain rfl : v = Value.ref a := rx
  exact d_in hu I g ry fun s3 I3 => ⟨.bl o.isSome, H, I3, rfl, q⟩
def rDNotIn : R2 := fun y x H Q => ∃ a o, x = .ref a ∧ DGet H a y o ∧ Q (.bl (!o.isSome)) H
theorem op_dnotin (hu : X.A.units + 1 < cLine) : OpR X (compareOp .NotIn) rDNotIn := by
  intro pins st σ H y x u v Q I ry rx q
  obtain ⟨a, o, rfl, g, q⟩ := q
  obtain rfl : v = Value.ref a := rx
  exact d_notIn hu I g ry fun s3 I3 => ⟨.bl (!o.isSome), H, I3, rfl, q⟩
def rIn2 (K : PySem.W.Frag) : R2 := fun x y H Q => rIn K false x y H Q ∨ rInD K x y H Q ∨ rDIn x y H Q
theorem op_in2 (hu : X.A.units + 65 < cLine) : OpR X (compareOp .In) (rIn2 X.K) := op_in_seq.or ((op_inD hu).or (op_din (by omega)))
def rNotIn2 (K : PySem.W.Frag) : R2 := fun x y H Q => rIn K true x y H Q ∨ rNotInD K x y H Q ∨ rDNotIn x y H Q
theorem op_notIn2 (hu : X.A.units + 65 < cLine) : OpR X (compareOp .NotIn) (rNotIn2 X.K) := op_notIn_seq.or ((op_notInD hu).or (op_dnotin (by omega)))
def rSl2 (K : PySem.W.Frag) : V → Option Int → Option Int → Hp → VK → Prop := fun x lo hi H Q => rSlL K x lo hi H Q ∨ rSlA K x lo hi H Q
theorem sl_2 : SlR X (rSl2 X.K) := sl_list.or sl_tupA
def rIsi2 (K : PySem.W.Frag) : List V → Hp → VK → Prop := fun xs H Q => rIsi K xs H Q ∨ rIsiT K xs H Q
theorem call_isi2 : CallR X (.builtin "isinstance") (rIsi2 X.K) := call_isi.or call_isiT
end
end L76
namespace L76
open PySem PySem.Spec PyProof.Rows L2
variable {gd : Bool}
local macro_rules | `(tactic| walk_at "y1") => `(tactic| with_reducible first
  | refine tSeq_i ?_ | refine tAsg_i ?_ | refine tCons_i ?_ | refine tNil_i ?_ | refine tC_i ?_ | refine tOp_i ?_ | refine tIfS_i ?_ | refine tTest_i ?_ | refine exBl_i ?_ | refine tRet_i ?_ | refine tCall_i ?_
  | refine tCB_i ?_ | refine tLst_i ?_ | refine tTup_i ?_ | refine rI0_i ?_ | refine tDrop_i ?_ | refine tNext_i ?_ | refine tB_i ?_ | refine tAnd_i ?_ | refine tOr_i ?_ | refine tNot_i ?_ | refine tAndV_i ?_ | refine tOrV_i ?_ | refine tNotV_i ?_
  | refine tIf_i ?_ | refine tUn_i ?_ | refine tDGet_i ?_ | refine sDPut_i ?_ | refine tFld_i ?_ | refine tRetN_i ?_ | refine tBreak_i ?_ | refine tCont_i ?_ | refine rU_i ?_)
local macro_rules | `(tactic| walk_at "yhead") => `(tactic| dsimp only [L2.start, List.map, List.length_cons, List.length_nil, Nat.reduceAdd, Nat.reduceSub, List.replicate, List.cons_append, List.nil_append])
local macro_rules | `(tactic| walk_at "y2") => `(tactic| first
  | walk_at "y1"
  | ((with_reducible refine tVar_i (v := ?v) ?h ?q); (case h => rfl))
  | ((with_reducible refine gName_i ?_); (dsimp only [List.set]))
  | ((with_reducible refine rEq_i ?h ?q); (case h => rfl)) | ((with_reducible refine rNe_i ?h ?q); (case h => rfl)))
local macro_rules | `(tactic| walk_at "y") => `(tactic| repeat walk_at "y2")
/-! a, *b = a tuple -/
section
variable {X : Cx}
theorem pgs_star {t : Expr} {p : Pos} {es : List Expr} {g : TG} {u : TGs} (h1 : PG X t g) (h2 : PGs X es u) : PGs X (.Starred t p :: es) (gCons g u) := by
  refine ⟨fun pins st σ H vs us Q I r h => ?_⟩
  obtain ⟨v, vr, rfl, h⟩ := h
  cases r with
  | cons r rr => exact assignInOrder_cons (thn (h1.run pins st σ H _ _ _ I r h) fun _ s1 ⟨σ1, H1, I1, q1⟩ => h2.run pins s1 σ1 H1 _ _ Q I1 rr q1)
/-- n targets, the one at i starred -/
def gStar (K : PySem.W.Frag) (n i : Nat) (t : TGs) : TG := fun v σ H Q => ∃ a xs, v = .ref a ∧ SqT K H a xs ∧ n ≤ xs.length + 1 ∧
  ∀ d, H d = none → t (xs.take i ++ V.ref d :: (xs.drop i).drop (xs.length + 1 - n)) σ (upd H d (.lst ((xs.drop i).take (xs.length + 1 - n)))) Q
theorem pg_star {es : List Expr} {k : Nat} {pos : Pos} {n i : Nat} {t : TGs} (hc : X.calm = true) (h : PGs X es t) (hn : (assignEach es X.env).length = n := by rfl) (hst : (assignEach es X.env).findIdx? (·.1) = some i := by rfl) (hi : i < n := by decide) :
    PG X (.Tuple es k pos) (gStar X.K n i t) := by
  refine ⟨fun pins st σ H v u Q I r hw => ?_⟩
  obtain ⟨a, xs, rfl, hq, hl, hw⟩ := hw
  obtain rfl : u = Value.ref a := r
  have hh := I.ok.hd hc
  obtain ⟨its, rv, ht, hz⟩ := I.tuple hq
  have len := rv.length
  have sz : its.toArray.size = xs.length := by rw [List.size_toArray, len]
  have alt : a ≠ st.heap.objs.size := by obtain ⟨o, ho, _⟩ := ht; exact Nat.ne_of_lt (Heap.lt_size ho)
  rw [assign_Tuple]
  refine wpAny_bind (wpAny_standAt ?_)
  unfold unpack
  rw [hn, hst]
  refine wpAny_bind (wpAny_holding ?_)
  unfold unpackItems notIterableAtAll
  refine wpAny_bind (wpAny_bind (wpAny_specialOf ht.typeIs slot_tuple_iter.lookup (wpAny_pure ?_)))
  simp only [Bool.false_eq_true, if_false]
  refine wpAny_bind (wpAny_holding (iter_tuple ht ?_))
  refine wpAny_bind (wpAny_holding (draw_tuple alt i 0 _ _ ⟨_, Heap.get?_push_size _ rfl, rfl, rfl⟩ (ht.push _) (by omega) fun h1 it1 hs1 => ?_))
  rw [Nat.zero_add] at it1
  have t1 : IsTup h1 a its.toArray := (ht.push _).extBut hs1.extBut alt
  obtain ⟨oi, hoi, _⟩ := id it1
  obtain ⟨ol, hol, _⟩ := id t1
  rw [List.drop_zero]
  have fl : (its.toArray.toList.take i).length = i := by rw [List.length_take, Array.length_toList]; omega
  rw [if_neg (show ¬ ((its.toArray.toList.take i).length < i) by rw [fl]; omega)]
  refine wpAny_bind (wpAny_holding (PySem.W.kun_collect (s := { st with heap := h1 }) (T := "tuple_iterator") (.inr (.inr (.inr rfl))) (Walks.tuple (A := X.A.in1) hh st.heap.objs.size a alt its.toArray) (fun j u z => z.1.typeIs) (k := i) (by omega) ⟨it1, t1⟩ (Heap.lt_size hoi) (Heap.lt_size hol) (fun h2 tk hk => ?_) (by rw [sz]; exact hz)))
  have rl : (its.toArray.toList.drop i).length = xs.length - i := by rw [List.length_drop, Array.length_toList, sz]
  show wpAny _ _ (if (its.toArray.toList.drop i).length < n - 1 - i then _ else _) _ _ _
  rw [if_neg (by rw [rl]; omega)]
  have md : (its.toArray.toList.drop i).length - (n - 1 - i) = xs.length + 1 - n := by rw [rl]; omega
  show wpAny _ _ (newList ((its.toArray.toList.drop i).take ((its.toArray.toList.drop i).length - (n - 1 - i))) >>= fun d => pure (its.toArray.toList.take i ++ [d] ++ (its.toArray.toList.drop i).drop ((its.toArray.toList.drop i).length - (n - 1 - i)))) _ _ _
  rw [md]
  have kp : ∀ b o, st.heap.get? b = some o → h2.get? b = some o := fun b o e => by
    have nb : b ≠ st.heap.objs.size := Nat.ne_of_lt (Heap.lt_size e)
    exact hk b o nb (hs1.extBut b o nb (Heap.get?_push_of_some _ e))
  have I2 : Inv X pins σ H { st with heap := h2, toks := tk } := I.kept kp
  refine wpAny_bind (wpAny_newObj_type (wpAny_pure ?_) (by show (List.toArray _).size ≤ sizeLine; rw [List.size_toArray, List.length_take, rl]; omega))
  have rm : Vals ((xs.drop i).take (xs.length + 1 - n)) ((its.toArray.toList.drop i).take (xs.length + 1 - n)) := (rv.drop i).take _
  have ol2 : ((xs.drop i).take (xs.length + 1 - n)).length ≤ sizeLine := by rw [List.length_take, List.length_drop]; omega
  have I3 : Inv X pins σ (upd H h2.objs.size (.lst ((xs.drop i).take (xs.length + 1 - n)))) { st with heap := h2.push { cls := .type "list", data := .seq ((its.toArray.toList.drop i).take (xs.length + 1 - n)).toArray }, toks := tk } :=
    I2.laid (t' := tk) (fun b o e => Heap.get?_push_of_some _ e) (Nat.le_refl _) ⟨ol2, _, 0, rm, Heap.get?_push_size _ rfl⟩
  have q3 := h.run pins _ σ _ _ (its.toArray.toList.take i ++ Value.ref h2.objs.size :: (its.toArray.toList.drop i).drop (xs.length + 1 - n)) Q I3 ((rv.take i).append (.cons (show L2.RelV (V.ref h2.objs.size) (Value.ref h2.objs.size) from rfl) ((rv.drop i).drop _))) (hw h2.objs.size (I2.hok.fresh (Nat.le_refl _)))
  simpa using q3
end
end L76
namespace L76
open PySem PySem.Spec PyProof.Rows L2
variable {gd : Bool}
local macro_rules | `(tactic| walk_at "y1") => `(tactic| with_reducible first
  | refine tSeq_i ?_ | refine tAsg_i ?_ | refine tCons_i ?_ | refine tNil_i ?_ | refine tC_i ?_ | refine tOp_i ?_ | refine tIfS_i ?_ | refine tTest_i ?_ | refine exBl_i ?_ | refine tRet_i ?_ | refine tCall_i ?_
  | refine tCB_i ?_ | refine tLst_i ?_ | refine tTup_i ?_ | refine rI0_i ?_ | refine tDrop_i ?_ | refine tNext_i ?_ | refine tB_i ?_ | refine tAnd_i ?_ | refine tOr_i ?_ | refine tNot_i ?_ | refine tAndV_i ?_ | refine tOrV_i ?_ | refine tNotV_i ?_
  | refine tIf_i ?_ | refine tUn_i ?_ | refine tDGet_i ?_ | refine sDPut_i ?_ | refine tFld_i ?_ | refine tRetN_i ?_ | refine tBreak_i ?_ | refine tCont_i ?_ | refine rU_i ?_)
local macro_rules | `(tactic| walk_at "yhead") => `(tactic| dsimp only [L2.start, List.map, List.length_cons, List.length_nil, Nat.reduceAdd, Nat.reduceSub, List.replicate, List.cons_append, List.nil_append])
local macro_rules | `(tactic| walk_at "y2") => `(tactic| first
  | walk_at "y1"
  | ((with_reducible refine tVar_i (v := ?v) ?h ?q); (case h => rfl))
  | ((with_reducible refine gName_i ?_); (dsimp only [List.set]))
  | ((with_reducible refine rEq_i ?h ?q); (case h => rfl)) | ((with_reducible refine rNe_i ?h ?q); (case h => rfl)))
local macro_rules | `(tactic| walk_at "y") => `(tactic| repeat walk_at "y2")
/-! defs, methods and classes by their promises -/
/-- a def of the module, called by its name -/
structure Cal (gd : Bool) (P : Program) (w : World) (K : PySem.W.Frag) (mg : Str → Option Value) (base : Heap) (CX : CXT) (k : Nat) (x : Str) (sp : Sp) : Prop where
  ex : ∃ (f : Addr) (fd : FuncData) (ps : List Str), FnG gd P w K mg base CX k f fd ps sp ∧ mg x = some (.ref f) ∧ PySem.W.keepIn K (.ref f) = true ∧ Binds K fd ps []
/-- a class made by its name; sp: its __init__'s promise -/
structure Mak (gd : Bool) (P : Program) (w : World) (K : PySem.W.Frag) (mg : Str → Option Value) (base : Heap) (CX : CXT) (k : Nat) (x : Str) (sp : Sp) : Prop where
  ex : ∃ (f : Addr) (fd : FuncData) (ps : List Str), Mk K (He.ga K x) f ∧ FnG gd P w K mg base CX k f fd ps sp ∧ mg x = some (.ref (He.ga K x)) ∧ Binds K fd ps []
def sp1 (p : V → Hp → VK → XK → Prop) : Sp := fun vs H Q E => ∃ x, vs = [x] ∧ p x H Q E
def sp2 (p : V → V → Hp → VK → XK → Prop) : Sp := fun vs H Q E => ∃ x y, vs = [x, y] ∧ p x y H Q E
def sp3 (p : V → V → V → Hp → VK → XK → Prop) : Sp := fun vs H Q E => ∃ x y u, vs = [x, y, u] ∧ p x y u H Q E
theorem sp1_len {p : V → Hp → VK → XK → Prop} {a : Str} : ∀ vs H Q E, sp1 p vs H Q E → vs.length = [a].length := fun vs H Q E h => by obtain ⟨x, rfl, _⟩ := h; rfl
theorem sp2_len {p : V → V → Hp → VK → XK → Prop} {a b : Str} : ∀ vs H Q E, sp2 p vs H Q E → vs.length = [a, b].length := fun vs H Q E h => by obtain ⟨x, y, rfl, _⟩ := h; rfl
theorem sp3_len {p : V → V → V → Hp → VK → XK → Prop} {a b c : Str} : ∀ vs H Q E, sp3 p vs H Q E → vs.length = [a, b, c].length := fun vs H Q E h => by obtain ⟨x, y, u, rfl, _⟩ := h; rfl
section
variable {X : Cx} {k j : Nat} {c x m : Str} {sp : Sp} {p pos apos : Pos} {e o : Expr} {es : List Expr} {ta te : TE} {t : TA} {CX : CXT} {E : XK}
theorem hu_1 {A : Around} (z : RG gd k A) : A.units + 64 < cLine := by have := z.r.un; omega
theorem hu_2 {A : Around} (z : RG gd k A) : A.units + 65 < cLine := by have := z.r.un; omega
theorem hu_3 {A : Around} (z : RG gd k A) : A.units + 1 < cLine := by have := z.r.un; omega
theorem pe_c (c : Cal gd X.prog X.w X.K X.mg X.base CX0 k x sp) (z : RG gd j X.A) (ha : PA X (e :: es) t) (hk : k ≤ j := by decide) (hg : Gl X x := by rfl)
    (hdb : (x == ("__debug__" : Str)) = false := by decide) (he : starEach (e :: es) X.env = (false, eval e X.env) :: starEach es X.env := by rfl) (hpl : (backTo pos (starEach es X.env)).any (·.1) = false := by rfl) :
    PE X (.Call (.Name x p) (e :: es) [] pos) (tCall sp [] E0 t) := by
  obtain ⟨f, fd, ps, F, hm, kp, b⟩ := c.ex
  exact pe_callG F (z.mono hk) hg hm kp b .nil pass0 ha hdb he hpl
theorem pe_cX (c : Cal gd X.prog X.w X.K X.mg X.base CX k x sp) (z : RG gd j X.A) (hx : Passes CX X E) (ha : PA X (e :: es) t) (hk : k ≤ j := by decide) (hg : Gl X x := by rfl)
    (hdb : (x == ("__debug__" : Str)) = false := by decide) (he : starEach (e :: es) X.env = (false, eval e X.env) :: starEach es X.env := by rfl) (hpl : (backTo pos (starEach es X.env)).any (·.1) = false := by rfl) :
    PE X (.Call (.Name x p) (e :: es) [] pos) (tCall sp [] E t) := by
  obtain ⟨f, fd, ps, F, hm, kp, b⟩ := c.ex
  exact pe_callG F (z.mono hk) hg hm kp b .nil hx ha hdb he hpl
theorem pe_mk0 (c : Mak gd X.prog X.w X.K X.mg X.base CX0 k x sp) (z : RG gd j X.A) (hk : k + 1 ≤ j := by decide) (hg : Gl X x := by rfl)
    (hdb : (x == ("__debug__" : Str)) = false := by decide) :
    PE X (.Call (.Name x p) [] [] pos) (tMake (He.ga X.K x) sp [] E0 tNil) := by
  obtain ⟨f, fd, ps, M, F, hm, b⟩ := c.ex
  exact pe_makeG0 M F (z.mono hk) hg hm b .nil pass0 hdb
/-- a whole number of the module by its name -/
theorem pe_gi {i : Int} (h : ∃ t, X.mg x = some (.int i t)) (hg : Gl X x := by rfl) (hd : (x == ("__debug__" : Str)) = false := by decide) : PE X (.Name x pos) (tC (.int i)) := by
  obtain ⟨t, h⟩ := h
  exact pe_glob hg h ⟨t, rfl⟩ hd
/-- a def or a class of the module as a value -/
theorem pe_gl {a : Addr} (h : X.mg x = some (.ref a)) (hg : Gl X x := by rfl) (hd : (x == ("__debug__" : Str)) = false := by decide) : PE X (.Name x pos) (tC (.ref a)) := pe_glob hg h rfl hd
end
section
variable {P : Program} {w : World} {K : PySem.W.Frag} {mg : Str → Option Value} {base : Heap}
/-- a def that raises nothing -/
theorem Sy.cal (T : Sy K mg) {x : Str} {j : Nat} {N ps : List Str} {k : Nat} {sp : Sp} (F0 : FDx K (dG x j))
    (S : FnScope N ps (defScope (top j))) (len : ∀ vs H Q E, sp vs H Q E → vs.length = ps.length)
    (hbody : ∀ (cdv : Value) (f : Addr) (A : Around) (outer : List Env) (s : Shared) (H : Hp) (vs : List V) (Q : VK) (E : XK), RG gd k (A.deeper (envOfC x (defScope (top j)) s.heap.objs.size f cdv)) → sp vs H Q E →
      ∃ t, PSs (cxOf CX0 P w K mg base N x (defScope (top j)) f cdv A outer s H E).nox (defBody (top j)) t ∧ t { nx := fun _ H' => Q .non H', rt := Q } (start N vs) H)
    (hb : ∀ (kV doc pm : Value) (an : Option Addr) (cdv ct : Value) (us : List Value), us.length = ps.length → bindArgs (PySem.W.fnOf x x (defArgs (top j)) (defBody (top j)) (defScope (top j)) .none kV doc pm an cdv ct) ⟨us, []⟩ = pure (ps.zip us))
    (hg : fa.any (isGlo x) = true := by decide +kernel) : Cal gd P w K mg base CX0 (k + 1) x sp := by
  obtain ⟨fd, F⟩ := F0
  refine ⟨_, fd, ps, FnG.body F S len fun cdv A outer s H vs Q E hr h => ?_, T.glo x hg, F.kp, F.bindsN hb⟩
  obtain ⟨t, h1, h2⟩ := hbody cdv _ A outer s H vs Q E hr h
  exact ⟨t, h1.nox, h2⟩
end
section
variable {P : Program} {w : World} {K : PySem.W.Frag} {mg : Str → Option Value} {base : Heap}
/-- a class by its __init__ that raises nothing -/
theorem Sy.mak (T : Sy K mg) {c q : Str} {i j : Nat} {N ps : List Str} {k : Nat} {sp : Sp} (F0 : FDx K (dM c "__init__" q i j))
    (S : FnScope N ps (defScope (inClass (top i) j))) (len : ∀ vs H Q E, sp vs H Q E → vs.length = ps.length)
    (hbody : ∀ (cdv : Value) (f : Addr) (A : Around) (outer : List Env) (s : Shared) (H : Hp) (vs : List V) (Q : VK) (E : XK), RG gd k (A.deeper (envOfC q (defScope (inClass (top i) j)) s.heap.objs.size f cdv)) → sp vs H Q E →
      ∃ t, PSs (cxOf CX0 P w K mg base N q (defScope (inClass (top i) j)) f cdv A outer s H E).nox (defBody (inClass (top i) j)) t ∧ t { nx := fun _ H' => Q .non H', rt := Q } (start N vs) H)
    (hb : ∀ (kV doc pm : Value) (an : Option Addr) (cdv ct : Value) (us : List Value), us.length = ps.length → bindArgs (PySem.W.fnOf "__init__" q (defArgs (inClass (top i) j)) (defBody (inClass (top i) j)) (defScope (inClass (top i) j)) .none kV doc pm an cdv ct) ⟨us, []⟩ = pure (ps.zip us))
    (hg : fa.any (isGlo c) = true := by decide +kernel) (hk : fa.any (isMkr c) = true := by decide +kernel) : Mak gd P w K mg base CX0 (k + 1) c sp := by
  obtain ⟨fd, F⟩ := F0
  refine ⟨_, fd, ps, T.mkr c hk, FnG.body F S len fun cdv A outer s H vs Q E hr h => ?_, T.glo c hg, F.bindsN hb⟩
  obtain ⟨t, h1, h2⟩ := hbody cdv _ A outer s H vs Q E hr h
  exact ⟨t, h1.nox, h2⟩
end
/-! more operations by their kinds, and walks over any of them -/
section
variable {X : Cx}
def rLe2 : R2 := fun x y H Q => rI0 (fun i j => .bl (decide (i ≤ j))) x y H Q ∨ ∃ i j, x = .str i ∧ y = .str j ∧ Q (.bl (!decide (j.cps.toList < i.cps.toList))) H
theorem op_le2 : OpR X (compareOp .LtE) rLe2 := op_le.or op_le_str
/-- small data: what == and repr ask of it -/
structure Sm (n b : Nat) (d : PyData) : Prop where
  lay : d.canLay0 = true
  dep : d.depth ≤ n
  shw : PyData.showable d = true
  lvs : d.leavesShort 16 = true
  blk : d.bulk ≤ b
theorem Sm.mono {n b n' b' : Nat} {d : PyData} (h : Sm n b d) (hn : n ≤ n') (hb : b ≤ b') : Sm n' b' d := ⟨h.lay, Nat.le_trans h.dep hn, h.shw, h.lvs, Nat.le_trans h.blk hb⟩
theorem Sm.shaped {n b : Nat} {d : PyData} (h : Sm n b d) (hn : n ≤ 64 := by decide) : SeqAt.shaped d = true := by
  unfold SeqAt.shaped
  rw [h.lay, Bool.true_and]
  exact decide_eq_true (Nat.le_trans h.dep hn)
theorem Sm.none : Sm 0 0 .none := ⟨by decide, by decide, by decide, by decide, by decide⟩
theorem Sm.bl (c : Bool) : Sm 0 0 (.bool c) := by cases c <;> exact ⟨by decide, by decide, by decide, by decide, by decide⟩
theorem Sm.int {i : Int} (h1 : -999999999999 ≤ i) (h2 : i ≤ 999999999999) : Sm 0 0 (.int i) := by
  refine ⟨by simp only [PyData.canLay0], by simp [PyData.depth], ?_, ?_, by simp [PyData.bulk]⟩
  · simp only [PyData.showable, decide_eq_true_eq]
    by_cases h0 : i.natAbs = 0
    · rw [h0]; decide
    · exact Nat.lt_of_lt_of_le ((Nat.log2_lt h0).mpr (show i.natAbs < 2 ^ 40 by omega)) (by decide)
  · simp only [PyData.leavesShort, decide_eq_true_eq]
    exact Nat.le_trans (PyData.shown_int_le2 h1 h2) (by decide)
theorem Sm.all {n b : Nat} : ∀ {ds : List PyData}, (∀ d ∈ ds, Sm n b d) → PyData.canLayAll0 ds = true ∧ PyData.depthAll ds ≤ n ∧ PyData.showableAll ds = true ∧ PyData.leavesShortAll 16 ds = true ∧ PyData.bulkAll ds ≤ ds.length * (b + 1)
  | [], _ => ⟨by simp [PyData.canLayAll0], by simp [PyData.depthAll], by simp [PyData.showableAll], by simp [PyData.leavesShortAll], by simp [PyData.bulkAll]⟩
  | d :: ds, h => by
    obtain ⟨h1, h2, h3, h4, h5⟩ := Sm.all (ds := ds) fun x hx => h x (List.mem_cons_of_mem _ hx)
    have g := h d (List.mem_cons_self ..)
    refine ⟨by simp [PyData.canLayAll0, g.lay, h1], ?_, by simp [PyData.showableAll, g.shw, h3], by simp [PyData.leavesShortAll, g.lvs, h4], ?_⟩
    · simp only [PyData.depthAll]
      exact Nat.max_le.mpr ⟨g.dep, h2⟩
    · simp only [PyData.bulkAll, List.length_cons, Nat.add_mul]
      have := g.blk
      omega
theorem Sm.list {n b : Nat} {ds : List PyData} (h : ∀ d ∈ ds, Sm n b d) : Sm (n + 1) (ds.length * (b + 1)) (.list ds) := by
  obtain ⟨h1, h2, h3, h4, h5⟩ := Sm.all h
  exact ⟨by simpa only [PyData.canLay0] using h1, by simp only [PyData.depth]; omega, by simpa only [PyData.showable] using h3, by simpa only [PyData.leavesShort] using h4, by simpa only [PyData.bulk] using h5⟩
theorem Sm.tup {n b : Nat} {ds : List PyData} (h : ∀ d ∈ ds, Sm n b d) : Sm (n + 1) (ds.length * (b + 1)) (.tuple ds) := by
  obtain ⟨h1, h2, h3, h4, h5⟩ := Sm.all h
  exact ⟨by simpa only [PyData.canLay0] using h1, by simp only [PyData.depth]; omega, by simpa only [PyData.showable] using h3, by simpa only [PyData.leavesShort] using h4, by simpa only [PyData.bulk] using h5⟩
def rRepr (K : PySem.W.Frag) : List V → Hp → VK → Prop := fun xs H Q => ∃ x d, xs = [x] ∧ Dp K H x d ∧ Sm 50 100000 d ∧ Q (.str (PyData.shown d)) H
theorem call_repr {k : Nat} (z : RG true k X.A) : CallR X (.builtin "repr") (rRepr X.K) := by
  intro pins s σ H xs us Q I rx h
  obtain ⟨x, d, rfl, hd, hs, q⟩ := h
  obtain ⟨u, rfl, ru⟩ := Vals.one rx
  have hsz : d.shown.length ≤ sizeLine := by
    have h1 := PyData.shown_le_bulk 16 (by decide) d hs.lvs
    have h2 := hs.blk
    rw [sizeLine_eq]
    omega
  have fin : ∀ h' t tk, (∀ b o, s.heap.get? b = some o → h'.get? b = some o) → EP X pins σ Q (.str d.shown t) { s with heap := h', toks := tk } := fun h' t tk hk => ⟨.str d.shown, H, I.kept hk, ⟨_, rfl⟩, q⟩
  have fin0 : EP X pins σ Q (.str d.shown s.toks) { s with toks := s.toks + 1 } := fin s.heap s.toks (s.toks + 1) fun _ _ e => e
  have rr : ∀ a, u = Value.ref a → wpAny (model X.prog X.w) X.A (call (.builtin "repr") [.ref a]) (EP X pins σ Q) X.xe s := fun a e => by
    obtain ⟨as, r⟩ := Dp.reads I d x u hd ru
    rw [e] at r
    refine repr_of_reads' r hs.shw (PyData.noDict_hsm (PyData.hasDict_of_canLay d hs.lay)) (z.g rfl) ?_ (fun b o e => e) fin hsz
    have h1 := hs.dep
    have h2 := z.r.un
    omega
  cases hd with
  | non => cases (show u = Value.none from ru); exact P.repr_of_none fin0
  | bl b => cases (show u = Value.bool b from ru); exact P.repr_of_bool fin0
  | int i =>
    obtain ⟨t, e⟩ := (show ∃ t, u = Value.int i t from ru)
    subst e
    exact P.repr_of_int (by simpa [PyData.showable] using hs.shw) fin0
  | str y =>
    obtain ⟨t, e⟩ := (show ∃ t, u = Value.str y t from ru)
    subst e
    exact P.repr_of_str fin0 hsz
  | lst h1 h2 => cases (show u = Value.ref _ from ru); exact rr _ rfl
  | tup h1 h2 => cases (show u = Value.ref _ from ru); exact rr _ rfl
theorem mt_append2 : MtR X "list.append" rAppend := mt_append
theorem mt_extend2 : MtR X "list.extend" rExtend := mt_extend
theorem mt_index2 : MtR X "list.index" (rIndex X.K) := mt_index
def iAny (K : PySem.W.Frag) (te : TE) : TI := fun σ H R => iList K te σ H R ∨ iTup K te σ H R ∨ iStr te σ H R
theorem pi_any {tg e : Expr} {te : TE} (he : PE X e te) : PI X tg e (iAny X.K te) :=
  ⟨fun pins s σ H R I h => h.elim (fun h => (pi_list he).run pins s σ H R I h) fun h => h.elim (fun h => (pi_tup he).run pins s σ H R I h) fun h => (pi_str he).run pins s σ H R I h⟩
end
end L76
namespace L76
open PySem PySem.Spec PyProof.Rows L2
variable {gd : Bool}
local macro_rules | `(tactic| walk_at "y1") => `(tactic| with_reducible first
  | refine tSeq_i ?_ | refine tAsg_i ?_ | refine tCons_i ?_ | refine tNil_i ?_ | refine tC_i ?_ | refine tOp_i ?_ | refine tIfS_i ?_ | refine tTest_i ?_ | refine exBl_i ?_ | refine tRet_i ?_ | refine tCall_i ?_
  | refine tCB_i ?_ | refine tLst_i ?_ | refine tTup_i ?_ | refine rI0_i ?_ | refine tDrop_i ?_ | refine tNext_i ?_ | refine tB_i ?_ | refine tAnd_i ?_ | refine tOr_i ?_ | refine tNot_i ?_ | refine tAndV_i ?_ | refine tOrV_i ?_ | refine tNotV_i ?_
  | refine tIf_i ?_ | refine tUn_i ?_ | refine tDGet_i ?_ | refine sDPut_i ?_ | refine tFld_i ?_ | refine tRetN_i ?_ | refine tBreak_i ?_ | refine tCont_i ?_ | refine rU_i ?_)
local macro_rules | `(tactic| walk_at "yhead") => `(tactic| dsimp only [L2.start, List.map, List.length_cons, List.length_nil, Nat.reduceAdd, Nat.reduceSub, List.replicate, List.cons_append, List.nil_append])
local macro_rules | `(tactic| walk_at "y2") => `(tactic| first
  | walk_at "y1"
  | ((with_reducible refine tVar_i (v := ?v) ?h ?q); (case h => rfl))
  | ((with_reducible refine gName_i ?_); (dsimp only [List.set]))
  | ((with_reducible refine rEq_i ?h ?q); (case h => rfl)) | ((with_reducible refine rNe_i ?h ?q); (case h => rfl)))
local macro_rules | `(tactic| walk_at "y") => `(tactic| repeat walk_at "y2")
/-! enumerate(a tuple) -/
set_option maxHeartbeats 4000000 in
theorem meets_enumB {v : Value} {o : Obj} {Hh : Heap → Prop} (B : Begins v o Hh) :
    Meets (Builtin.«enumerate.__new__» ⟨[.type "enumerate", v], []⟩) (fun _ R s => Hh s.heap ∧
      R (.ok (.ret (.ref (s.heap.push o).objs.size))) { s with heap := (s.heap.push o).push { cls := .type "enumerate", data := .fields #[.none, .bool false, .ref s.heap.objs.size, rawInt 0, .none, .none] } }) :=
  .of_wp fun prog w A R s h => by
    obtain ⟨hp, g, d, tk, os⟩ := s; obtain ⟨h1, h⟩ := h
    have hsub := sub_enumerate
    have q1 : ∀ {A' : Around} {E : Value → Shared → Prop} {Q : Value → Shared → Prop}, Q (.ref hp.objs.size) ⟨hp.push o, g, d, tk, os⟩ → wpAny (model prog w) A' (pyIter v) Q E ⟨hp, g, d, tk, os⟩ :=
      fun q => B.iter prog w _ _ ⟨hp, g, d, tk, os⟩ _ h1 q
    wp_walk using q1
    refine wpAny_stack_any fun st => wpAny_pure ?_
    split
    · rename_i c _ _ _ _ _
      cases (c == Value.type "enumerate")
      · wp_walk using q1
        exact ⟨_, rfl, h⟩
      · wp_walk using q1
        exact ⟨_, rfl, h⟩
    · wp_walk using q1
      exact ⟨_, rfl, h⟩
theorem call_enumB {prog : Program} {w : World} {A : Around} {E : Value → Shared → Prop} {s : Shared} {v : Value} {o : Obj} {Hh : Heap → Prop} {Q : Value → Shared → Prop} (B : Begins v o Hh) (h1 : Hh s.heap)
    (h : ∀ h', IsEnum h' (s.heap.objs.size + 1) s.heap.objs.size 0 .none → h'.get? s.heap.objs.size = some o → h'.objs.size = s.heap.objs.size + 2 →
      (∀ b u, s.heap.get? b = some u → h'.get? b = some u) → Q (.ref (s.heap.objs.size + 1)) { s with heap := h' }) :
    wpAny (model prog w) A (call (.type "enumerate") [v]) Q E s := by
  refine callType_new F.called_enumerate (by decide) (F.typeCall_enumerate_1 _) (F.newCall_enumerate_1 _) (fun obj => F.args_object_init_2 obj _) F.entry_enumerate_new
    (meets_enumB B) ⟨h1, ?_⟩
  have hz : (s.heap.push o).objs.size = s.heap.objs.size + 1 := Heap.size_push ..
  show _ ∧ _
  rw [hz]
  have he : IsEnum ((s.heap.push o).push { cls := .type "enumerate", data := .fields #[.none, .bool false, .ref s.heap.objs.size, rawInt 0, .none, .none] }) (s.heap.objs.size + 1) s.heap.objs.size 0 .none := by
    have := Heap.get?_push_size (s.heap.push o) (o := { cls := .type "enumerate", data := .fields #[.none, .bool false, .ref s.heap.objs.size, rawInt 0, .none, .none] }) rfl
    rw [hz] at this; exact this
  exact ⟨⟨_, he, rfl⟩, h _ he (Heap.get?_push_of_some _ (Heap.get?_push_size _ B.free)) (by rw [Heap.size_push, hz]) fun b u x => Heap.get?_push_of_some _ (Heap.get?_push_of_some _ x)⟩
def IteT (K : PySem.W.Frag) (a : Addr) : It :=
  ⟨fun i H => ∃ xs x, SqT K H a xs ∧ xs[i]? = some x, fun i H v H' => ∃ T x, v = .ref T ∧ H T = none ∧ H' = upd H T (.tup [.int (i : Nat), x]) ∧ ∀ xs, SqT K H a xs → xs[i]? = some x, fun i H => ∃ xs, SqT K H a xs ∧ xs.length ≤ i⟩
theorem turn_enumT {P : Program} {w : World} {K : PySem.W.Frag} {elts : List Expr} {kk : Nat} {tpos : Pos} (a e it : Addr) (hai : a ≠ it) (hae : a ≠ e) :
    Turn P w K (.Tuple elts kk tpos) (IteT K a) [e, it] e (fun i h => (∃ old, IsEnum h e it ((i : Nat) : Int) old) ∧ h.IsTupleIter it a i ∧ e ≠ it) where
  mem := by simp
  obj := fun i h st b hb => by
    obtain ⟨⟨old, he⟩, ⟨o, ho, hc, hd⟩, _⟩ := st
    have e' : b = e ∨ b = it := by simpa using hb
    rcases e' with z | z
    · rw [z]; exact ⟨_, he, fun v q => nomatch q⟩
    · rw [z]; exact ⟨o, ho, fun v q => by rw [hd] at q; cases q⟩
  keep := fun i h h' st k => let ⟨⟨old, he⟩, hi, hne⟩ := st; ⟨⟨old, k e (by simp) _ he⟩, hi.at fun o q => k it (by simp) o q, hne⟩
  item := by
    intro X hP hw hK hc i pins s σ H E I hf st hg
    subst hP hw hK
    obtain ⟨⟨old, he⟩, hit, hne⟩ := st
    obtain ⟨xs, x, hq, hx⟩ := hg
    obtain ⟨its, rv, p, hz⟩ := I.tuple hq
    obtain ⟨u, hu, ru⟩ := rv.get hx
    have hel : e < s.heap.objs.size := Heap.lt_size he
    have hil : it < s.heap.objs.size := by obtain ⟨_, q, _⟩ := hit; exact Heap.lt_size q
    have hlt : i < its.toArray.size := by
      have h1 := (List.getElem?_eq_some_iff.mp hu).1
      simpa using h1
    refine wpAny_pyNext_enum_itemD (Draws.tuple (A := X.A.in1) (I.ok.hd hc) it a hai its.toArray) he ⟨hit, p⟩ hlt hne (by simp [hne, Ne.symm hae]) fun x' h' tk hx' ho hst hT hsz hk => ?_
    have ex : x' = u := by
      rw [List.getElem?_toArray, hu] at hx'
      exact (Option.some.inj hx').symm
    subst ex
    refine ⟨_, rfl, wpAny_letOwnedTupleGo_enum (s := { s with heap := h', toks := tk + 1 }) ho fun h'' he' sb => ?_⟩
    have hT2 : h''.get? s.heap.objs.size = some { cls := .type "tuple", data := .seq #[.int i tk, x'] } := (sb.2 _ (Nat.ne_of_gt hel)).trans hT
    have new : ObjOk X.prog X.w (upd H s.heap.objs.size (.tup [.int (i : Nat), x])) h'' s.heap.objs.size (.tup [.int (i : Nat), x]) :=
      ⟨by show 2 ≤ sizeLine; decide, [.int i tk, x'], .cons ⟨_, rfl⟩ (.cons ru .nil), ⟨_, hT2, rfl, _, rfl⟩⟩
    have I1 : Inv X pins σ (upd H s.heap.objs.size (.tup [.int (i : Nat), x])) { s with heap := h'', toks := tk + 1 } :=
      I.turnedNew (ch := [e, it]) (fun b ob hb q => (sb.2 b (fun z => hb (by simp [z]))).trans (hk b ob (fun z => hb (by simp [z])) (fun z => hb (by simp [z])) q)) hf (Nat.le_refl _) new
    refine ⟨.ref s.heap.objs.size, _, I1, rfl, ⟨_, x, rfl, I.hok.fresh (Nat.le_refl _), rfl, fun ys hy => by rw [I.tuple_inj hy hq]; exact hx⟩, ⟨⟨x', ?_⟩, hst.1.at fun o q => (sb.2 it (Ne.symm hne)).trans q, hne⟩, fun b hb => ?_⟩
    · have e1 : ((i + 1 : Nat) : Int) = (i : Int) + 1 := by omega
      rw [e1]; exact he'
    · have hb' : b < s.heap.objs.size := by
        have e' : b = e ∨ b = it := by simpa using hb
        rcases e' with z | z
        · rw [z]; exact hel
        · rw [z]; exact hil
      rw [upd_ne (Nat.ne_of_lt hb')]
      exact (hf b hb).1
  done := by
    intro X hP hw hK hc i pins s σ H E I hf st hg
    subst hP hw hK
    obtain ⟨⟨old, he⟩, hit, hne⟩ := st
    obtain ⟨xs, hq, hx⟩ := hg
    obtain ⟨its, rv, p, hz⟩ := I.tuple hq
    obtain ⟨f0, f1, f2, f3, f4, f5⟩ := hf it (by simp)
    have hl := rv.length
    have hT : s.TypeIs (.ref e) "enumerate" := ⟨_, he, rfl⟩
    unfold pyNext
    refine wpAny_bind (wpAny_attempt (wpAny_callSpecial?_slot (name := Str.ofString "__next__") hT F.slot_enumerate_next
      (wpAny_call_entry F.slot_enumerate_next hT F.entry_enumerate_next ?_ (F.args_enumerate_next_1 _))))
    show wpAny _ _ (field (.ref e) 2 >>= _) _ _ _
    refine wpAny_bind (wpAny_field he rfl (x := .ref it) rfl ?_)
    refine wpAny_bind (wpAny_nextOf_tuple_end (A := X.A.in1) (I.ok.hd hc) hit p (by simp; omega) fun h' x eb hx' => ?_)
    obtain ⟨o, ho, hcl⟩ := hx'
    refine wpAny_bind (wpAny_isInstance (T := "StopIteration") (b := true) ⟨o, ho, hcl⟩ isSubtype_stop ?_)
    exact wpAny_pure ⟨rfl, I.turned (t' := s.toks) (fun b o hb q => eb b o hb q) f0 f1 f3 f4 f5⟩
  self := fun A i s Q E st h => let ⟨⟨_, he⟩, _⟩ := st; wpAny_pyIter_enum he h
def iEnumT (K : PySem.W.Frag) (te : TE) : TI := fun σ H R => tCons te tNil σ H fun vs H1 => ∃ a xs, vs = [.ref a] ∧ SqT K H1 a xs ∧ R (IteT K a) H1
theorem pi_enumT {X : Cx} {e : Expr} {te : TE} {p pos tpos : Pos} {elts : List Expr} {kk : Nat} (hg : Gl X "enumerate") (hm : X.mg "enumerate" = none) (he : PE X e te) (ha : starEach [e] X.env = [(false, eval e X.env)] := by rfl) :
    PI X (.Tuple elts kk tpos) (.Call (.Name "enumerate" p) [e] [] pos) (iEnumT X.K te) := by
  refine ⟨fun pins s σ H R I h => ?_⟩
  refine Call_ (ld_blt I hg hm boot_enumerate (PyProof.Rows.callWith_type1 (thn ((pa_cons he pa_nil (hs := ha)).run pos pins s σ H _ I h) fun us s1 ⟨vs, H1, I1, r1, q1⟩ => ?_) ha rfl))
  obtain ⟨a, xs, ex, hq, q⟩ := q1
  subst ex
  cases r1 with
  | cons r rr =>
    cases rr
    cases r
    obtain ⟨its, rv, p', hz⟩ := I1.tuple hq
    have hal : a < s1.heap.objs.size := by obtain ⟨_, q, _⟩ := p'; exact Heap.lt_size q
    refine call_enumB (begins_tuple a its.toArray) p' fun h' he hit hsz hk => wpAny_pyIter_enum he ?_
    have I2 : Inv X pins σ H1 { s1 with heap := h' } := I1.kept (t' := s1.toks) hk
    refine ⟨s1.heap.objs.size + 1, [s1.heap.objs.size + 1, s1.heap.objs.size], _, _, H1, rfl, I2, turn_enumT a (s1.heap.objs.size + 1) s1.heap.objs.size (Nat.ne_of_lt hal) (Nat.ne_of_lt (Nat.lt_succ_of_lt hal)), ⟨⟨.none, he⟩, ⟨_, hit, rfl, rfl⟩, Nat.succ_ne_self _⟩, fun b hb => ?_, q⟩
    have e' : b = s1.heap.objs.size + 1 ∨ b = s1.heap.objs.size := by simpa using hb
    have hle : s1.heap.objs.size ≤ b := by
      rcases e' with z | z
      · rw [z]; exact Nat.le_add_right _ _
      · rw [z]; exact Nat.le_refl _
    exact I1.fpOk hle (I1.hok.fresh hle)
def iEnum2 (K : PySem.W.Frag) (te : TE) : TI := fun σ H R => iEnum K (tCons te tNil) σ H R ∨ iEnumT K te σ H R
theorem pi_enum2 {X : Cx} {e : Expr} {te : TE} {p pos tpos : Pos} {elts : List Expr} {kk : Nat} (hg : Gl X "enumerate") (hm : X.mg "enumerate" = none) (he : PE X e te) (ha : starEach [e] X.env = [(false, eval e X.env)] := by rfl) :
    PI X (.Tuple elts kk tpos) (.Call (.Name "enumerate" p) [e] [] pos) (iEnum2 X.K te) :=
  ⟨fun pins s σ H R I h => h.elim (fun h => (pi_enum hg hm (pa_cons he pa_nil (hs := ha)) (hs := ha)).run pins s σ H R I h) fun h => (pi_enumT hg hm he ha).run pins s σ H R I h⟩
theorem walk_enumT {K : PySem.W.Frag} {a : Addr} {xs : List V} : Walk (IteT K a) xs.length (fun H => SqT K H a xs) (YPair (fun i => some (.int (i : Nat))) (fun i => xs[i]?)) := by
  refine ⟨fun i _ hi q => ⟨xs, xs[i], q, by simp [hi]⟩, fun _ q => ⟨xs, q, Nat.le_refl _⟩, fun i H v H' _ q y => ?_⟩
  obtain ⟨T, x, h1, h2, h3, h4⟩ := y
  exact ⟨T, .int (i : Nat), x, h1, h2, h3, rfl, h4 xs q⟩
/-! sorted, remove, index, len; instances called; properties -/
section
variable {X : Cx} {CX : CXT} {n : Nat} {C g p : Addr} {fd : FuncData} {ps : List Str} {sp : Sp} {dvs : List V} {ds : List Value} {E : XK} {e fe : Expr} {es : List Expr} {ta tf : TE} {t : TA} {pos : Pos} {f : Str}
def rSorted2 (K : PySem.W.Frag) : List V → Hp → VK → Prop := fun xs H Q => rSortedI K xs H Q ∨ rSortedPO K xs H Q
theorem call_sorted2 : CallR X (.builtin "sorted") (rSorted2 X.K) := cr_sortedI.or cr_sortedPO
theorem mt_remove2 : MtR X "list.remove" rRemI := mt_remove
def rLen2 (K : PySem.W.Frag) : List V → Hp → VK → Prop := fun xs H Q => ∃ x n, xs = [x] ∧ LenV K x H n ∧ Q (.int n) H
theorem call_len2 : CallR X (.builtin "len") (rLen2 X.K) := call_len
def rTIdx (K : PySem.W.Frag) : V → List V → Hp → VK → Prop := fun x xs H Q => ∃ (p : Addr) (ns : List Int) (k : Int), x = .ref p ∧ xs = [.int k] ∧ SqT K H p (ns.map V.int) ∧ k ∈ ns ∧ Q (.int (ns.idxOf k : Nat)) H
theorem mt_tindex : MtR X "tuple.index" (rTIdx X.K) := by
  intro pins s σ H x xs v us Q I rx rs h
  obtain ⟨p, ns, k, rfl, rfl, hq, hk, q⟩ := h
  cases (show v = Value.ref p from rx)
  obtain ⟨u, rfl, t, rfl⟩ := vals1 rs
  obtain ⟨its, r, pl, hz⟩ := I.tuple hq
  exact PySem.SeqAt.tuple_index_ints pl r.ints hk ⟨.int (ns.idxOf k : Nat), H, I.tok _, ⟨_, rfl⟩, q⟩
theorem codeG {pins : List (Addr × Obj)} {σ : L2.St} {H : Hp} {st : Shared} {Q : VK} {us : List Value} {vs : List V} {fa : Addr} (F : FnG gd X.prog X.w X.K X.mg X.base CX n fa fd ps sp) (z : RG gd n X.A) (bd : Binds X.K fd ps []) (hx : Passes CX X E)
    (I : Inv X pins σ H st) (rv : Vals vs us) (q : sp vs H Q E) : codeAny (model X.prog X.w) X.A (.call (.ref fa) ⟨us, []⟩) (fun r s' => match r with | .ok (.ret v) => EP X pins σ Q v s' | .ok _ => False | .error e => X.xe e s') st := by
  have bd0 := bd st us I.kIn (by rw [List.append_nil, ← rv.length]; exact F.len _ _ _ _ q)
  rw [List.append_nil] at bd0
  refine codeAny_mono (F.run X.A X.stack st H ⟨us, []⟩ us vs Q E z I.env0 bd0 rv q) fun r sz hq => ?_
  cases r with
  | error er => exact hx pins σ H st er sz I hq
  | ok fl => cases fl <;> first | exact I.after hq | exact False.elim hq
/-- f(e, ..), f an expression that gives an instance of C -/
def tCallOG (C : Addr) (sp : Sp) (E : XK) (tf : TE) (t : TA) : TE := fun σ H Q => tf σ H fun y H1 => ∃ a, y = V.ref a ∧ t σ H1 fun vs H2 => (∃ dx fs, H2 a = some (.ins C dx fs)) ∧ sp (V.ref a :: vs) H2 Q E
theorem pe_callOG (hf : PE X fe tf) (c : StX.CallO X.K C g) (F : FnG gd X.prog X.w X.K X.mg X.base CX n g fd ps sp) (z : RG gd n X.A) (bd : Binds X.K fd ps []) (hx : Passes CX X E) (ha : PA X (e :: es) t)
    (ht : eval (.Call fe (e :: es) [] pos) X.env = (do callWith pos (← eval fe X.env) [] (backTo pos (starEach (e :: es) X.env)) (backToKw pos (keywordEach [] X.env))) := by rfl)
    (he : starEach (e :: es) X.env = (false, eval e X.env) :: starEach es X.env := by rfl) (hpl : (backTo pos (starEach es X.env)).any (·.1) = false := by rfl) : PE X (.Call fe (e :: es) [] pos) (tCallOG C sp E tf t) := by
  refine ⟨fun pins s σ H Q I h => ?_⟩
  refine Call_ (thn (hf.run pins s σ H _ I h) fun u s1 ⟨y, H1, I1, ry, a, ey, q⟩ => ?_) ht
  subst ey
  obtain rfl : u = Value.ref a := ry
  refine StX.callO_with (thn (ha.run pos pins s1 σ H1 _ I1 q) fun us s2 ⟨vs, H2, I2, r, hi, q2⟩ => ?_) he hpl
  obtain ⟨ox, od, J, hd⟩ := StX.insC_at I2 (.inr hi)
  exact ⟨⟨C, ox, od, J, hd⟩, wpAny_call (PySem.W.kco_code I2.kIn J hd c.at_ c.fn c.fi (codeG (us := .ref a :: us) (vs := .ref a :: vs) F z bd hx I2 (.cons rfl r) q2))⟩
/-- e.f, a property -/
theorem pe_propG (he : PE X e ta) (c : Cls X.K C) (hp : PropOf X.K C f p g) (F : FnG gd X.prog X.w X.K X.mg X.base CX n g fd ps sp) (z : RG gd (n + 1) X.A) (hb : Binds X.K fd ps ds) (hd : Vals dvs ds) (hx : Passes CX X.nox E)
    (hab : attributeBase e f X.env (eval e X.env) = eval e X.env := by rfl) : PE X (.Attribute e f pos) (tProp C sp dvs E ta) := by
  refine ⟨fun pins s σ H Q I h => ?_⟩
  refine attr_of hab (thn (he.run pins s σ H _ I h) fun u s1 ⟨x, H1, I1, rx, a, dx, fs, ex, ea, q⟩ => ?_)
  subst ex
  obtain rfl : u = Value.ref a := rx
  obtain ⟨mA, O, _, _, _, _⟩ := ins_get I1.hok ea
  obtain ⟨od, J, _⟩ := O.look
  obtain ⟨rest, hrec⟩ := hp.rec_
  have I2 := I1.tok (s1.toks + 1)
  have hl : ([Value.ref a] ++ ds).length = ps.length := by
    rw [← F.len _ _ _ _ q]
    show ds.length + 1 = dvs.length + 1
    rw [hd.length]
  have hc : (PySem.W.clsIn X.K C).isSome = true := by
    obtain ⟨cd, hc, _⟩ := PySem.W.any_some c.hd
    rw [hc]
    rfl
  refine PySem.W.get_bind I1.kIn J (PySem.W.plainGet_of (c.get f)).1 (PySem.W.findObj_data hc hp.at_ hp.get hp.tak) (PySem.W.plainGet_of (c.get f)).2 (wpAny_call (PySem.W.prop_get (s := { s1 with toks := s1.toks + 1 }) I1.kIn hrec ?_))
  refine codeAny_mono (F.run X.A.in1 X.stack { s1 with toks := s1.toks + 1 } H1 ⟨[.ref a], []⟩ (.ref a :: ds) (.ref a :: dvs) Q E z.one I2.env0.in1 (hb _ [.ref a] I2.kIn hl) (.cons rfl hd) q) fun r s' hq => ?_
  cases r with
  | error er => exact False.elim (hx pins σ H1 { s1 with toks := s1.toks + 1 } er s' (I2.wish _) hq)
  | ok fl =>
    cases fl with
    | ret u =>
      obtain ⟨v, H', I3, rv, q3⟩ := I2.after hq
      show wpAny _ _ (handedOut u) _ _ _
      rw [PySem.W.handedOut_of (handed_of rv)]
      exact wpAny_pure ⟨v, H', I3, rv, q3⟩
    | next => exact False.elim hq
    | brk => exact False.elim hq
    | cont => exact False.elim hq
end
end L76
namespace L76
open PySem PySem.Spec PyProof.Rows L2
variable {gd : Bool}
local macro_rules | `(tactic| walk_at "y1") => `(tactic| with_reducible first
  | refine tSeq_i ?_ | refine tAsg_i ?_ | refine tCons_i ?_ | refine tNil_i ?_ | refine tC_i ?_ | refine tOp_i ?_ | refine tIfS_i ?_ | refine tTest_i ?_ | refine exBl_i ?_ | refine tRet_i ?_ | refine tCall_i ?_
  | refine tCB_i ?_ | refine tLst_i ?_ | refine tTup_i ?_ | refine rI0_i ?_ | refine tDrop_i ?_ | refine tNext_i ?_ | refine tB_i ?_ | refine tAnd_i ?_ | refine tOr_i ?_ | refine tNot_i ?_ | refine tAndV_i ?_ | refine tOrV_i ?_ | refine tNotV_i ?_
  | refine tIf_i ?_ | refine tUn_i ?_ | refine tDGet_i ?_ | refine sDPut_i ?_ | refine tFld_i ?_ | refine tRetN_i ?_ | refine tBreak_i ?_ | refine tCont_i ?_ | refine rU_i ?_)
local macro_rules | `(tactic| walk_at "yhead") => `(tactic| dsimp only [L2.start, List.map, List.length_cons, List.length_nil, Nat.reduceAdd, Nat.reduceSub, List.replicate, List.cons_append, List.nil_append])
local macro_rules | `(tactic| walk_at "y2") => `(tactic| first
  | walk_at "y1"
  | ((with_reducible refine tVar_i (v := ?v) ?h ?q); (case h => rfl))
  | ((with_reducible refine gName_i ?_); (dsimp only [List.set]))
  | ((with_reducible refine rEq_i ?h ?q); (case h => rfl)) | ((with_reducible refine rNe_i ?h ?q); (case h => rfl)))
local macro_rules | `(tactic| walk_at "y") => `(tactic| repeat walk_at "y2")
/-! readings of walks -/
/-- the object of a list (true) or a tuple (false) -/
def sq : Bool → List V → HO | true, xs => .lst xs | false, xs => .tup xs
def SqB (K : PySem.W.Frag) : Bool → Hp → Addr → List V → Prop | true, H, a, xs => SqL K H a xs | false, H, a, xs => SqT K H a xs
theorem SqB.of {K : PySem.W.Frag} : ∀ {b : Bool} {H : Hp} {a : Addr} {xs : List V}, H a = some (sq b xs) → SqB K b H a xs
  | true, _, _, _, h => SqL.of h
  | false, _, _, _, h => SqT.of h
def itB (K : PySem.W.Frag) : Bool → Addr → It | true, a => Itl K a | false, a => Itt K a
def iteB (K : PySem.W.Frag) : Bool → Addr → It | true, a => Ite K a | false, a => IteT K a
theorem walk_b {K : PySem.W.Frag} {a : Addr} {xs : List V} : ∀ {b : Bool}, Walk (itB K b a) xs.length (fun H => H a = some (sq b xs)) (YAt xs)
  | true => walk_list.mono (fun _ h => SqL.of h) fun _ _ _ _ _ _ y => y
  | false => walk_tup.mono (fun _ h => SqT.of h) fun _ _ _ _ _ _ y => y
theorem walk_eb {K : PySem.W.Frag} {a : Addr} {xs : List V} : ∀ {b : Bool}, Walk (iteB K b a) xs.length (fun H => H a = some (sq b xs)) (YPair (fun i => some (.int (i : Nat))) (fun i => xs[i]?))
  | true => walk_enum.mono (fun _ h => SqL.of h) fun _ _ _ _ _ _ y => y
  | false => walk_enumT.mono (fun _ h => SqT.of h) fun _ _ _ _ _ _ y => y
theorem same_upd {H : Hp} {p : Addr} {o : HO} (h : H p = none) : Same H (upd H p o) := fun b u e => by
  rw [upd_ne (ne_of_none e h)]; exact e
theorem same_pair {xs ys : Nat → Option V} {i : Nat} {H H' : Hp} {v : V} (y : YPair xs ys i H v H') : Same H H' := by
  obtain ⟨T, x, z, _, h, rfl, _⟩ := y
  exact same_upd h
section
variable {K : PySem.W.Frag} {σ : L2.St} {H : Hp} {D : Ends} {g : TG} {tb : TS} {te : TE} {ta : TA} {tt : TT} {vs : List Nat} {Q : VK} {J : It} {n : Nat} {G : Hp → Prop} {Y : Nat → Hp → V → Hp → Prop} {el : TE}
/-- what a for asks of its walk -/
abbrev ForR (J : It) (g : TG) (tb : TS) (D : Ends) (σ : L2.St) (H1 : Hp) : Prop := ∃ W : Nat → Nat → L2.St → Hp → Prop, (∃ m, W 0 m σ H1) ∧ ∀ i m σ H, W i m σ H →
  (J.stop i H ∧ D.nx σ H) ∨ (J.go i H ∧ ∃ N : L2.St → Hp → Prop, (∀ σ' H', N σ' H' → ∃ m', m' < m ∧ W (i + 1) m' σ' H') ∧ ∀ x H', J.yld i H x H' → g x σ H' fun σ2 H2 => tb { D with nx := N, ct := N, bk := D.nx } σ2 H2)
/-- what a comprehension asks of its walk -/
abbrev LcR (J : It) (g : TG) (tt : TT) (el : TE) (vs : List Nat) (σ : L2.St) (H1 : Hp) (Q : VK) : Prop := ∀ D, H1 D = none → ∃ W : Nat → Nat → Hp → Prop, (∃ m, W 0 m (upd H1 D (.lst []))) ∧ ∀ i m H, W i m H →
  (J.stop i H ∧ Q (.ref D) H) ∨ (J.go i H ∧ ∃ Nx : Hp → Prop, (∀ H', Nx H' → ∃ m', m' < m ∧ W (i + 1) m' H') ∧ ∀ x H', J.yld i H x H' → g x (wipe σ vs) H' fun σ2 H2 => wipe σ2 vs = wipe σ vs ∧ tt σ2 H2 fun b H3 =>
    if b = true then el σ2 H3 fun y H4 => ∃ acc, H4 D = some (.lst acc) ∧ acc.length < sizeLine ∧ Nx (upd H4 D (.lst (acc ++ [y]))) else Nx H3)
theorem for_b (b : Bool) (q : te σ H fun x H1 => ∃ a, x = .ref a ∧ (∃ xs, SqB K b H1 a xs) ∧ ForR (itB K b a) g tb D σ H1) : tFor (iAny K te) g tb D σ H := by
  cases b
  · exact .inr (.inl q)
  · exact .inl q
theorem for_eb (b : Bool) (q : te σ H fun x H1 => ∃ a xs, [x] = [.ref a] ∧ SqB K b H1 a xs ∧ ForR (iteB K b a) g tb D σ H1) : tFor (iEnum2 K te) g tb D σ H := by
  cases b
  · exact .inr q
  · exact .inl q
theorem for_s (q : te σ H fun x H1 => ∃ z, x = .str z ∧ ForR (Its z) g tb D σ H1) : tFor (iAny K te) g tb D σ H := .inr (.inr q)
theorem for_r1 (q : ta σ H fun us H1 => ∃ j : Int, us = [.int j] ∧ -(2 ^ 62) ≤ j ∧ j < 2 ^ 62 ∧ ForR (Itr 0 j.toNat) g tb D σ H1) : tFor (iRng1 ta) g tb D σ H := q
theorem lc_b (b : Bool) (q : te σ H fun x H1 => ∃ a, x = .ref a ∧ (∃ xs, SqB K b H1 a xs) ∧ LcR (itB K b a) g tt el vs σ H1 Q) : tLc (iAny K te) g tt el vs σ H Q := by
  cases b
  · exact .inr (.inl q)
  · exact .inl q
theorem lc_eb (b : Bool) (q : te σ H fun x H1 => ∃ a xs, [x] = [.ref a] ∧ SqB K b H1 a xs ∧ LcR (iteB K b a) g tt el vs σ H1 Q) : tLc (iEnum2 K te) g tt el vs σ H Q := by
  cases b
  · exact .inr q
  · exact .inl q
theorem lc_s (q : te σ H fun x H1 => ∃ z, x = .str z ∧ LcR (Its z) g tt el vs σ H1 Q) : tLc (iAny K te) g tt el vs σ H Q := .inr (.inr q)
theorem lc_r1 (q : ta σ H fun us H1 => ∃ j : Int, us = [.int j] ∧ -(2 ^ 62) ≤ j ∧ j < 2 ^ 62 ∧ LcR (Itr 0 j.toNat) g tt el vs σ H1 Q) : tLc (iRng1 ta) g tt el vs σ H Q := q
theorem lc_r2 (q : ta σ H fun us H1 => ∃ i j : Int, us = [.int i, .int j] ∧ (-(2 ^ 62) ≤ i ∧ i < 2 ^ 62 ∧ -(2 ^ 62) ≤ j ∧ j < 2 ^ 62) ∧ LcR (Itr i (j - i).toNat) g tt el vs σ H1 Q) : tLc (iRng2 ta) g tt el vs σ H Q := q
theorem paired_append {α β : Type} {F : α → β → Prop} : ∀ {xs : List α} {ys : List β} {us : List α} {ws : List β}, Paired F xs ys → Paired F us ws → Paired F (xs ++ us) (ys ++ ws)
  | _, _, _, _, .nil, s => s
  | _, _, _, _, .cons r t, s => .cons r (paired_append t s)
/-- all but the lists stays -/
def SameT (H H' : Hp) : Prop := ∀ b o, H b = some o → (∀ xs, o ≠ .lst xs) → H' b = some o
theorem sT {H H' : Hp} (s : Same H H') : SameT H H' := fun b o e _ => s b o e
theorem sameT_upd {H : Hp} {p : Addr} {xs : List V} {o : HO} (h : H p = some (.lst xs)) : SameT H (upd H p o) := fun b u e n => by
  rw [upd_ne (fun z => by rw [z, h] at e; exact n xs (Option.some.inj e).symm)]; exact e
/-- a reading of a value that leans on no list -/
def Firm {α : Type} (ρ : Hp → V → α → Prop) : Prop := ∀ H H' v a, SameT H H' → ρ H v a → ρ H' v a
theorem Firm.all {α : Type} {ρ : Hp → V → α → Prop} (f : Firm ρ) {H H' : Hp} (s : SameT H H') {vs : List V} {as : List α} (h : Paired (ρ H) vs as) : Paired (ρ H') vs as := h.mono fun v a r => f _ _ _ _ s r
/-- a comprehension whose turns leave all that stands: what it gives is told by f and ρ -/
theorem lc_pure {α : Type} (w : Walk J n G Y) (hn : n ≤ sizeLine) (f : Nat → Option α) {ρ : Hp → V → α → Prop} (hρ : Firm ρ) (hG : ∀ H', Same H H' → G H') (hY : ∀ i H x H', Y i H x H' → Same H H')
    (hs : ∀ i x H0 H', i < n → Same H H0 → Same H H' → Y i H0 x H' → ∀ (N : Hp → Prop) (C : VK), (∀ y H4 a, Same H' H4 → f i = some a → ρ H4 y a → C y H4) → (f i = none → ∀ H3, Same H' H3 → N H3) →
      g x (wipe σ vs) H' fun σ2 H2 => wipe σ2 vs = wipe σ vs ∧ tt σ2 H2 fun b H3 => if b = true then el σ2 H3 C else N H3)
    (hd : ∀ D H' vs, H D = none → Same H H' → H' D = some (.lst vs) → Paired (ρ H') vs ((List.range n).filterMap f) → Q (.ref D) H') :
    LcR J g tt el vs σ H Q := by
  intro D hD
  have up : ∀ {H' : Hp} {o : HO}, Same H H' → Same H (upd H' D o) := fun s b o e => by rw [upd_ne (ne_of_none e hD)]; exact s b o e
  refine lc_it w (Pv := fun i H' => Same H H' ∧ ∃ us, H' D = some (.lst us) ∧ Paired (ρ H') us ((List.range i).filterMap f)) ⟨up (Same.refl H), [], upd_same, .nil⟩ (fun i H' _ p => hG H' p.1) (fun i x H0 H' hi p y => ?_) fun H' p => ?_
  · obtain ⟨s0, us, hu, pr⟩ := p
    have sY := hY i H0 x H' y
    have s1 := s0.trans sY
    have lenU : us.length ≤ i := by
      rw [pr.length]
      exact Nat.le_trans (List.length_filterMap_le ..) (by simp)
    refine hs i x H0 H' hi s0 s1 y _ _ (fun v H4 a s4 fa ra => ?_) fun fn H3 s3 => ?_
    · have hu4 := s4 _ _ (sY _ _ hu)
      have sD : SameT H4 (upd H4 D (.lst (us ++ [v]))) := sameT_upd hu4
      refine ⟨us, hu4, by omega, up (s1.trans s4), us ++ [v], upd_same, ?_⟩
      rw [List.range_succ, List.filterMap_append]
      simp only [List.filterMap_cons, fa, List.filterMap_nil]
      exact paired_append (hρ.all sD (hρ.all (sT (sY.trans s4)) pr)) (.cons (hρ _ _ _ _ sD ra) .nil)
    · refine ⟨s1.trans s3, us, s3 _ _ (sY _ _ hu), ?_⟩
      rw [List.range_succ, List.filterMap_append]
      simp only [List.filterMap_cons, fn, List.filterMap_nil, List.append_nil]
      exact hρ.all (sT (sY.trans s3)) pr
  · obtain ⟨s0, us, hu, pr⟩ := p
    exact hd D H' us hD s0 hu pr
end
/-- the value itself -/
def FR {α : Type} (f : α → V) : Hp → V → α → Prop := fun _ v a => v = f a
theorem firm_FR {α : Type} (f : α → V) : Firm (FR f) := fun _ _ _ _ _ h => h
/-- a tuple that stands -/
def TR {α : Type} (f : α → List V) : Hp → V → α → Prop := fun H v a => ∃ p, v = .ref p ∧ H p = some (.tup (f a))
theorem firm_TR {α : Type} (f : α → List V) : Firm (TR f) := fun _ _ _ _ s h => let ⟨p, e, k⟩ := h; ⟨p, e, s _ _ k fun _ z => nomatch z⟩
theorem paired_FR {α : Type} {f : α → V} {H : Hp} : ∀ {vs : List V} {as : List α}, Paired (FR f H) vs as → vs = as.map f
  | _, _, .nil => rfl
  | _, _, .cons h t => by rw [paired_FR t, h]; rfl
theorem FR_paired {α : Type} {f : α → V} {H : Hp} : ∀ {as : List α}, Paired (FR f H) (as.map f) as
  | [] => .nil
  | _ :: _ => .cons rfl FR_paired
theorem paired_at {α β : Type} {F : α → β → Prop} : ∀ {xs : List α} {ys : List β}, Paired F xs ys → ∀ {i : Nat} {y : β}, ys[i]? = some y → ∃ x, xs[i]? = some x ∧ F x y
  | _, _, .nil, _, _, h => by simp at h
  | _, _, .cons r _, 0, _, h => by simp at h; subst h; exact ⟨_, rfl, r⟩
  | _, _, .cons _ t, i + 1, _, h => by
    obtain ⟨x, h1, h2⟩ := paired_at t (i := i) (by simpa using h)
    exact ⟨x, by simpa using h1, h2⟩
theorem paired_of {α β : Type} {F : α → β → Prop} {xs : List α} {ys : List β} (h : Paired F xs ys) {i : Nat} {x : α} (e : xs[i]? = some x) : ∃ y, ys[i]? = some y ∧ F x y := by
  have hl := h.length
  obtain ⟨hi, _⟩ := List.getElem?_eq_some_iff.mp e
  have h1 : i < ys.length := by omega
  obtain ⟨x', h2, h3⟩ := paired_at h (i := i) (y := ys[i]) (List.getElem?_eq_getElem h1)
  rw [e] at h2
  exact ⟨_, List.getElem?_eq_getElem h1, by rw [Option.some.inj h2]; exact h3⟩
end L76
namespace L76
open PySem PySem.Spec PyProof.Rows L2
variable {gd : Bool}
local macro_rules | `(tactic| walk_at "y1") => `(tactic| with_reducible first
  | refine tSeq_i ?_ | refine tAsg_i ?_ | refine tCons_i ?_ | refine tNil_i ?_ | refine tC_i ?_ | refine tOp_i ?_ | refine tIfS_i ?_ | refine tTest_i ?_ | refine exBl_i ?_ | refine tRet_i ?_ | refine tCall_i ?_
  | refine tCB_i ?_ | refine tLst_i ?_ | refine tTup_i ?_ | refine rI0_i ?_ | refine tDrop_i ?_ | refine tNext_i ?_ | refine tB_i ?_ | refine tAnd_i ?_ | refine tOr_i ?_ | refine tNot_i ?_ | refine tAndV_i ?_ | refine tOrV_i ?_ | refine tNotV_i ?_
  | refine tIf_i ?_ | refine tUn_i ?_ | refine tDGet_i ?_ | refine sDPut_i ?_ | refine tFld_i ?_ | refine tRetN_i ?_ | refine tBreak_i ?_ | refine tCont_i ?_ | refine rU_i ?_)
local macro_rules | `(tactic| walk_at "yhead") => `(tactic| dsimp only [L2.start, List.map, List.length_cons, List.length_nil, Nat.reduceAdd, Nat.reduceSub, List.replicate, List.cons_append, List.nil_append])
local macro_rules | `(tactic| walk_at "y2") => `(tactic| first
  | walk_at "y1"
  | ((with_reducible refine tVar_i (v := ?v) ?h ?q); (case h => rfl))
  | ((with_reducible refine gName_i ?_); (dsimp only [List.set]))
  | ((with_reducible refine rEq_i ?h ?q); (case h => rfl)) | ((with_reducible refine rNe_i ?h ?q); (case h => rfl)))
local macro_rules | `(tactic| walk_at "y") => `(tactic| repeat walk_at "y2")
/-! the readings of the operations by kinds -/
section
variable {K : PySem.W.Frag} {σ : L2.St} {H : Hp} {Q : VK} {x y v : V} {i j : Int} {p a : Addr} {xs ys : List V}
theorem rAdd2_i (q : Q (.int (i + j)) H) : rAdd2 K (.int i) (.int j) H Q := .inl ⟨i, j, rfl, rfl, q⟩
theorem rAdd2_l {zs : List V} {b : Addr} (h1 : H a = some (.lst xs)) (h2 : H b = some (.lst zs)) (hz : xs.length + zs.length ≤ sizeLine) (q : ∀ p, H p = none → Q (.ref p) (upd H p (.lst (xs ++ zs)))) : rAdd2 K (.ref a) (.ref b) H Q :=
  .inr (.inr (.inl ⟨a, b, xs, zs, rfl, rfl, h1, h2, hz, q⟩))
theorem rMul2_i (c : CMul i j) (q : Q (.int (i * j)) H) : rMul2 K (.int i) (.int j) H Q := .inl ⟨i, j, rfl, rfl, c, q⟩
theorem rEq2_s (h : scal x y = true) (q : Q (.bl (decide (x = y))) H) : rEq2 K x y H Q := .inl ⟨h, q⟩
theorem rNe2_s (h : scal x y = true) (q : Q (.bl (!decide (x = y))) H) : rNe2 K x y H Q := .inl ⟨h, q⟩
theorem rEq2_d {d e : PyData} (h1 : Dp K H x d) (h2 : Dp K H y e) (s1 : SeqAt.shaped d = true) (s2 : SeqAt.shaped e = true) (q : Q (.bl (PyData.eqv d e)) H) : rEq2 K x y H Q := .inr ⟨d, e, h1, h2, s1, s2, q⟩
theorem rNe2_d {d e : PyData} (h1 : Dp K H x d) (h2 : Dp K H y e) (s1 : SeqAt.shaped d = true) (s2 : SeqAt.shaped e = true) (q : Q (.bl (!PyData.eqv d e)) H) : rNe2 K x y H Q := .inr ⟨d, e, h1, h2, s1, s2, q⟩
theorem rEq2_i (q : Q (.bl (decide (i = j))) H) : rEq2 K (.int i) (.int j) H Q := .inl ⟨rfl, by rw [show decide (V.int i = V.int j) = decide (i = j) by simp]; exact q⟩
theorem rEq2_ss {s t : Str} (q : Q (.bl (decide (s = t))) H) : rEq2 K (.str s) (.str t) H Q := .inl ⟨rfl, by rw [show decide (V.str s = V.str t) = decide (s = t) by simp]; exact q⟩
theorem rNe2_i (q : Q (.bl (!decide (i = j))) H) : rNe2 K (.int i) (.int j) H Q := .inl ⟨rfl, by rw [show decide (V.int i = V.int j) = decide (i = j) by simp]; exact q⟩
theorem rNe2_ss {s t : Str} (q : Q (.bl (!decide (s = t))) H) : rNe2 K (.str s) (.str t) H Q := .inl ⟨rfl, by rw [show decide (V.str s = V.str t) = decide (s = t) by simp]; exact q⟩
def rIsN : R2 := fun x y H Q => y = .non ∧ Q (.bl (decide (x = .non))) H
def rNotN : R2 := fun x y H Q => y = .non ∧ Q (.bl (!decide (x = .non))) H
theorem rIsN_i (q : Q (.bl (decide (x = .non))) H) : rIsN x .non H Q := ⟨rfl, q⟩
theorem rNotN_i (q : Q (.bl (!decide (x = .non))) H) : rNotN x .non H Q := ⟨rfl, q⟩
theorem rLe2_i (q : Q (.bl (decide (i ≤ j))) H) : rLe2 (.int i) (.int j) H Q := .inl ⟨i, j, rfl, rfl, q⟩
theorem rLe2_s {s t : Str} (q : Q (.bl (!decide (t.cps.toList < s.cps.toList))) H) : rLe2 (.str s) (.str t) H Q := .inr ⟨s, t, rfl, rfl, q⟩
theorem iteNT {A B : Prop} (h : B) : if (!true) = true then A else B := by rw [if_neg (by decide)]; exact h
theorem iteNF {A B : Prop} (h : A) : if (!false) = true then A else B := by rw [if_pos (by decide)]; exact h
theorem iteDT {p A B : Prop} [Decidable p] (h : p) (q : A) : if decide p = true then A else B := by rw [if_pos (decide_eq_true h)]; exact q
theorem iteDF {p A B : Prop} [Decidable p] (h : ¬ p) (q : B) : if decide p = true then A else B := by rw [if_neg (by rw [decide_eq_false h]; decide)]; exact q
theorem iteNDT {p A B : Prop} [Decidable p] (h : p) (q : B) : if (!decide p) = true then A else B := by rw [if_neg (by rw [decide_eq_true h]; decide)]; exact q
theorem iteNDF {p A B : Prop} [Decidable p] (h : ¬ p) (q : A) : if (!decide p) = true then A else B := by rw [if_pos (by rw [decide_eq_false h]; rfl)]; exact q
theorem le1 {a b : Nat} : (!decide (([b] : List Nat) < [a])) = decide (a ≤ b) := by
  by_cases h : a ≤ b
  · rw [decide_eq_true h]
    have : ¬ (([b] : List Nat) < [a]) := by simp [List.cons_lt_cons_iff]; omega
    simp [this]
  · rw [decide_eq_false h]
    have : (([b] : List Nat) < [a]) := by simp [List.cons_lt_cons_iff]; omega
    simp [this]
theorem rLe2_c1 {s : Str} {n c : Nat} (h : s.cps.toList = [n]) (q : Q (.bl (decide (n ≤ c))) H) : rLe2 (.str s) (.str ⟨#[c]⟩) H Q := rLe2_s (by rw [h]; rw [← le1] at q; exact q)
theorem rLe2_c2 {s : Str} {n c : Nat} (h : s.cps.toList = [n]) (q : Q (.bl (decide (c ≤ n))) H) : rLe2 (.str ⟨#[c]⟩) (.str s) H Q := rLe2_s (by rw [h]; rw [← le1] at q; exact q)
theorem rGet_l {n : Nat} {k : Int} (h : SqL K H a xs) (e : xs[n]? = some v) (q : Q v H) (hk : k = n := by rfl) : rGet K (.ref a) (.int k) H Q := by
  subst hk
  exact .inl (.inl ⟨a, xs, n, v, rfl, rfl, h, atI_nat e, q⟩)
theorem rGet_t {n : Nat} {k : Int} (h : SqT K H a xs) (e : xs[n]? = some v) (q : Q v H) (hk : k = n := by rfl) : rGet K (.ref a) (.int k) H Q := by
  subst hk
  exact .inl (.inr (.inl ⟨a, xs, n, v, rfl, rfl, h, atI_nat e, q⟩))
theorem rGet_b {b : Bool} {n : Nat} {k : Int} (h : SqB K b H a xs) (e : xs[n]? = some v) (q : Q v H) (hk : k = n := by rfl) : rGet K (.ref a) (.int k) H Q := by
  cases b
  · exact rGet_t h e q hk
  · exact rGet_l h e q hk
theorem rGet_at {k : Int} (h : SqL K H a xs) (e : atI xs k = some v) (q : Q v H) : rGet K (.ref a) (.int k) H Q := .inl (.inl ⟨a, xs, k, v, rfl, rfl, h, e, q⟩)
theorem rGet_s {s : Str} {n : Nat} {k : Int} {c : Nat} (hz : s.length ≤ sizeLine) (e : s.cps.toList[n]? = some c) (q : Q (.str ⟨#[c]⟩) H) (hk : k = n := by rfl) : rGet K (.str s) (.int k) H Q := by
  subst hk
  exact .inl (.inr (.inr ⟨s, n, c, rfl, rfl, hz, atI_nat e, q⟩))
theorem rGet_d {kvs : List (Key × V)} {k : Key} (h : H a = some (.dK kvs)) (e : valV kvs k = some v) (q : Q v H) (hy : y = kV k := by rfl) : rGet K (.ref a) y H Q :=
  .inr ⟨a, v, rfl, by rw [hy, ← e]; exact DGet.k h, q⟩
theorem rIn2_f {b : Bool} (h : SqB K b H p xs) (fx : flatV x = true) (f : xs.all flatV = true) (q : Q (.bl (inV x xs)) H) : rIn2 K x (.ref p) H Q :=
  .inl ⟨p, xs, rfl, by cases b; exact .inr h; exact .inl h, fx, f, q⟩
theorem rNotIn2_f {b : Bool} (h : SqB K b H p xs) (fx : flatV x = true) (f : xs.all flatV = true) (q : Q (.bl (!inV x xs)) H) : rNotIn2 K x (.ref p) H Q :=
  .inl ⟨p, xs, rfl, by cases b; exact .inr h; exact .inl h, fx, f, q⟩
theorem rNotIn2_d {d : PyData} {ds : List PyData} (h1 : Dp K H x d) (h2 : Dp K H y (.list ds)) (s1 : SeqAt.shaped d = true) (s2 : SeqAt.shaped (.list ds) = true) (q : Q (.bl (!ds.any fun z => PyData.eqv z d)) H) : rNotIn2 K x y H Q :=
  .inr (.inl ⟨d, ds, h1, h2, s1, s2, q⟩)
theorem rLen2_b {b : Bool} (h : SqB K b H p xs) (q : Q (.int xs.length) H) : rLen2 K [.ref p] H Q :=
  ⟨.ref p, xs.length, rfl, by cases b; exact .inr ⟨xs, h, rfl⟩; exact .inl ⟨xs, h, rfl⟩, q⟩
theorem rLen2_l {n : Nat} (h : SqL K H p xs) (q : Q (.int n) H) (hn : xs.length = n := by rfl) : rLen2 K [.ref p] H Q := by subst hn; exact rLen2_b (b := true) h q
theorem rLen2_t {n : Nat} (h : SqT K H p xs) (q : Q (.int n) H) (hn : xs.length = n := by rfl) : rLen2 K [.ref p] H Q := by subst hn; exact rLen2_b (b := false) h q
theorem rLen2_s {s : Str} (hz : s.length ≤ sizeLine) (q : Q (.int s.length) H) : rLen2 K [.str s] H Q := ⟨.str s, s.length, rfl, ⟨hz, rfl⟩, q⟩
/-- isinstance of a value of a built-in type -/
theorem rIsi2_1 {T U : String} {b : Bool} (ty : TyX K H x (.type T)) (h : kitB T U = some b) (q : Q (.bl b) H) : rIsi2 K [x, .ty U] H Q := .inl ⟨x, .ty U, .type T, .type U, b, rfl, .ty U, ty, kit_ty h, q⟩
theorem rIsi2_2 {T U U2 : String} {b b2 : Bool} (ty : TyX K H x (.type T)) (hp : H p = some (.tup [.ty U, .ty U2])) (h : kitB T U = some b) (h2 : kitB T U2 = some b2) (q : Q (.bl (b || b2)) H) : rIsi2 K [x, .ref p] H Q :=
  .inr ⟨x, p, [.ty U, .ty U2], .type T, [.type U, .type U2], b || b2, rfl, hp, .cons (.ty U) (.cons (.ty U2) .nil), ty,
    kitAny_cons (kit_ty h) (fun e => by rw [e, Bool.false_or]; exact kitAny_cons (kit_ty h2) (fun e2 => by rw [e2]; exact kitAny_nil) (fun e2 => e2)) (fun e => by rw [e, Bool.true_or]), q⟩
theorem ty_str {s : Str} : TyX K H (.str s) (.type "str") := .base (.str s)
theorem ty_int {i : Int} : TyX K H (.int i) (.type "int") := .base (.int i)
theorem ty_bl {b : Bool} : TyX K H (.bl b) (.type "bool") := .base (.bl b)
theorem ty_non : TyX K H .non (.type "NoneType") := .base .non
theorem ty_lst (h : H a = some (.lst xs)) : TyX K H (.ref a) (.type "list") := .base (.lst h)
theorem ty_tup (h : H a = some (.tup xs)) : TyX K H (.ref a) (.type "tuple") := .base (.tup h)
theorem tTup_i2 {tl : TA} (q : tl σ H fun xs H1 => xs.length ≤ sizeLine ∧ ∀ p, H1 p = none → Q (.ref p) (upd H1 p (.tup xs))) : tTup tl σ H Q := q
/-- a chain of two comparisons -/
theorem gCons_i {t : TG} {u : TGs} {r : List V} {Q : L2.St → Hp → Prop} (q : t v σ H fun σ' H' => u r σ' H' Q) : gCons t u (v :: r) σ H Q := ⟨v, r, rfl, q⟩
theorem gNil_i {Q : L2.St → Hp → Prop} (q : Q σ H) : gNil [] σ H Q := ⟨rfl, q⟩
theorem gTup_i {n : Nat} {t : TGs} {Q : L2.St → Hp → Prop} (h : SqT K H a xs) (q : t xs σ H Q) (hn : xs.length = n := by rfl) : gTup K n t (.ref a) σ H Q := ⟨a, xs, rfl, h, hn, q⟩
theorem gStar_i {n i : Nat} {t : TGs} {Q : L2.St → Hp → Prop} (h : SqT K H a xs) (hn : n ≤ xs.length + 1) (q : ∀ d, H d = none → t (xs.take i ++ V.ref d :: (xs.drop i).drop (xs.length + 1 - n)) σ (upd H d (.lst ((xs.drop i).take (xs.length + 1 - n)))) Q) : gStar K n i t (.ref a) σ H Q := ⟨a, xs, rfl, h, hn, q⟩
theorem gStar_2 {x : V} {r : List V} {t : TGs} {Q : L2.St → Hp → Prop} (h : SqT K H a (x :: r)) (q : ∀ d, H d = none → t [x, .ref d] σ (upd H d (.lst r)) Q) : gStar K 2 1 t (.ref a) σ H Q :=
  ⟨a, _, rfl, h, by simp, fun d hd => by simpa using q d hd⟩
theorem gStar_3 {x y : V} {r : List V} {t : TGs} {Q : L2.St → Hp → Prop} (h : SqT K H a (x :: y :: r)) (q : ∀ d, H d = none → t [x, y, .ref d] σ (upd H d (.lst r)) Q) : gStar K 3 2 t (.ref a) σ H Q :=
  ⟨a, _, rfl, h, by simp, fun d hd => by simpa using q d hd⟩
theorem nv1 {i : Int} : ¬ (V.int i = V.non) := fun z => nomatch z
theorem nv2 {i : Str} : ¬ (V.str i = V.non) := fun z => nomatch z
theorem nv3 {i : Addr} : ¬ (V.ref i = V.non) := fun z => nomatch z
theorem nv4 {i : Bool} : ¬ (V.bl i = V.non) := fun z => nomatch z
theorem ltB {n m : Nat} (h : Nat.blt n m = true) : n < m := Nat.blt_eq.mp h
theorem sFld_i {tv ta : TE} {f : Str} {D : Ends} (q : tv σ H fun y H1 => ta σ H1 fun x H2 => ∃ a C dx fs, x = .ref a ∧ H2 a = some (.ins C dx fs) ∧ Cls K C ∧ NoAttr K C f ∧ fs.length < 1000 ∧ D.nx σ (upd H2 a (.ins C dx (putF f y fs)))) : sFld K ta tv f D σ H := q
theorem fst_i {N : L2.St → Hp → Prop} {f : Str} {C dx : Addr} {fs : List (Str × V)} (h : H a = some (.ins C dx fs)) (c : Cls K C) (n : NoAttr K C f) (hl : fs.length < 1000) (q : N σ (upd H a (.ins C dx (putF f y fs)))) :
    ∃ a' C dx fs, V.ref a = .ref a' ∧ H a' = some (.ins C dx fs) ∧ Cls K C ∧ NoAttr K C f ∧ fs.length < 1000 ∧ N σ (upd H a' (.ins C dx (putF f y fs))) := ⟨a, C, dx, fs, rfl, h, c, n, hl, q⟩
theorem fldaug_i {ta tv : TE} {f : Str} {D : Ends} {rd : V → V → Hp → VK → Prop} (q : ta σ H fun x H1 => ∃ a C dx fs v, x = .ref a ∧ H1 a = some (.ins C dx fs) ∧ Cls K C ∧ NoAttr K C f ∧ fs.lookup f = some v ∧
  tv σ H1 fun y H2 => rd v y H2 fun z H3 => ∃ dx' fs', H3 a = some (.ins C dx' fs') ∧ fs'.length < 1000 ∧ D.nx σ (upd H3 a (.ins C dx' (putF f z fs')))) : sFldAug K ta tv rd f D σ H := q
/-- e.f += an int, the field an int -/
theorem faug_i {N : L2.St → Hp → Prop} {tv : TE} {f : Str} {C dx : Addr} {fs : List (Str × V)} {k : Int} (h : H a = some (.ins C dx fs)) (c : Cls K C) (n : NoAttr K C f) (hl : fs.length < 1000) (e : fs.lookup f = some (.int k)) (q : tv σ H fun y H2 => ∃ j, y = .int j ∧ H2 = H ∧ N σ (upd H a (.ins C dx (putF f (.int (k + j)) fs))))
    (mono : ∀ {A B : VK}, (∀ v H, A v H → B v H) → tv σ H A → tv σ H B) :
    ∃ a' C dx fs v, V.ref a = .ref a' ∧ H a' = some (.ins C dx fs) ∧ Cls K C ∧ NoAttr K C f ∧ fs.lookup f = some v ∧ tv σ H fun y H2 => rAdd v y H2 fun z H3 => ∃ dx' fs', H3 a' = some (.ins C dx' fs') ∧ fs'.length < 1000 ∧ N σ (upd H3 a' (.ins C dx' (putF f z fs'))) :=
  ⟨a, C, dx, fs, _, rfl, h, c, n, e, mono (fun y H2 ⟨j, ey, eH, q⟩ => by subst ey eH; exact ⟨k, j, rfl, rfl, dx, fs, h, hl, q⟩) q⟩
/-- e.f += a written int -/
theorem faugC_i {N : L2.St → Hp → Prop} {f : Str} {C dx : Addr} {fs : List (Str × V)} {k : Int} (h : H a = some (.ins C dx fs)) (c : Cls K C) (n : NoAttr K C f) (hl : fs.length < 1000) (e : fs.lookup f = some (.int k)) (q : N σ (upd H a (.ins C dx (putF f (.int (k + j)) fs)))) :
    ∃ a' C dx fs v, V.ref a = .ref a' ∧ H a' = some (.ins C dx fs) ∧ Cls K C ∧ NoAttr K C f ∧ fs.lookup f = some v ∧ tC (.int j) σ H fun y H2 => rAdd v y H2 fun z H3 => ∃ dx' fs', H3 a' = some (.ins C dx' fs') ∧ fs'.length < 1000 ∧ N σ (upd H3 a' (.ins C dx' (putF f z fs'))) :=
  ⟨a, C, dx, fs, _, rfl, h, c, n, e, k, j, rfl, rfl, dx, fs, h, hl, q⟩
/-- the same, the heap behind it told by what stands there -/
theorem fld_j {N : V → Prop} {f : Str} {C dx : Addr} {fs : List (Str × V)} (h : H a = some (.ins C dx fs)) (c : Cls K C) (n : NoAttr K C f) (e : fs.lookup f = some v) (q : N v) :
    ∃ (a' C dx : Addr) (fs : List (Str × V)) (v : V), V.ref a = .ref a' ∧ H a' = some (.ins C dx fs) ∧ Cls K C ∧ NoAttr K C f ∧ fs.lookup f = some v ∧ N v := ⟨a, C, dx, fs, v, rfl, h, c, n, e, q⟩
theorem fstU_i {N : L2.St → Hp → Prop} {f : Str} {C dx : Addr} {fs fs' : List (Str × V)} (h : H a = some (.ins C dx fs)) (c : Cls K C) (n : NoAttr K C f) (hl : fs.length < 1000) (e : putF f y fs = fs') (q : ∀ H2, H2 a = some (.ins C dx fs') → (∀ b, b ≠ a → H2 b = H b) → N σ H2) :
    ∃ a' C dx fs, V.ref a = .ref a' ∧ H a' = some (.ins C dx fs) ∧ Cls K C ∧ NoAttr K C f ∧ fs.length < 1000 ∧ N σ (upd H a' (.ins C dx (putF f y fs))) := ⟨a, C, dx, fs, rfl, h, c, n, hl, q _ (by rw [upd_same, e]) fun b nb => upd_ne nb⟩
theorem faugU_i {N : L2.St → Hp → Prop} {f : Str} {C dx : Addr} {fs fs' : List (Str × V)} {k : Int} (h : H a = some (.ins C dx fs)) (c : Cls K C) (n : NoAttr K C f) (hl : fs.length < 1000) (e : fs.lookup f = some (.int k)) (e2 : putF f (.int (k + j)) fs = fs') (q : ∀ H2, H2 a = some (.ins C dx fs') → (∀ b, b ≠ a → H2 b = H b) → N σ H2) :
    ∃ a' C dx fs v, V.ref a = .ref a' ∧ H a' = some (.ins C dx fs) ∧ Cls K C ∧ NoAttr K C f ∧ fs.lookup f = some v ∧ tC (.int j) σ H fun y H2 => rAdd v y H2 fun z H3 => ∃ dx' fs', H3 a' = some (.ins C dx' fs') ∧ fs'.length < 1000 ∧ N σ (upd H3 a' (.ins C dx' (putF f z fs'))) :=
  ⟨a, C, dx, fs, _, rfl, h, c, n, e, k, j, rfl, rfl, dx, fs, h, hl, q _ (by rw [upd_same, e2]) fun b nb => upd_ne nb⟩
theorem gStar_2U {x : V} {r : List V} {t : TGs} {Q : L2.St → Hp → Prop} (h : SqT K H a (x :: r)) (q : ∀ d H2, H d = none → H2 d = some (.lst r) → Same H H2 → t [x, .ref d] σ H2 Q) : gStar K 2 1 t (.ref a) σ H Q :=
  gStar_2 h fun d hd => q d _ hd upd_same (same_upd hd)
theorem gStar_3U {x y : V} {r : List V} {t : TGs} {Q : L2.St → Hp → Prop} (h : SqT K H a (x :: y :: r)) (q : ∀ d H2, H d = none → H2 d = some (.lst r) → Same H H2 → t [x, y, .ref d] σ H2 Q) : gStar K 3 2 t (.ref a) σ H Q :=
  gStar_3 h fun d hd => q d _ hd upd_same (same_upd hd)
/-- something new -/
theorem newU {n : Nat} {o : HO} (q : ∀ d H2, H d = none → H2 d = some o → Same H H2 → Q (.ref d) H2) (hn : n ≤ 1000 := by decide) : n ≤ sizeLine ∧ ∀ p, H p = none → Q (.ref p) (upd H p o) := ⟨sz4 hn, fun p hp => q p _ hp upd_same (same_upd hp)⟩
theorem tMake_i {C : Addr} {sp : Sp} {dvs : List V} {E : XK} {t : TA} (q : t σ H fun vs H1 => ∀ x dx, H1 x = none → H1 dx = none → dx ≠ x → sp (.ref x :: (vs ++ dvs)) (upd (upd H1 dx (.own x)) x (.ins C dx [])) (fun v H2 => v = .non ∧ Q (.ref x) H2) E) : tMake C sp dvs E t σ H Q := q
theorem tProp_i {C : Addr} {sp : Sp} {dvs : List V} {E : XK} {ta : TE} (q : ta σ H fun x H1 => ∃ a dx fs, x = .ref a ∧ H1 a = some (.ins C dx fs) ∧ sp (.ref a :: dvs) H1 Q E) : tProp C sp dvs E ta σ H Q := q
theorem tCallOG_i {C : Addr} {sp : Sp} {E : XK} {tf : TE} {t : TA} (q : tf σ H fun y H1 => ∃ a, y = V.ref a ∧ t σ H1 fun vs H2 => (∃ dx fs, H2 a = some (.ins C dx fs)) ∧ sp (V.ref a :: vs) H2 Q E) : tCallOG C sp E tf t σ H Q := q
theorem tYes_i {Q : Bool → Hp → Prop} (q : Q true H) : tYes σ H Q := q
theorem tChain_i {r r' : R2} {ta tb tc : TE} (q : ta σ H fun x H1 => tb σ H1 fun y H2 => r x y H2 fun z H3 => ∃ k, z = .bl k ∧ if k = true then tc σ H3 fun u H4 => r' y u H4 Q else Q (.bl false) H3) : tChain r r' ta tb tc σ H Q := q
theorem tBM_i {T : String} {r : V → List V → Hp → VK → Prop} {to : TE} {t : TA} (q : to σ H fun x H1 => tyV K T x H1 ∧ t σ H1 fun xs H2 => r x xs H2 Q) : tBM K T r to t σ H Q := q
theorem app_i (h : H a = some (.lst xs)) (hz : xs.length < sizeLine) (q : Q .non (upd H a (.lst (xs ++ [y])))) : rAppend (.ref a) [y] H Q := ⟨a, xs, y, rfl, rfl, h, hz, q⟩
theorem appU_i (h : H a = some (.lst xs)) (hz : xs.length < sizeLine) (q : ∀ H2, H2 a = some (.lst (xs ++ [y])) → (∀ b, b ≠ a → H2 b = H b) → Q .non H2) : rAppend (.ref a) [y] H Q := app_i h hz (q _ upd_same fun b nb => upd_ne nb)
theorem tyL (h : H a = some (.lst xs)) : tyV K "list" (.ref a) H := .inl ⟨rfl, _, SqL.of h⟩
theorem SqB.same {b : Bool} {H' : Hp} (h : SqB K b H p xs) (s : Same H H') : SqB K b H' p xs := by
  cases b
  · rcases (show SqT K H p xs from h) with (h | ⟨o, h⟩) | h
    · exact .inl (.inl (s _ _ h))
    · exact .inl (.inr ⟨o, s _ _ h⟩)
    · exact .inr h
  · exact Same.seq s (show SqL K H p xs from h)
theorem SqT.frz {o : Obj} (h : H p = some (.frz o (.tup xs))) : SqT K H p xs := .inl (.inr ⟨o, h⟩)
/-- tuple(a list): the new one's object told -/
def rTupF (K : PySem.W.Frag) : List V → Hp → VK → Prop := fun xs H Q => ∃ p ys, xs = [.ref p] ∧ SqL K H p ys ∧ ∀ l o, H l = none → o.cls = .type "tuple" → o.dict = none → Q (.ref l) (upd H l (.frz o (.tup ys)))
end
section
variable {X : Cx}
theorem call_tupF : CallR X (.type "tuple") (rTupF X.K) := by
  intro pins s σ H xs us Q I r h
  obtain ⟨p, ys, rfl, hq, q⟩ := h
  obtain ⟨u, rfl, rx⟩ := vals1 r
  cases rx
  obtain ⟨its, r', pl, hz⟩ := I.list hq
  have hlen := r'.length
  refine call_tuple_list pl.isList (fun h' kp => ?_) (by simp only [List.size_toArray] <;> omega)
  have I1 : Inv X pins σ H { s with heap := h' } := I.kept (t' := s.toks) kp
  have I2 : Inv X pins σ (upd H h'.objs.size (.frz { cls := .type "tuple", data := .seq its.toArray } (.tup ys))) { s with heap := h'.push { cls := .type "tuple", data := .seq its.toArray } } :=
    I1.laid (t' := s.toks) (fun b o e => Heap.get?_push_of_some _ e) (Nat.le_refl _) (show ObjOk X.prog X.w _ _ _ (.frz _ (.tup ys)) from ⟨Heap.get?_push_size _ rfl, hz, its, r', IsTup.new _ _⟩)
  exact ⟨.ref h'.objs.size, _, I2, rfl, q _ _ (I1.hok.fresh (Nat.le_refl _)) rfl rfl⟩
/-- t.m(e), t a tuple whose object is told -/
def tTM (K : PySem.W.Frag) (r : V → List V → Hp → VK → Prop) (to : TE) (t : TA) : TE := fun σ H Q => to σ H fun x H1 => (∃ a o xs, x = .ref a ∧ H1 a = some (.frz o (.tup xs)) ∧ o.cls = .type "tuple" ∧ o.dict = none) ∧ t σ H1 fun xs H2 => r x xs H2 Q
theorem pe_tm {o e : Expr} {es : List Expr} {to : TE} {t : TA} {name : Str} {apos cpos : Pos} {id : String} {r : V → List V → Hp → VK → Prop} (slot : Slot "tuple" name id) (hty : typeOf (.builtin id) = pure (.type "method_descriptor")) (hm : MtR X id r) (ho : PE X o to) (ha : PA X (e :: es) t)
    (hbase : attributeBase o name X.env (eval o X.env) = eval o X.env := by rfl)
    (hfew : ((backTo cpos (starEach (e :: es) X.env)).all (fun x => !x.1) && (backToKw cpos (keywordEach [] X.env)).all (fun x => x.1.isSome)
      && decide ((e :: es).length + ([] : List Keyword).length + (if ([] : List Keyword).isEmpty then 0 else 1) < 30)) = true := by rfl)
    (hline : (apos.endLine == cpos.line) = true := by rfl) (hs : starEach (e :: es) X.env = (false, eval e X.env) :: starEach es X.env := by rfl) (hplain : (backTo cpos (starEach es X.env)).any (·.1) = false := by rfl) :
    PE X (.Call (.Attribute o name apos) (e :: es) [] cpos) (tTM X.K r to t) := by
  refine ⟨fun pins s σ H Q I h => ?_⟩
  refine wpAny_Call_method_late hbase hfew hline rfl (thn (ho.run pins s σ H _ I h) fun v s1 ⟨x, H1, I1, r1, ty, q1⟩ => ?_)
  obtain ⟨a, ob, ys, rfl, hx, hc, hd⟩ := ty
  cases (show v = Value.ref a from r1)
  obtain ⟨hg, _⟩ := (show ObjOk X.prog X.w H1 s1.heap a (.frz ob (.tup ys)) from I1.hok a _ hx)
  refine ⟨"tuple", id, PySem.F.plainAttrs_tuple, slot, hty, ⟨ob, hg, hc⟩, fun b e => by cases e; exact ⟨ob, hg, hd⟩, ?_⟩
  have hA := ha.run cpos pins s1 σ H1 _ I1 q1
  rw [hs] at hA ⊢
  refine Calls.callWith_builtin (by show (false || (backTo cpos (starEach es X.env)).any (·.1)) = false; rw [hplain] <;> rfl) (Calls.evalArgs_plain ?_)
  exact thn hA fun us s2 ⟨vs, H2, I2, r2, q2⟩ => hm pins s2 σ H2 (.ref a) vs (.ref a) us Q I2 rfl r2 q2
end
/-! the rules with the written part named -/
section
variable {X : Cx} {K : PySem.W.Frag} {e o : Expr} {es : List Expr} {ta to te : TE} {t : TA} {f : Str} {pos p tpos : Pos} {tg : Expr} {elts : List Expr} {kk : Nat}
theorem pe_fldK (hK : X.K = K) (he : PE X e ta) (hb : attributeBase e f X.env (eval e X.env) = eval e X.env := by rfl) : PE X (.Attribute e f pos) (tFld K ta f) := by subst hK; exact pe_fld he hb
theorem pi_anyK (hK : X.K = K) (he : PE X e te) : PI X tg e (iAny K te) := by subst hK; exact pi_any he
theorem pi_enum2K (hK : X.K = K) (hg : Gl X "enumerate") (hm : X.mg "enumerate" = none) (he : PE X e te) (ha : starEach [e] X.env = [(false, eval e X.env)] := by rfl) :
    PI X (.Tuple elts kk tpos) (.Call (.Name "enumerate" p) [e] [] pos) (iEnum2 K te) := by subst hK; exact pi_enum2 hg hm he ha
theorem pg_tupK {es : List Expr} {k : Nat} {t : TGs} {n : Nat} (hK : X.K = K) (hc : X.calm = true) (h : PGs X es t) (hn : (assignEach es X.env).length = n := by rfl) (hst : (assignEach es X.env).findIdx? (·.1) = none := by rfl) : PG X (.Tuple es k pos) (gTup K n t) := by
  subst hK
  exact pg_tup hc h hn hst
theorem pg_starK {es : List Expr} {k : Nat} {n i : Nat} {t : TGs} (hK : X.K = K) (hc : X.calm = true) (h : PGs X es t) (hn : (assignEach es X.env).length = n) (hst : (assignEach es X.env).findIdx? (·.1) = some i) (hi : i < n) : PG X (.Tuple es k pos) (gStar K n i t) := by
  subst hK
  exact pg_star hc h hn hst hi
theorem ps_fldK {value : Expr} {pos' : Pos} {tv : TE} (hK : X.K = K) (ha : PE X o ta) (hv : PE X value tv) (hs : swapsWith value (some (.Attribute o f pos')) pos.line X.env = pure false := by rfl) : PS X (.Assign [.Attribute o f pos'] value pos) (sFld K ta tv f) := by
  subst hK
  exact ps_fld ha hv hs
theorem ps_fldaugK {value : Expr} {tv : TE} (hK : X.K = K) (ha : PE X o ta) (hv : PE X value tv) : PS X (.AugAssign (.Attribute o f tpos) .Add value pos) (sFldAug K ta tv rAdd f) := by
  subst hK
  exact ps_fldaug ha hv in_add
theorem pe_bmK {name : Str} {apos cpos : Pos} {T id : String} {r : V → List V → Hp → VK → Prop} (hK : X.K = K) (pa : PlainAttrs T) (slot : Slot T name id) (hty : typeOf (.builtin id) = pure (.type "method_descriptor")) (hm : MtR X id r) (ho : PE X o to) (ha : PA X (e :: es) t)
    (hbase : attributeBase o name X.env (eval o X.env) = eval o X.env := by rfl)
    (hfew : ((backTo cpos (starEach (e :: es) X.env)).all (fun x => !x.1) && (backToKw cpos (keywordEach [] X.env)).all (fun x => x.1.isSome)
      && decide ((e :: es).length + ([] : List Keyword).length + (if ([] : List Keyword).isEmpty then 0 else 1) < 30)) = true := by rfl)
    (hline : (apos.endLine == cpos.line) = true := by rfl) (hs : starEach (e :: es) X.env = (false, eval e X.env) :: starEach es X.env := by rfl) (hplain : (backTo cpos (starEach es X.env)).any (·.1) = false := by rfl) :
    PE X (.Call (.Attribute o name apos) (e :: es) [] cpos) (tBM K T r to t) := by
  subst hK
  exact pe_bm pa slot hty hm ho ha hbase hfew hline hs hplain
def rListOf (K : PySem.W.Frag) : List V → Hp → VK → Prop := fun xs H Q => ∃ p ys, xs = [.ref p] ∧ (SqL K H p ys ∨ SqT K H p ys) ∧ ∀ l, H l = none → Q (.ref l) (upd H l (.lst ys))
theorem call_listOf : CallR X (.type "list") (rListOf X.K) := call_list_of
end
end L76
namespace L76
open PySem PySem.Spec PyProof.Rows L2
variable {gd : Bool}
local macro_rules | `(tactic| walk_at "y1") => `(tactic| with_reducible first
  | refine tSeq_i ?_ | refine tAsg_i ?_ | refine tCons_i ?_ | refine tNil_i ?_ | refine tC_i ?_ | refine tOp_i ?_ | refine tIfS_i ?_ | refine tTest_i ?_ | refine exBl_i ?_ | refine tRet_i ?_ | refine tCall_i ?_
  | refine tCB_i ?_ | refine tLst_i ?_ | refine tTup_i ?_ | refine rI0_i ?_ | refine tDrop_i ?_ | refine tNext_i ?_ | refine tB_i ?_ | refine tAnd_i ?_ | refine tOr_i ?_ | refine tNot_i ?_ | refine tAndV_i ?_ | refine tOrV_i ?_ | refine tNotV_i ?_
  | refine tIf_i ?_ | refine tUn_i ?_ | refine tDGet_i ?_ | refine sDPut_i ?_ | refine tFld_i ?_ | refine tRetN_i ?_ | refine tBreak_i ?_ | refine tCont_i ?_ | refine rU_i ?_)
local macro_rules | `(tactic| walk_at "yhead") => `(tactic| dsimp only [L2.start, List.map, List.length_cons, List.length_nil, Nat.reduceAdd, Nat.reduceSub, List.replicate, List.cons_append, List.nil_append])
local macro_rules | `(tactic| walk_at "y2") => `(tactic| first
  | walk_at "y1"
  | ((with_reducible refine tVar_i (v := ?v) ?h ?q); (case h => rfl))
  | ((with_reducible refine gName_i ?_); (dsimp only [List.set]))
  | ((with_reducible refine rEq_i ?h ?q); (case h => rfl)) | ((with_reducible refine rNe_i ?h ?q); (case h => rfl)))
local macro_rules | `(tactic| walk_at "y") => `(tactic| repeat walk_at "y2")
/-! flat values as data -/
def vD : V → PyData | .bl b => .bool b | .int i => .int i | .str s => .str s | _ => .none
def plV : V → Bool | .non => true | .bl _ => true | .int _ => true | .str _ => true | _ => false
/-- a flat value of small size -/
def smV : V → Bool | .non => true | .bl _ => true | .int i => decide (-999999999999 ≤ i ∧ i ≤ 999999999999) | .str s => PyData.canLay0 (.str s) && PyData.leavesShort 16 (.str s) && decide (s.cps.size ≤ 20) | _ => false
theorem smV_pl {v : V} (h : smV v = true) : plV v = true := by cases v <;> first | rfl | exact h
theorem smV_sm {v : V} (h : smV v = true) : Sm 0 20 (vD v) := by
  cases v with
  | non => exact Sm.none.mono (Nat.le_refl _) (Nat.zero_le _)
  | bl b => exact (Sm.bl b).mono (Nat.le_refl _) (Nat.zero_le _)
  | int i => exact (Sm.int (of_decide_eq_true h).1 (of_decide_eq_true h).2).mono (Nat.le_refl _) (Nat.zero_le _)
  | str s =>
    have h1 : (PyData.canLay0 (.str s) && PyData.leavesShort 16 (.str s) && decide (s.cps.size ≤ 20)) = true := h
    rw [Bool.and_eq_true, Bool.and_eq_true] at h1
    refine ⟨h1.1.1, by show PyData.depth (.str s) ≤ 0; simp [PyData.depth], by show PyData.showable (.str s) = true; simp [PyData.showable], h1.1.2, ?_⟩
    show PyData.bulk (.str s) ≤ 20
    simp only [PyData.bulk]
    exact of_decide_eq_true h1.2
  | _ => exact nomatch h
theorem dp_fl {K : PySem.W.Frag} {H : Hp} : ∀ {v : V}, plV v = true → Dp K H v (vD v)
  | .non, _ => .non
  | .bl b, _ => .bl b
  | .int i, _ => .int i
  | .str s, _ => .str s
theorem dp_fls {K : PySem.W.Frag} {H : Hp} : ∀ {xs : List V}, xs.all plV = true → DpAll K H xs (xs.map vD)
  | [], _ => .nil
  | x :: xs, h => by
    rw [List.all_cons, Bool.and_eq_true] at h
    exact .cons (dp_fl h.1) (dp_fls h.2)
/-- a tuple of flat values -/
theorem dp_tup {K : PySem.W.Frag} {H : Hp} {p : Addr} {xs : List V} (h : SqT K H p xs) (f : xs.all plV = true) : Dp K H (.ref p) (.tuple (xs.map vD)) := .tup h (dp_fls f)
theorem dp_lst {K : PySem.W.Frag} {H : Hp} {p : Addr} {xs : List V} (h : SqL K H p xs) (f : xs.all plV = true) : Dp K H (.ref p) (.list (xs.map vD)) := .lst h (dp_fls f)
theorem sm_tup {xs : List V} (f : xs.all smV = true) : Sm 1 (xs.length * 21) (.tuple (xs.map vD)) := by
  have := Sm.tup (n := 0) (b := 20) (ds := xs.map vD) fun d hd => by
    obtain ⟨v, hv, rfl⟩ := List.mem_map.mp hd
    exact smV_sm (List.all_eq_true.mp f v hv)
  simpa using this
theorem sm_lst {xs : List V} (f : xs.all smV = true) : Sm 1 (xs.length * 21) (.list (xs.map vD)) := by
  have := Sm.list (n := 0) (b := 20) (ds := xs.map vD) fun d hd => by
    obtain ⟨v, hv, rfl⟩ := List.mem_map.mp hd
    exact smV_sm (List.all_eq_true.mp f v hv)
  simpa using this
theorem all_pl {xs : List V} (f : xs.all smV = true) : xs.all plV = true := List.all_eq_true.mpr fun v hv => smV_pl (List.all_eq_true.mp f v hv)
/-- a list or tuple whose items are tuples of flat values -/
theorem dp_TR {α : Type} {f : α → List V} {K : PySem.W.Frag} {H : Hp} (hf : ∀ a, (f a).all plV = true) : ∀ {vs : List V} {as : List α}, Paired (TR f H) vs as → DpAll K H vs (as.map fun a => .tuple ((f a).map vD))
  | _, _, .nil => .nil
  | _, _, .cons ⟨p, e, h⟩ t => by subst e; exact .cons (dp_tup (SqT.of h) (hf _)) (dp_TR hf t)
theorem dp_TRm {α : Type} {f : α → List V} {K : PySem.W.Frag} {H : Hp} : ∀ {vs : List V} {as : List α}, (∀ a ∈ as, (f a).all plV = true) → Paired (TR f H) vs as → DpAll K H vs (as.map fun a => .tuple ((f a).map vD))
  | _, _, _, .nil => .nil
  | _, _, hf, .cons ⟨p, e, h⟩ t => by subst e; exact .cons (dp_tup (SqT.of h) (hf _ (List.mem_cons_self ..))) (dp_TRm (fun a ha => hf a (List.mem_cons_of_mem _ ha)) t)
theorem dp_sq {K : PySem.W.Frag} {H : Hp} {p : Addr} {vs : List V} {ds : List PyData} : ∀ {b : Bool}, SqB K b H p vs → DpAll K H vs ds → Dp K H (.ref p) (if b then .list ds else .tuple ds)
  | true, h, d => .lst h d
  | false, h, d => .tup h d
theorem sm_TR {α : Type} {f : α → List V} {n : Nat} {as : List α} (hf : ∀ a ∈ as, (f a).all smV = true ∧ (f a).length ≤ n) : ∀ d ∈ as.map fun a => PyData.tuple ((f a).map vD), Sm 1 (n * 21) d := fun d hd => by
  obtain ⟨a, ha, rfl⟩ := List.mem_map.mp hd
  exact (sm_tup (hf a ha).1).mono (Nat.le_refl _) (Nat.mul_le_mul_right _ (hf a ha).2)
/-! the events of a log -/
inductive Ev where | op (n : Int) | sh (n : Int) | fa (n : Int) | no (t : Int) | sw
  deriving DecidableEq
def Ev.xs : Ev → List V
  | .op n => [.str "open", .int n] | .sh n => [.str "shut", .int n] | .fa n => [.str "fault", .int n, .str "Error", .str "x"] | .no t => [.str "note", .int t] | .sw => [.str "show", .str "a", .non]
def Ev.num : Ev → Int | .op n => n | .sh n => n | .fa n => n | .no t => t | .sw => 0
def Ev.ok (e : Ev) : Prop := 0 ≤ e.num ∧ e.num ≤ 1000
theorem smStr {s : Str} (h : smV (.str s) = true := by decide +kernel) : smV (.str s) = true := h
theorem Ev.sm {e : Ev} (h : e.ok) : e.xs.all smV = true := by
  have hi : ∀ i : Int, 0 ≤ i → i ≤ 1000 → smV (.int i) = true := fun i h1 h2 => by show decide _ = true; exact decide_eq_true (by omega)
  cases e <;> simp only [Ev.xs, List.all_cons, List.all_nil, Bool.and_true, Bool.and_eq_true] <;> (repeat' apply And.intro) <;> first | exact hi _ h.1 h.2 | decide +kernel
theorem Ev.pl (e : Ev) : e.xs.all plV = true := by cases e <;> rfl
theorem Ev.fl (e : Ev) : e.xs.all flatV = true := by cases e <;> rfl
theorem Ev.len (e : Ev) : e.xs.length ≤ 4 := by cases e <;> (show _ ≤ 4) <;> simp [Ev.xs]
def Ev.d (e : Ev) : PyData := .tuple (e.xs.map vD)
/-- the log at p: a list (b true) or a tuple of these events -/
def LogAt (b : Bool) (H : Hp) (p : Addr) (es : List Ev) : Prop := ∃ vs, H p = some (sq b vs) ∧ Paired (TR Ev.xs H) vs es ∧ (∀ e ∈ es, e.ok) ∧ es.length ≤ 16
theorem LogAt.same {b : Bool} {H H' : Hp} {p : Addr} {es : List Ev} (h : LogAt b H p es) (s : Same H H') : LogAt b H' p es := by
  obtain ⟨vs, h1, h2, h3⟩ := h
  exact ⟨vs, s _ _ h1, (firm_TR _).all (sT s) h2, h3⟩
theorem flat_ints (ns : List Int) : (ns.map V.int).all flatV = true := by
  rw [List.all_map]
  exact List.all_eq_true.mpr fun _ _ => rfl
theorem inV_ints {n : Int} : ∀ {ns : List Int}, inV (.int n) (ns.map V.int) = decide (n ∈ ns)
  | [] => by simp [inV]
  | m :: ns => by
    have ih := inV_ints (n := n) (ns := ns)
    unfold inV at ih ⊢
    rw [List.map_cons, List.any_cons, ih]
    have e : eqV (.int m) (.int n) = decide (n = m) := by
      show decide (m = n) = _
      simp [eq_comm]
    rw [e]
    simp [List.mem_cons]
theorem filterMap_ix {α β : Type} (g : α → Option β) : ∀ xs : List α, ((List.range xs.length).filterMap fun i => (xs[i]?).bind g) = xs.filterMap g
  | [] => rfl
  | x :: xs => by
    have ih := filterMap_ix g xs
    rw [List.length_cons, List.range_succ_eq_map, List.filterMap_cons, List.filterMap_map]
    have e : (List.filterMap ((fun i => ((x :: xs)[i]?).bind g) ∘ Nat.succ) (List.range xs.length)) = xs.filterMap g := by
      rw [← ih]
      rfl
    rw [e]
    cases q : g x with
    | none => simp [q]
    | some y => simp [q]
theorem filterMap_ne (n : Int) (xs : List Int) : (xs.filterMap fun m => if m = n then none else some m) = xs.filter fun m => decide (m ≠ n) := by
  induction xs with
  | nil => rfl
  | cons x xs ih =>
    by_cases h : x = n
    · simp [h, ih]
    · simp [h, ih]
theorem str_beq (a b : Str) : (a == b) = decide (a = b) := by
  by_cases h : a = b
  · rw [h]; simp
  · rw [decide_eq_false h]; exact beq_eq_false_iff_ne.mpr h
theorem ev_eqv {e : Ev} {n : Int} : PyData.eqv (.tuple (e.xs.map vD)) (.tuple (([.str "shut", .int n] : List V).map vD)) = decide (e = .sh n) := by
  cases e <;> simp only [Ev.xs, List.map_cons, List.map_nil, vD, PyData.eqv, PyData.eqvAll, str_beq]
  all_goals first
    | (rw [show decide (Str.ofString "open" = Str.ofString "shut") = false by decide +kernel]; simp)
    | (rw [show decide (Str.ofString "fault" = Str.ofString "shut") = false by decide +kernel]; simp)
    | (rw [show decide (Str.ofString "note" = Str.ofString "shut") = false by decide +kernel]; simp)
    | (rw [show decide (Str.ofString "show" = Str.ofString "shut") = false by decide +kernel]; simp)
    | simp [Bool.beq_eq_decide_eq]
theorem ev_eqo {e : Ev} {n : Int} : PyData.eqv (.tuple (e.xs.map vD)) (.tuple (([.str "open", .int n] : List V).map vD)) = decide (e = .op n) := by
  cases e <;> simp only [Ev.xs, List.map_cons, List.map_nil, vD, PyData.eqv, PyData.eqvAll, str_beq]
  all_goals first
    | (rw [show decide (Str.ofString "shut" = Str.ofString "open") = false by decide +kernel]; simp)
    | (rw [show decide (Str.ofString "fault" = Str.ofString "open") = false by decide +kernel]; simp)
    | (rw [show decide (Str.ofString "note" = Str.ofString "open") = false by decide +kernel]; simp)
    | (rw [show decide (Str.ofString "show" = Str.ofString "open") = false by decide +kernel]; simp)
    | simp [Bool.beq_eq_decide_eq]
theorem eqv_nil {ds : List PyData} : PyData.eqv (.list ds) (.list []) = ds.isEmpty := by
  cases ds with
  | nil => rfl
  | cons d ds => rfl
/-! spans -/
def endsOf (es : List Ev) (n : Int) (i : Nat) : List Nat := (List.range (es.length - i)).filterMap fun j => if es[i + j]? = some (.sh n) then some (i + j) else none
def spanV : Int × Nat × Option Nat → List V := fun t => [.int t.1, .int (t.2.1 : Nat), match t.2.2 with | none => .non | some j => .int (j : Nat)]
def spanAt (es : List Ev) (i : Nat) : Option (Int × Nat × Option Nat) := match es[i]? with
  | some (.op n) => some (n, i, (endsOf es n i).head?)
  | _ => none
def spansOf (es : List Ev) : List (Int × Nat × Option Nat) := (List.range es.length).filterMap (spanAt es)
end L76
namespace L76
open PySem PySem.Spec PyProof.Rows L2
variable {gd : Bool}
local macro_rules | `(tactic| walk_at "y1") => `(tactic| with_reducible first
  | refine tSeq_i ?_ | refine tAsg_i ?_ | refine tCons_i ?_ | refine tNil_i ?_ | refine tC_i ?_ | refine tOp_i ?_ | refine tIfS_i ?_ | refine tTest_i ?_ | refine exBl_i ?_ | refine tRet_i ?_ | refine tCall_i ?_
  | refine tCB_i ?_ | refine tLst_i ?_ | refine tTup_i ?_ | refine rI0_i ?_ | refine tDrop_i ?_ | refine tNext_i ?_ | refine tB_i ?_ | refine tAnd_i ?_ | refine tOr_i ?_ | refine tNot_i ?_ | refine tAndV_i ?_ | refine tOrV_i ?_ | refine tNotV_i ?_
  | refine tIf_i ?_ | refine tUn_i ?_ | refine tDGet_i ?_ | refine sDPut_i ?_ | refine tFld_i ?_ | refine tRetN_i ?_ | refine tBreak_i ?_ | refine tCont_i ?_ | refine rU_i ?_)
local macro_rules | `(tactic| walk_at "yhead") => `(tactic| dsimp only [L2.start, List.map, List.length_cons, List.length_nil, Nat.reduceAdd, Nat.reduceSub, List.replicate, List.cons_append, List.nil_append])
local macro_rules | `(tactic| walk_at "y2") => `(tactic| first
  | walk_at "y1"
  | ((with_reducible refine tVar_i (v := ?v) ?h ?q); (case h => rfl))
  | ((with_reducible refine gName_i ?_); (dsimp only [List.set]))
  | ((with_reducible refine rEq_i ?h ?q); (case h => rfl)) | ((with_reducible refine rNe_i ?h ?q); (case h => rfl)))
local macro_rules | `(tactic| walk_at "y") => `(tactic| repeat walk_at "y2")
section
variable {X : Cx} {m : Str} {e : Expr} {es : List Expr} {ta : TA} {p1 p2 pos : Pos}
/-- M.__init__(self, ..), M a class of the module over ValueError -/
theorem pe_vinit {pl : Sem Bool} (V : ViC X.K m) (hg : Gl X m) (hm : X.mg m = some (.ref (He.ga X.K m))) (ha : PA X (e :: es) ta)
    (hc : eval (.Call (.Attribute (.Name m p1) "__init__" p2) (e :: es) [] pos) X.env = (do
      let ov ← eval (.Name m p1) X.env
      standAt p2.atName
      let (f, first) ← holding [ov] (getMethod ov "__init__" pl)
      callWith pos f first (backTo pos (starEach (e :: es) X.env)) (backToKw pos (keywordEach [] X.env))) := by rfl)
    (he : starEach (e :: es) X.env = (false, eval e X.env) :: starEach es X.env := by rfl) (hpl : (backTo pos (starEach es X.env)).any (·.1) = false := by rfl) (hdb : (m == ("__debug__" : Str)) = false := by decide) :
    PE X (.Call (.Attribute (.Name m p1) "__init__" p2) (e :: es) [] pos) (tVeI X.K ta) := by
  refine ⟨fun pins s σ H Q I h => ?_⟩
  refine PySem.W.methodCall_KW (ld_glob I hg hm ?_ hdb) hc
  refine PySem.W.method_cls I.kIn V.g (PySem.W.cls_value I.kIn V.r V.f (by decide +kernel) ?_)
  show wpAny _ _ (callWith pos (Value.builtin "ValueError.__init__") [] (backTo pos (starEach (e :: es) X.env)) []) _ _ _
  refine PyProof.Rows.callWith_method1 (thn (ha.run pos pins _ σ H _ (I.tok _) h) fun us s1 ⟨vs, H1, I1, r1, a, C, ws, ev, hl, T, ea, q⟩ => ?_) he hpl
  subst ev
  cases r1 with
  | @cons _ u0 _ ur ra rw' =>
    obtain rfl : u0 = Value.ref a := ra
    exact oinit_ok T I1 ea (by rw [← rw'.length, sizeLine_eq]; omega) fun s' J => ⟨.non, H1, J, rfl, q⟩
end
/-- __init__ of such a class: f is the one attribute it lays -/
def spExI (K : PySem.W.Frag) (c f : Str) : Sp := sp2 fun x v H Q _ => ∃ a, x = .ref a ∧ H a = some (exo a (He.ga K c) none) ∧ ∀ dx, H dx = none → dx ≠ a → Q .non (upd (upd H dx (exd dx [(f, v)])) a (exo a (He.ga K c) (some dx)))
section
variable {P : Program} {w : World} {K : PySem.W.Frag} {mg : Str → Option Value} {base : Heap}
/-- a class by an __init__ of this kind, that it may be raised -/
structure Exm (P : Program) (w : World) (K : PySem.W.Frag) (mg : Str → Option Value) (base : Heap) (k : Nat) (c : Str) (sp : Sp) (f : Str) : Prop where
  ex : ∃ (fd : FuncData) (ps : List Str), FnOk P w K mg base CX0 k (He.ma K (He.ga K c) "__init__") fd ps sp ∧ Binds K fd ps []
  x : ExC K c f
  g : mg c = some (.ref (He.ga K c))
theorem Sy.exm (T : Sy K mg) {c q f : Str} {i j : Nat} {N ps : List Str} {k : Nat} {sp : Sp} (E : ExC K c f) (F0 : FDx K (dM c "__init__" q i j))
    (S : FnScope N ps (defScope (inClass (top i) j))) (len : ∀ vs H Q E, sp vs H Q E → vs.length = ps.length)
    (hbody : ∀ (cdv : Value) (f : Addr) (A : Around) (outer : List Env) (s : Shared) (H : Hp) (vs : List V) (Q : VK) (E : XK), Room k (A.deeper (envOfC q (defScope (inClass (top i) j)) s.heap.objs.size f cdv)) → sp vs H Q E →
      ∃ t, PSs (cxOf CX0 P w K mg base N q (defScope (inClass (top i) j)) f cdv A outer s H E).nox (defBody (inClass (top i) j)) t ∧ t { nx := fun _ H' => Q .non H', rt := Q } (start N vs) H)
    (hb : ∀ (kV doc pm : Value) (an : Option Addr) (cdv ct : Value) (us : List Value), us.length = ps.length → bindArgs (PySem.W.fnOf "__init__" q (defArgs (inClass (top i) j)) (defBody (inClass (top i) j)) (defScope (inClass (top i) j)) .none kV doc pm an cdv ct) ⟨us, []⟩ = pure (ps.zip us))
    (hg : fa.any (isGlo c) = true := by decide +kernel) : Exm P w K mg base (k + 1) c sp f := by
  obtain ⟨fd, F⟩ := F0
  refine ⟨⟨fd, ps, F.ok S len fun cdv A outer s H vs Q E hr h => ?_, F.bindsN hb⟩, E, T.glo c hg⟩
  obtain ⟨t, h1, h2⟩ := hbody cdv _ A outer s H vs Q E hr h
  exact ⟨t, h1.nox, h2⟩
theorem pmk_x {X : Cx} {k j : Nat} {c f : Str} {sp : Sp} {e : Expr} {es : List Expr} {ta : TA} {p pos : Pos} (m : Exm X.prog X.w X.K X.mg X.base k c sp f) (hr : Room j X.A) (ha : PA X (e :: es) ta) (hk : k + 1 ≤ j := by decide) (hg : Gl X c := by rfl)
    (hdb : (c == ("__debug__" : Str)) = false := by decide) (he : starEach (e :: es) X.env = (false, eval e X.env) :: starEach es X.env := by rfl) (hpl : (backTo pos (starEach es X.env)).any (·.1) = false := by rfl) :
    PMk X (.Call (.Name c p) (e :: es) [] pos) (tMkO (He.ga X.K c) sp [] ta) := by
  obtain ⟨fd, ps, F, b⟩ := m.ex
  exact pmk_oex m.x.o m.x.i m.x.t F (hr.mono hk) b .nil pass0 hg m.g ha hdb he hpl
end
section
variable {K : PySem.W.Frag} {σ : L2.St} {H : Hp} {Q : VK} {D : Ends} {ta : TA} {to te : TE} {f : Str} {C : Addr} {sp : Sp} {dvs : List V}
theorem tVeI_i (q : ta σ H fun vs H1 => ∃ (a C : Addr) (ws : List V), vs = .ref a :: ws ∧ ws.length ≤ 1000 ∧ OexC K C ∧ H1 a = some (exo a C none) ∧ Q .non H1) : tVeI K ta σ H Q := q
theorem tOst_i (q : te σ H fun y H1 => to σ H1 fun x H2 => ∃ a C : Addr, x = .ref a ∧ OexC K C ∧ PySem.W.findIn K (.ref C) f = some none ∧
  ((H2 a = some (exo a C none) ∧ ∀ dx, H2 dx = none → dx ≠ a → D.nx σ (upd (upd H2 dx (exd dx [(f, y)])) a (exo a C (some dx)))) ∨
    ∃ (dx : Addr) (fs : List (Str × V)), H2 a = some (exo a C (some dx)) ∧ H2 dx = some (exd dx fs) ∧ fs.length ≤ 900 ∧ D.nx σ (upd H2 dx (exd dx ((f, y) :: fs))))) : tOst K f to te D σ H := q
theorem tMkO_i {Q : XK} (q : ta σ H fun vs H1 => vs.length ≤ 1000 ∧ ∀ a, H1 a = none → sp (.ref a :: (vs ++ dvs)) (upd H1 a (exo a C none))
  (fun v H2 => v = .non ∧ ∃ (d : Addr) (fs : List (Str × V)), H2 a = some (exo a C (some d)) ∧ H2 d = some (exd d fs) ∧ H1 d = none ∧ Q (.ref C) (some d) (upd (del H2 a) d (.xd fs))) (fun _ _ _ => False)) : tMkO C sp dvs ta σ H Q := q
/-- raise C(v), C's own __init__ as spExI -/
theorem mkx_i {c : Str} {v : V} {Q : XK} (q : ∀ d H', H d = none → Same H H' → H' d = some (.xd [(f, v)]) → Q (.ref (He.ga K c)) (some d) H') :
    ([v] : List V).length ≤ 1000 ∧ ∀ a, H a = none → spExI K c f (.ref a :: ([v] ++ [])) (upd H a (exo a (He.ga K c) none))
      (fun u H2 => u = .non ∧ ∃ (d : Addr) (fs : List (Str × V)), H2 a = some (exo a (He.ga K c) (some d)) ∧ H2 d = some (exd d fs) ∧ H d = none ∧ Q (.ref (He.ga K c)) (some d) (upd (del H2 a) d (.xd fs))) (fun _ _ _ => False) := by
  refine ⟨by show 1 ≤ 1000; decide, fun a ha => ⟨_, _, rfl, a, rfl, upd_same, fun dx hdx ne => ⟨rfl, dx, [(f, v)], upd_same, (upd_ne ne).trans upd_same, ?_, ?_⟩⟩⟩
  · rwa [upd_ne ne] at hdx
  · rw [upd_ne ne] at hdx
    refine q dx _ hdx (fun b o e => ?_) upd_same
    have nb : b ≠ dx := ne_of_none e hdx
    have na : b ≠ a := ne_of_none e ha
    rw [upd_ne nb, L2.del_ne na, upd_ne na, upd_ne nb, upd_ne na]
    exact e
end
end L76
namespace L76
open PySem PySem.Spec PyProof.Rows L2
variable {gd : Bool}
local macro_rules | `(tactic| walk_at "y1") => `(tactic| with_reducible first
  | refine tSeq_i ?_ | refine tAsg_i ?_ | refine tCons_i ?_ | refine tNil_i ?_ | refine tC_i ?_ | refine tOp_i ?_ | refine tIfS_i ?_ | refine tTest_i ?_ | refine exBl_i ?_ | refine tRet_i ?_ | refine tCall_i ?_
  | refine tCB_i ?_ | refine tLst_i ?_ | refine tTup_i ?_ | refine rI0_i ?_ | refine tDrop_i ?_ | refine tNext_i ?_ | refine tB_i ?_ | refine tAnd_i ?_ | refine tOr_i ?_ | refine tNot_i ?_ | refine tAndV_i ?_ | refine tOrV_i ?_ | refine tNotV_i ?_
  | refine tYes_i ?_ | refine tTM_i ?_ | refine tPar_i ?_ | refine tSl_i ?_ | refine tNoPart_i ?_ | refine tPart_i ?_ | refine part_i ?_ | refine tMake_i ?_ | refine tProp_i ?_ | refine tCallOG_i ?_ | refine tVeI_i ?_ | refine tOst_i ?_ | refine tMkO_i ?_ | refine sFld_i ?_ | refine fldaug_i ?_ | refine gCons_i ?_ | refine gNil_i ?_ | refine tChain_i ?_ | refine tBM_i ?_ | refine rAdd2_i ?_ | refine rLe2_i ?_ | refine rEq2_i ?_ | refine rEq2_ss ?_ | refine rNe2_i ?_ | refine rNe2_ss ?_ | refine rIsN_i ?_ | refine rNotN_i ?_ | refine tTup_i2 ?_ | refine tIf_i ?_ | refine tUn_i ?_ | refine tDGet_i ?_ | refine sDPut_i ?_ | refine tFld_i ?_ | refine tRetN_i ?_ | refine tBreak_i ?_ | refine tCont_i ?_ | refine rU_i ?_)
local macro_rules | `(tactic| walk_at "yhead") => `(tactic| dsimp only [L2.start, List.map, List.length_cons, List.length_nil, Nat.reduceAdd, Nat.reduceSub, List.replicate, List.cons_append, List.nil_append])
local macro_rules | `(tactic| walk_at "y2") => `(tactic| first
  | walk_at "y1"
  | ((with_reducible refine tVar_i (v := ?v) ?h ?q); (case h => rfl))
  | ((with_reducible refine gName_i ?_); (dsimp only [L2.wipe, List.set]))
  | with_reducible refine iteT ?_ | with_reducible refine iteF ?_ | with_reducible refine iteNT ?_ | with_reducible refine iteNF ?_
  | ((with_reducible refine iteDT ?h ?q); (case h => first | decide +kernel | omega | assumption | exact nv1 | exact nv2 | exact nv3 | exact nv4)) | ((with_reducible refine iteDF ?h ?q); (case h => first | decide +kernel | omega | assumption | exact nv1 | exact nv2 | exact nv3 | exact nv4))
  | ((with_reducible refine iteNDT ?h ?q); (case h => first | decide +kernel | omega | assumption | exact nv1 | exact nv2 | exact nv3 | exact nv4)) | ((with_reducible refine iteNDF ?h ?q); (case h => first | decide +kernel | omega | assumption | exact nv1 | exact nv2 | exact nv3 | exact nv4))
  | ((with_reducible refine rIsi2_1 (T := ?T) (b := true) ?ty ?h ?q); (case ty => first | exact ty_str | exact ty_int | exact ty_bl | exact ty_non); (case h => decide +kernel))
  | ((with_reducible refine rIsi2_1 (T := ?T) (b := false) ?ty ?h ?q); (case ty => first | exact ty_str | exact ty_int | exact ty_bl | exact ty_non); (case h => decide +kernel))
  | ((with_reducible refine rEq2_s ?h ?q); (case h => rfl)) | ((with_reducible refine rNe2_s ?h ?q); (case h => rfl))
  | ((with_reducible refine rEq_i ?h ?q); (case h => rfl)) | ((with_reducible refine rNe_i ?h ?q); (case h => rfl)))
local macro_rules | `(tactic| walk_at "y") => `(tactic| repeat walk_at "y2")
section
variable {P : Program} {w : World} {K : PySem.W.Frag} {mg : Str → Option Value} {base : Heap}
def spLetter : Sp := sp1 fun x H Q _ => ∃ c : Nat, x = .str ⟨#[c]⟩ ∧ (97 ≤ c ∧ c ≤ 122 ∨ 65 ≤ c ∧ c ≤ 90) ∧ Q (.bl true) H
theorem sc_is_letter : FnScope ["character"] ["character"] (defScope (top 8)) := ⟨rfl, rfl, rfl, by decide +kernel, rfl, by decide +kernel, by decide +kernel⟩
theorem c_is_letter (T : Sy K mg) : Cal gd P w K mg base CX0 1 "is_letter" spLetter := by
  refine T.cal (F_is_letter T) sc_is_letter sp1_len (fun cdv f A outer s H vs Q E z h => ?_) (fun _ _ _ _ _ _ us hl => match us, hl with | [_], _ => rfl)
  have hu1 := hu_1 z; have hu2 := hu_2 z; have hu3 := hu_3 z
  obtain ⟨x0, rfl, h⟩ := h
  obtain ⟨c, rfl, hc, q⟩ := h
  refine ⟨_, (pss_one (ps_ret (pe_or (pe_chain op_le2 op_le2 pe_str (pv 0) pe_str) (pe_one (pe_chain op_le2 op_le2 pe_str (pv 0) pe_str))))), ?_⟩
  walk_at "yhead"; walk_at "y"
  refine rLe2_c1 (n := 97) (by decide +kernel) ?_
  rcases hc with hc | hc
  · walk_at "y"
    refine rLe2_c2 (n := 122) (by decide +kernel) ?_
    walk_at "y"; exact q
  · walk_at "y"
    refine rLe2_c1 (n := 65) (by decide +kernel) ?_
    walk_at "y"
    refine rLe2_c2 (n := 90) (by decide +kernel) ?_
    rw [decide_eq_true hc.2]; exact q
/-- "Error" is a kind -/
theorem cpsError : (Str.ofString "Error").cps = #[69, 114, 114, 111, 114] := by decide +kernel
theorem lenError : (Str.ofString "Error").length = 5 := by decide +kernel
def spKind : Sp := sp1 fun x H Q _ => x = .str "Error" ∧ ∀ H', Same H H' → Q (.bl true) H'
theorem sc_is_kind : FnScope ["value", "character"] ["value"] (defScope (top 9)) := ⟨rfl, rfl, rfl, by decide +kernel, rfl, by decide +kernel, by decide +kernel⟩
theorem c_is_kind (T : Sy K mg) : Cal gd P w K mg base CX0 2 "is_kind" spKind := by
  refine T.cal (F_is_kind T) sc_is_kind sp1_len (fun cdv f A outer s H vs Q E z h => ?_) (fun _ _ _ _ _ _ us hl => match us, hl with | [_], _ => rfl)
  have hu1 := hu_1 z; have hu2 := hu_2 z; have hu3 := hu_3 z
  obtain ⟨x0, rfl, h⟩ := h
  obtain ⟨rfl, q⟩ := h
  refine ⟨_, (pss_cons (ps_if (PW.pt (pw_or (pt_not (pt_val (pe_callB (r := rIsi2 K) call_isi2 (by rfl) (T.free "isinstance") (by decide +kernel) (pa_cons (pv 0) (pa_cons (pe_bltn (v := .ty "str") (u := .type "str") (by rfl) (T.free "str") (by decide +kernel) rfl) pa_nil))))) (pw_or1 (pt_not (pt_chain op_le2 op_le2 pe_int (pe_callB (r := rLen2 K) call_len2 (by rfl) (T.free "len") (by decide +kernel) (pa_cons (pv 0) pa_nil)) (pe_gi (T.int "MOST_LETTERS" 12))))))) (pss_one (ps_ret pe_bl)) pss_nil) (pss_one (ps_ret (pe_and (pe_chain op_le2 op_le2 pe_str (pe_ix (r := rGet K) (ix_get hu3) (pv 0) pe_int (fun _ _ => rfl)) pe_str) (pe_one (pe_callB (r := rAll K) (cr_all rfl) (by rfl) (T.free "all") (by decide +kernel) (pa_cons (pe_lc (own := [("character", 1)]) (g := gName 1) (by rfl) sc_is_kind.nd (pi_anyK (K := K) rfl (pv 0)) (blkOk_by (own := [("character", 1)]) (N := ["value", "character"]) (sc := (defScope (top 9))) (by decide +kernel)) (fun _ _ _ _ _ => (pg_name (i := 1) sc_is_kind.nd rfl (by first | exact Or.inl rfl | exact Or.inr rfl))) (fun _ _ _ _ _ => pts_nil) (fun _ _ _ _ _ => (pe_c (c_is_letter T) z (pa_cons (pv 1) pa_nil)))) pa_nil))))))), ?_⟩
  walk_at "yhead"; walk_at "y"
  refine rLen2_s (by rw [lenError]; exact sz4) ?_
  rw [lenError]; walk_at "y"
  refine rGet_s (n := 0) (c := 69) (by rw [lenError]; exact sz4) (by rw [cpsError]; rfl) ?_
  refine rLe2_c1 (n := 65) (by decide +kernel) ?_
  walk_at "y"
  refine rLe2_c2 (n := 90) (by decide +kernel) ?_
  walk_at "y"
  refine lc_s ?_
  walk_at "y"
  refine ⟨_, rfl, lc_pure (walk_str) (by rw [cpsError]; exact sz4) (fun _ => some true) (firm_FR V.bl) (fun _ _ => trivial) (fun i H0 x H1 y => by obtain ⟨rfl, _⟩ := y; exact Same.refl _) (fun i x H0 H1 hi s0 s1 y N C hC hN => ?_) fun D H1 vs hD s1 h1 pr => ?_⟩
  · obtain ⟨rfl, c, hc, rfl⟩ := y
    walk_at "y"
    refine ⟨rfl, ?_⟩
    walk_at "y"
    refine ⟨_, rfl, c, rfl, ?_, hC _ _ true (Same.refl _) rfl rfl⟩
    rw [cpsError] at hc
    rcases i with _ | _ | _ | _ | _ | _ <;> simp at hc <;> omega
  · rw [paired_FR pr] at h1
    refine ⟨D, _, rfl, SqL.of h1, ?_⟩
    have e : ((List.filterMap (fun _ => some true) (List.range (Str.ofString "Error").cps.size)).all id) = true := by rw [cpsError]; rfl
    rw [e]
    exact q _ s1
def spLabel : Sp := sp1 fun x H Q _ => x = .str "x" ∧ ∀ H', Same H H' → Q (.bl true) H'
theorem cpsx : (Str.ofString "x").cps = #[120] := by decide +kernel
theorem lenx : (Str.ofString "x").length = 1 := by decide +kernel
theorem sc_is_label : FnScope ["value", "character"] ["value"] (defScope (top 10)) := ⟨rfl, rfl, rfl, by decide +kernel, rfl, by decide +kernel, by decide +kernel⟩
theorem c_is_label (T : Sy K mg) : Cal gd P w K mg base CX0 2 "is_label" spLabel := by
  refine T.cal (F_is_label T) sc_is_label sp1_len (fun cdv f A outer s H vs Q E z h => ?_) (fun _ _ _ _ _ _ us hl => match us, hl with | [_], _ => rfl)
  have hu1 := hu_1 z; have hu2 := hu_2 z; have hu3 := hu_3 z
  obtain ⟨x0, rfl, h⟩ := h
  obtain ⟨rfl, q⟩ := h
  refine ⟨_, (pss_cons (ps_if (PW.pt (pw_or (pt_not (pt_val (pe_callB (r := rIsi2 K) call_isi2 (by rfl) (T.free "isinstance") (by decide +kernel) (pa_cons (pv 0) (pa_cons (pe_bltn (v := .ty "str") (u := .type "str") (by rfl) (T.free "str") (by decide +kernel) rfl) pa_nil))))) (pw_or1 (pt_cmpR op_gt (pe_callB (r := rLen2 K) call_len2 (by rfl) (T.free "len") (by decide +kernel) (pa_cons (pv 0) pa_nil)) (pe_gi (T.int "MOST_LABEL" 40)) (nomark _))))) (pss_one (ps_ret pe_bl)) pss_nil) (pss_one (ps_ret (pe_callB (r := rAll K) (cr_all rfl) (by rfl) (T.free "all") (by decide +kernel) (pa_cons (pe_lc (own := [("character", 1)]) (g := gName 1) (by rfl) sc_is_label.nd (pi_anyK (K := K) rfl (pv 0)) (blkOk_by (own := [("character", 1)]) (N := ["value", "character"]) (sc := (defScope (top 10))) (by decide +kernel)) (fun _ _ _ _ _ => (pg_name (i := 1) sc_is_label.nd rfl (by first | exact Or.inl rfl | exact Or.inr rfl))) (fun _ _ _ _ _ => pts_nil) (fun _ _ _ _ _ => (pe_and (pe_chain op_le2 op_le2 pe_int (pe_callB call_ord (by rfl) (T.free "ord") (by decide +kernel) (pa_cons (pv 1) pa_nil)) pe_int) (pe_one (pe_cmpR (r := rNe2 K) (op_ne2 hu1) (pe_callB call_ord (by rfl) (T.free "ord") (by decide +kernel) (pa_cons (pv 1) pa_nil)) pe_int (nomark _)))))) pa_nil))))), ?_⟩
  walk_at "yhead"; walk_at "y"
  refine rLen2_s (by rw [lenx]; exact sz4) ?_
  rw [lenx]; walk_at "y"
  refine lc_s ?_
  walk_at "y"
  refine ⟨_, rfl, lc_pure (walk_str) (by rw [cpsx]; exact sz4) (fun _ => some true) (firm_FR V.bl) (fun _ _ => trivial) (fun i H0 x H1 y => by obtain ⟨rfl, _⟩ := y; exact Same.refl _) (fun i x H0 H1 hi s0 s1 y N C hC hN => ?_) fun D H1 vs hD s1 h1 pr => ?_⟩
  · obtain ⟨rfl, c, hc, rfl⟩ := y
    rw [cpsx] at hc
    have ec : c = 120 := by rcases i with _ | _ <;> simp at hc; omega
    subst ec
    walk_at "y"
    refine ⟨rfl, ?_⟩
    walk_at "y"
    refine ⟨_, rfl, rfl, ?_⟩
    walk_at "y"
    refine ⟨_, rfl, rfl, ?_⟩
    walk_at "y"
    exact hC _ _ true (Same.refl _) rfl (by show _ = _; decide)
  · rw [paired_FR pr] at h1
    refine ⟨D, _, rfl, SqL.of h1, ?_⟩
    have e : ((List.filterMap (fun _ => some true) (List.range (Str.ofString "x").cps.size)).all id) = true := by rw [cpsx]; rfl
    rw [e]
    exact q _ s1
end
end L76
namespace L76
open PySem PySem.Spec PyProof.Rows L2
variable {gd : Bool}
local macro_rules | `(tactic| walk_at "y1") => `(tactic| with_reducible first
  | refine tSeq_i ?_ | refine tAsg_i ?_ | refine tCons_i ?_ | refine tNil_i ?_ | refine tC_i ?_ | refine tOp_i ?_ | refine tIfS_i ?_ | refine tTest_i ?_ | refine exBl_i ?_ | refine tRet_i ?_ | refine tCall_i ?_
  | refine tCB_i ?_ | refine tLst_i ?_ | refine tTup_i ?_ | refine rI0_i ?_ | refine tDrop_i ?_ | refine tNext_i ?_ | refine tB_i ?_ | refine tAnd_i ?_ | refine tOr_i ?_ | refine tNot_i ?_ | refine tAndV_i ?_ | refine tOrV_i ?_ | refine tNotV_i ?_
  | refine tYes_i ?_ | refine tTM_i ?_ | refine tPar_i ?_ | refine tSl_i ?_ | refine tNoPart_i ?_ | refine tPart_i ?_ | refine part_i ?_ | refine tMake_i ?_ | refine tProp_i ?_ | refine tCallOG_i ?_ | refine tVeI_i ?_ | refine tOst_i ?_ | refine tMkO_i ?_ | refine sFld_i ?_ | refine fldaug_i ?_ | refine gCons_i ?_ | refine gNil_i ?_ | refine tChain_i ?_ | refine tBM_i ?_ | refine rAdd2_i ?_ | refine rLe2_i ?_ | refine rEq2_i ?_ | refine rEq2_ss ?_ | refine rNe2_i ?_ | refine rNe2_ss ?_ | refine rIsN_i ?_ | refine rNotN_i ?_ | refine tTup_i2 ?_ | refine tIf_i ?_ | refine tUn_i ?_ | refine tDGet_i ?_ | refine sDPut_i ?_ | refine tFld_i ?_ | refine tRetN_i ?_ | refine tBreak_i ?_ | refine tCont_i ?_ | refine rU_i ?_)
local macro_rules | `(tactic| walk_at "yhead") => `(tactic| dsimp only [L2.start, List.map, List.length_cons, List.length_nil, Nat.reduceAdd, Nat.reduceSub, List.replicate, List.cons_append, List.nil_append])
local macro_rules | `(tactic| walk_at "y2") => `(tactic| first
  | walk_at "y1"
  | ((with_reducible refine tVar_i (v := ?v) ?h ?q); (case h => rfl))
  | ((with_reducible refine gName_i ?_); (dsimp only [L2.wipe, List.set]))
  | with_reducible refine iteT ?_ | with_reducible refine iteF ?_ | with_reducible refine iteNT ?_ | with_reducible refine iteNF ?_
  | ((with_reducible refine iteDT ?h ?q); (case h => first | decide +kernel | omega | assumption | exact nv1 | exact nv2 | exact nv3 | exact nv4)) | ((with_reducible refine iteDF ?h ?q); (case h => first | decide +kernel | omega | assumption | exact nv1 | exact nv2 | exact nv3 | exact nv4))
  | ((with_reducible refine iteNDT ?h ?q); (case h => first | decide +kernel | omega | assumption | exact nv1 | exact nv2 | exact nv3 | exact nv4)) | ((with_reducible refine iteNDF ?h ?q); (case h => first | decide +kernel | omega | assumption | exact nv1 | exact nv2 | exact nv3 | exact nv4))
  | ((with_reducible refine rIsi2_1 (T := ?T) (b := true) ?ty ?h ?q); (case ty => first | exact ty_str | exact ty_int | exact ty_bl | exact ty_non); (case h => decide +kernel))
  | ((with_reducible refine rIsi2_1 (T := ?T) (b := false) ?ty ?h ?q); (case ty => first | exact ty_str | exact ty_int | exact ty_bl | exact ty_non); (case h => decide +kernel))
  | ((with_reducible refine rEq2_s ?h ?q); (case h => rfl)) | ((with_reducible refine rNe2_s ?h ?q); (case h => rfl))
  | ((with_reducible refine rEq_i ?h ?q); (case h => rfl)) | ((with_reducible refine rNe_i ?h ?q); (case h => rfl)))
local macro_rules | `(tactic| walk_at "y") => `(tactic| repeat walk_at "y2")
section
variable {P : Program} {w : World} {K : PySem.W.Frag} {mg : Str → Option Value} {base : Heap}
def spNumber : Sp := sp1 fun x H Q _ => ∃ b, Q (.bl b) H ∧ ((∃ i, x = .int i ∧ b = decide (0 ≤ i)) ∨ (∃ c, x = .bl c) ∧ b = false ∨ x = .non ∧ b = false ∨ (∃ s, x = .str s) ∧ b = false)
theorem sc_s7_is_number : FnScope ["value"] ["value"] (defScope (top 14)) := ⟨rfl, rfl, rfl, by decide +kernel, rfl, by decide +kernel, by decide +kernel⟩
theorem c_s7_is_number (T : Sy K mg) : Cal gd P w K mg base CX0 1 "s7_is_number" spNumber := by
  refine T.cal (F_s7_is_number T) sc_s7_is_number sp1_len (fun cdv f A outer s H vs Q E z h => ?_) (fun _ _ _ _ _ _ us hl => match us, hl with | [_], _ => rfl)
  have hu1 := hu_1 z; have hu2 := hu_2 z; have hu3 := hu_3 z
  obtain ⟨x0, rfl, h⟩ := h
  obtain ⟨b, q, h⟩ := h
  refine ⟨_, (pss_one (ps_ret (pe_and (pe_callB (r := rIsi2 K) call_isi2 (by rfl) (T.free "isinstance") (by decide +kernel) (pa_cons (pv 0) (pa_cons (pe_bltn (v := .ty "int") (u := .type "int") (by rfl) (T.free "int") (by decide +kernel) rfl) pa_nil))) (pe_and (pe_not (pe_callB (r := rIsi2 K) call_isi2 (by rfl) (T.free "isinstance") (by decide +kernel) (pa_cons (pv 0) (pa_cons (pe_bltn (v := .ty "bool") (u := .type "bool") (by rfl) (T.free "bool") (by decide +kernel) rfl) pa_nil)))) (pe_one (pe_cmpR op_ge (pv 0) pe_int (nomark _))))))), ?_⟩
  rcases h with ⟨i, rfl, rfl⟩ | ⟨⟨c, rfl⟩, rfl⟩ | ⟨rfl, rfl⟩ | ⟨⟨c, rfl⟩, rfl⟩ <;> walk_at "yhead" <;> walk_at "y" <;> exact q
def spName : Sp := sp1 fun x H Q _ => x = .str "a" ∧ ∀ H', Same H H' → Q (.bl true) H'
theorem cpsa : (Str.ofString "a").cps = #[97] := by decide +kernel
theorem lena : (Str.ofString "a").length = 1 := by decide +kernel
theorem sc_s7_is_name : FnScope ["value", "letter"] ["value"] (defScope (top 15)) := ⟨rfl, rfl, rfl, by decide +kernel, rfl, by decide +kernel, by decide +kernel⟩
theorem c_s7_is_name (T : Sy K mg) : Cal gd P w K mg base CX0 1 "s7_is_name" spName := by
  refine T.cal (F_s7_is_name T) sc_s7_is_name sp1_len (fun cdv f A outer s H vs Q E z h => ?_) (fun _ _ _ _ _ _ us hl => match us, hl with | [_], _ => rfl)
  have hu1 := hu_1 z; have hu2 := hu_2 z; have hu3 := hu_3 z
  obtain ⟨x0, rfl, h⟩ := h
  obtain ⟨rfl, q⟩ := h
  refine ⟨_, (pss_cons (ps_if (PW.pt (pw_or (pt_not (pt_val (pe_callB (r := rIsi2 K) call_isi2 (by rfl) (T.free "isinstance") (by decide +kernel) (pa_cons (pv 0) (pa_cons (pe_bltn (v := .ty "str") (u := .type "str") (by rfl) (T.free "str") (by decide +kernel) rfl) pa_nil))))) (pw_or1 (pt_not (pt_chain op_le2 op_le2 pe_int (pe_callB (r := rLen2 K) call_len2 (by rfl) (T.free "len") (by decide +kernel) (pa_cons (pv 0) pa_nil)) (pe_gi (T.int "MOST_NAME" 8))))))) (pss_one (ps_ret pe_bl)) pss_nil) (pss_one (ps_ret (pe_callB (r := rAll K) (cr_all rfl) (by rfl) (T.free "all") (by decide +kernel) (pa_cons (pe_lc (own := [("letter", 1)]) (g := gName 1) (by rfl) sc_s7_is_name.nd (pi_anyK (K := K) rfl (pv 0)) (blkOk_by (own := [("letter", 1)]) (N := ["value", "letter"]) (sc := (defScope (top 15))) (by decide +kernel)) (fun _ _ _ _ _ => (pg_name (i := 1) sc_s7_is_name.nd rfl (by first | exact Or.inl rfl | exact Or.inr rfl))) (fun _ _ _ _ _ => pts_nil) (fun _ _ _ _ _ => (pe_chain op_le2 op_le2 pe_str (pv 1) pe_str))) pa_nil))))), ?_⟩
  walk_at "yhead"; walk_at "y"
  refine rLen2_s (by rw [lena]; exact sz4) ?_
  rw [lena]; walk_at "y"
  refine lc_s ?_
  walk_at "y"
  refine ⟨_, rfl, lc_pure (walk_str) (by rw [cpsa]; exact sz4) (fun _ => some true) (firm_FR V.bl) (fun _ _ => trivial) (fun i H0 x H1 y => by obtain ⟨rfl, _⟩ := y; exact Same.refl _) (fun i x H0 H1 hi s0 s1 y N C hC hN => ?_) fun D H1 vs hD s1 h1 pr => ?_⟩
  · obtain ⟨rfl, c, hc, rfl⟩ := y
    rw [cpsa] at hc
    have ec : c = 97 := by rcases i with _ | _ <;> simp at hc; omega
    subst ec
    walk_at "y"
    refine ⟨rfl, ?_⟩
    walk_at "y"
    refine rLe2_c1 (n := 97) (by decide +kernel) ?_
    walk_at "y"
    refine rLe2_c2 (n := 122) (by decide +kernel) ?_
    exact hC _ _ true (Same.refl _) rfl (by show _ = _; decide)
  · rw [paired_FR pr] at h1
    refine ⟨D, _, rfl, SqL.of h1, ?_⟩
    have e : ((List.filterMap (fun _ => some true) (List.range (Str.ofString "a").cps.size)).all id) = true := by rw [cpsa]; rfl
    rw [e]
    exact q _ s1
def spPlain : Sp := sp1 fun x H Q _ => Q (.bl true) H ∧ ((∃ i, x = .int i ∧ 0 ≤ i ∧ i ≤ 1000) ∨ x = .non)
theorem sc_s7_is_plain : FnScope ["value"] ["value"] (defScope (top 16)) := ⟨rfl, rfl, rfl, by decide +kernel, rfl, by decide +kernel, by decide +kernel⟩
theorem c_s7_is_plain (T : Sy K mg) : Cal gd P w K mg base CX0 3 "s7_is_plain" spPlain := by
  refine T.cal (F_s7_is_plain T) sc_s7_is_plain sp1_len (fun cdv f A outer s H vs Q E z h => ?_) (fun _ _ _ _ _ _ us hl => match us, hl with | [_], _ => rfl)
  have hu1 := hu_1 z; have hu2 := hu_2 z; have hu3 := hu_3 z
  obtain ⟨x0, rfl, h⟩ := h
  obtain ⟨q, h⟩ := h
  refine ⟨_, (pss_cons (ps_if (PW.pt (pw_or (pt_cmpR (r := rIsN) op_isN (pv 0) pe_non (nomark _)) (pw_or1 (pt_val (pe_callB (r := rIsi2 K) call_isi2 (by rfl) (T.free "isinstance") (by decide +kernel) (pa_cons (pv 0) (pa_cons (pe_bltn (v := .ty "bool") (u := .type "bool") (by rfl) (T.free "bool") (by decide +kernel) rfl) pa_nil))))))) (pss_one (ps_ret pe_bl)) pss_nil) (pss_cons (ps_if (pt_val (pe_callB (r := rIsi2 K) call_isi2 (by rfl) (T.free "isinstance") (by decide +kernel) (pa_cons (pv 0) (pa_cons (pe_bltn (v := .ty "int") (u := .type "int") (by rfl) (T.free "int") (by decide +kernel) rfl) pa_nil)))) (pss_one (ps_ret (pe_chain op_le2 op_le2 (pe_op op_sub pe_int (pe_gi (T.int "MOST_VALUE" 1000000000))) (pv 0) (pe_gi (T.int "MOST_VALUE" 1000000000))))) pss_nil) (pss_one (ps_ret (pe_c (c_is_label T) z (pa_cons (pv 0) pa_nil)))))), ?_⟩
  rcases h with ⟨i, rfl, h1, h2⟩ | rfl <;> walk_at "yhead" <;> walk_at "y"
  · rw [decide_eq_true (show i ≤ 1000000000 by omega)]; exact q
  · exact q
def spShown : Sp := sp1 fun x H Q _ => x = .non ∧ Q (.bl true) H
theorem sc_s7_is_shown : FnScope ["value"] ["value"] (defScope (top 17)) := ⟨rfl, rfl, rfl, by decide +kernel, rfl, by decide +kernel, by decide +kernel⟩
theorem c_s7_is_shown (T : Sy K mg) : Cal gd P w K mg base CX0 4 "s7_is_shown" spShown := by
  refine T.cal (F_s7_is_shown T) sc_s7_is_shown sp1_len (fun cdv f A outer s H vs Q E z h => ?_) (fun _ _ _ _ _ _ us hl => match us, hl with | [_], _ => rfl)
  have hu1 := hu_1 z; have hu2 := hu_2 z; have hu3 := hu_3 z
  obtain ⟨x0, rfl, h⟩ := h
  obtain ⟨rfl, q⟩ := h
  refine ⟨_, (pss_cons (ps_if (pt_not (pt_val (pe_callB (r := rIsi2 K) call_isi2 (by rfl) (T.free "isinstance") (by decide +kernel) (pa_cons (pv 0) (pa_cons (pe_bltn (v := .ty "tuple") (u := .type "tuple") (by rfl) (T.free "tuple") (by decide +kernel) rfl) pa_nil))))) (pss_one (ps_ret (pe_c (c_s7_is_plain T) z (pa_cons (pv 0) pa_nil)))) pss_nil) (pss_one (ps_never))), ?_⟩
  walk_at "yhead"; walk_at "y"
  exact ⟨_, rfl, q, .inr rfl⟩
def spEvent : Sp := sp1 fun x H Q _ => (∃ p e, x = .ref p ∧ H p = some (.tup (Ev.xs e)) ∧ e.ok ∧ ∀ H', Same H H' → Q (.bl true) H') ∨ (∃ p, x = .ref p ∧ H p = some (.tup [.str "open", .bl true]) ∧ ∀ H', Same H H' → Q (.bl false) H')
theorem sc_is_event : FnScope ["value", "word", "parts"] ["value"] (defScope (top 19)) := ⟨rfl, rfl, rfl, by decide +kernel, rfl, by decide +kernel, by decide +kernel⟩
theorem c_is_event (T : Sy K mg) : Cal gd P w K mg base CX0 5 "is_event" spEvent := by
  refine T.cal (F_is_event T) sc_is_event sp1_len (fun cdv f A outer s H vs Q E z h => ?_) (fun _ _ _ _ _ _ us hl => match us, hl with | [_], _ => rfl)
  have hu1 := hu_1 z; have hu2 := hu_2 z; have hu3 := hu_3 z
  obtain ⟨x0, rfl, h⟩ := h
  refine ⟨_, (pss_cons (ps_if (PW.pt (pw_or (pt_not (pt_val (pe_callB (r := rIsi2 K) call_isi2 (by rfl) (T.free "isinstance") (by decide +kernel) (pa_cons (pv 0) (pa_cons (pe_bltn (v := .ty "tuple") (u := .type "tuple") (by rfl) (T.free "tuple") (by decide +kernel) rfl) pa_nil))))) (pw_or (pt_cmpR (r := rEq2 K) (op_eq2 hu1) (pv 0) (pe_tup pa_nil) (nomark _)) (pw_or1 (pt_not (pt_val (pe_callB (r := rIsi2 K) call_isi2 (by rfl) (T.free "isinstance") (by decide +kernel) (pa_cons (pe_ix (r := rGet K) (ix_get hu3) (pv 0) pe_int (fun _ _ => rfl)) (pa_cons (pe_bltn (v := .ty "str") (u := .type "str") (by rfl) (T.free "str") (by decide +kernel) rfl) pa_nil))))))))) (pss_one (ps_ret pe_bl)) pss_nil) (pss_cons (ps_asg (pv 0) (pg_starK (K := K) (n := 2) (i := 1) rfl (by rfl) (pgs_cons (pg_name (i := 1) sc_is_event.nd rfl (by first | exact Or.inl rfl | exact Or.inr rfl)) (pgs_star (pg_name (i := 2) sc_is_event.nd rfl (by first | exact Or.inl rfl | exact Or.inr rfl)) pgs_nil)) rfl rfl (by decide))) (pss_cons (ps_if (pt_cmpR (r := rEq2 K) (op_eq2 hu1) (pv 1) pe_str (nomark _)) (pss_one (ps_ret (pe_and (pe_cmpR (r := rEq2 K) (op_eq2 hu1) (pe_callB (r := rLen2 K) call_len2 (by rfl) (T.free "len") (by decide +kernel) (pa_cons (pv 2) pa_nil)) pe_int (nomark _)) (pe_one (pe_c (c_s7_is_plain T) z (pa_cons (pe_ix (r := rGet K) (ix_get hu3) (pv 2) pe_int (fun _ _ => rfl)) pa_nil)))))) pss_nil) (pss_cons (ps_if (pt_cmpR (r := rEq2 K) (op_eq2 hu1) (pv 1) pe_str (nomark _)) (pss_one (ps_ret (pe_and (pe_cmpR (r := rEq2 K) (op_eq2 hu1) (pe_callB (r := rLen2 K) call_len2 (by rfl) (T.free "len") (by decide +kernel) (pa_cons (pv 2) pa_nil)) pe_int (nomark _)) (pe_and (pe_c (c_s7_is_name T) z (pa_cons (pe_ix (r := rGet K) (ix_get hu3) (pv 2) pe_int (fun _ _ => rfl)) pa_nil)) (pe_one (pe_c (c_s7_is_shown T) z (pa_cons (pe_ix (r := rGet K) (ix_get hu3) (pv 2) pe_int (fun _ _ => rfl)) pa_nil))))))) pss_nil) (pss_cons (ps_if (pt_cmpR (r := rEq2 K) (op_eq2 hu1) (pv 1) pe_str (nomark _)) (pss_one (ps_ret (pe_and (pe_cmpR (r := rEq2 K) (op_eq2 hu1) (pe_callB (r := rLen2 K) call_len2 (by rfl) (T.free "len") (by decide +kernel) (pa_cons (pv 2) pa_nil)) pe_int (nomark _)) (pe_and (pe_c (c_s7_is_number T) z (pa_cons (pe_ix (r := rGet K) (ix_get hu3) (pv 2) pe_int (fun _ _ => rfl)) pa_nil)) (pe_and (pe_c (c_is_kind T) z (pa_cons (pe_ix (r := rGet K) (ix_get hu3) (pv 2) pe_int (fun _ _ => rfl)) pa_nil)) (pe_one (pe_c (c_is_label T) z (pa_cons (pe_ix (r := rGet K) (ix_get hu3) (pv 2) pe_int (fun _ _ => rfl)) pa_nil)))))))) pss_nil) (pss_one (ps_ret (pe_and (pe_cmpR (r := rIn2 K) (op_in2 hu2) (pv 1) (pe_tup (pa_cons pe_str (pa_cons pe_str pa_nil))) rfl) (pe_and (pe_cmpR (r := rEq2 K) (op_eq2 hu1) (pe_callB (r := rLen2 K) call_len2 (by rfl) (T.free "len") (by decide +kernel) (pa_cons (pv 2) pa_nil)) pe_int (nomark _)) (pe_one (pe_c (c_s7_is_number T) z (pa_cons (pe_ix (r := rGet K) (ix_get hu3) (pv 2) pe_int (fun _ _ => rfl)) pa_nil)))))))))))), ?_⟩
  rcases h with ⟨p, e, rfl, hp, ok, q⟩ | ⟨p, rfl, hp, q⟩
  · walk_at "yhead"; walk_at "y"
    refine rIsi2_1 (b := true) (ty_tup hp) (by decide +kernel) ?_
    walk_at "y"
    refine ⟨sz4, fun p1 h1 => ?_⟩
    have s1 := same_upd (o := .tup []) h1
    have hp1 := s1 _ _ hp
    refine rEq2_d (dp_tup (SqT.of hp1) e.pl) (dp_tup (SqT.of upd_same) rfl) (sm_tup (Ev.sm ok)).shaped (by decide +kernel) ?_
    rw [show PyData.eqv (.tuple (e.xs.map vD)) (.tuple (([] : List V).map vD)) = false by cases e <;> rfl]
    walk_at "y"
    obtain ⟨ok1, ok2⟩ := ok
    have fin : ∀ {d : Addr} {xs : List V}, upd H p1 (.tup []) d = none → Same H (upd (upd H p1 (.tup [])) d (.lst xs)) := fun hd => s1.trans (same_upd hd)
    cases e with
    | op n =>
      refine rGet_t (n := 0) (SqT.of hp1) rfl ?_
      walk_at "y"
      refine gStar_2 (SqT.of hp1) fun d hd => ?_
      walk_at "y"
      refine ⟨sz4, fun p2 h2 => ?_⟩
      have s2 := fin (xs := [.int n]) hd
      have s3 := same_upd (o := .tup [.str "open", .str "shut"]) h2
      have hd3 := s3 _ _ (upd_same (H := upd H p1 (.tup [])) (a := d) (o := .lst [.int n]))
      refine rIn2_f (b := false) (SqT.of upd_same) rfl rfl ?_
      rw [show inV (.str "open") [.str "open", .str "shut"] = true by decide +kernel]
      walk_at "y"
      refine rLen2_l (n := 1) (SqL.of hd3) ?_
      walk_at "y"
      refine rGet_l (n := 0) (SqL.of hd3) rfl ?_
      exact ⟨_, rfl, _, q _ (s2.trans s3), .inl ⟨n, rfl, (decide_eq_true ok1).symm⟩⟩
    | sh n =>
      refine rGet_t (n := 0) (SqT.of hp1) rfl ?_
      walk_at "y"
      refine gStar_2 (SqT.of hp1) fun d hd => ?_
      walk_at "y"
      refine ⟨sz4, fun p2 h2 => ?_⟩
      have s2 := fin (xs := [.int n]) hd
      have s3 := same_upd (o := .tup [.str "open", .str "shut"]) h2
      have hd3 := s3 _ _ (upd_same (H := upd H p1 (.tup [])) (a := d) (o := .lst [.int n]))
      refine rIn2_f (b := false) (SqT.of upd_same) rfl rfl ?_
      rw [show inV (.str "shut") [.str "open", .str "shut"] = true by decide +kernel]
      walk_at "y"
      refine rLen2_l (n := 1) (SqL.of hd3) ?_
      walk_at "y"
      refine rGet_l (n := 0) (SqL.of hd3) rfl ?_
      exact ⟨_, rfl, _, q _ (s2.trans s3), .inl ⟨n, rfl, (decide_eq_true ok1).symm⟩⟩
    | fa n =>
      refine rGet_t (n := 0) (SqT.of hp1) rfl ?_
      walk_at "y"
      refine gStar_2 (SqT.of hp1) fun d hd => ?_
      walk_at "y"
      have s2 := fin (xs := [.int n, .str "Error", .str "x"]) hd
      refine rLen2_l (xs := [.int n, .str "Error", .str "x"]) (n := 3) (SqL.of upd_same) ?_
      walk_at "y"
      refine rGet_l (n := 0) (xs := [.int n, .str "Error", .str "x"]) (SqL.of upd_same) rfl ?_
      refine ⟨_, rfl, _, ?_, .inl ⟨n, rfl, (decide_eq_true ok1).symm⟩⟩
      walk_at "y"
      refine rGet_l (n := 1) (xs := [.int n, .str "Error", .str "x"]) (SqL.of upd_same) rfl ?_
      refine ⟨_, rfl, rfl, fun H3 s3 => ?_⟩
      walk_at "y"
      refine rGet_l (n := 2) (xs := [.int n, .str "Error", .str "x"]) (SqL.of (s3 _ _ upd_same)) rfl ?_
      exact ⟨_, rfl, rfl, fun H4 s4 => q _ ((s2.trans s3).trans s4)⟩
    | no t =>
      refine rGet_t (n := 0) (SqT.of hp1) rfl ?_
      walk_at "y"
      refine gStar_2 (SqT.of hp1) fun d hd => ?_
      walk_at "y"
      have s2 := fin (xs := [.int t]) hd
      refine rLen2_l (xs := [.int t]) (n := 1) (SqL.of upd_same) ?_
      walk_at "y"
      refine rGet_l (n := 0) (xs := [.int t]) (SqL.of upd_same) rfl ?_
      exact ⟨_, rfl, q _ s2, .inl ⟨t, rfl, ok1, ok2⟩⟩
    | sw =>
      refine rGet_t (n := 0) (SqT.of hp1) rfl ?_
      walk_at "y"
      refine gStar_2 (SqT.of hp1) fun d hd => ?_
      walk_at "y"
      have s2 := fin (xs := [.str "a", .non]) hd
      refine rLen2_l (xs := [.str "a", .non]) (n := 2) (SqL.of upd_same) ?_
      walk_at "y"
      refine rGet_l (n := 0) (xs := [.str "a", .non]) (SqL.of upd_same) rfl ?_
      refine ⟨_, rfl, rfl, fun H3 s3 => ?_⟩
      walk_at "y"
      refine rGet_l (n := 1) (xs := [.str "a", .non]) (SqL.of (s3 _ _ upd_same)) rfl ?_
      exact ⟨_, rfl, rfl, q _ (s2.trans s3)⟩
  · walk_at "yhead"; walk_at "y"
    refine rIsi2_1 (b := true) (ty_tup hp) (by decide +kernel) ?_
    walk_at "y"
    refine ⟨sz4, fun p1 h1 => ?_⟩
    have s1 := same_upd (o := .tup []) h1
    have hp1 := s1 _ _ hp
    refine rEq2_d (dp_tup (SqT.of hp1) rfl) (dp_tup (SqT.of upd_same) rfl) (by decide +kernel) (by decide +kernel) ?_
    rw [show PyData.eqv (.tuple (([.str "open", .bl true] : List V).map vD)) (.tuple (([] : List V).map vD)) = false by rfl]
    walk_at "y"
    refine rGet_t (n := 0) (SqT.of hp1) rfl ?_
    walk_at "y"
    refine gStar_2 (SqT.of hp1) fun d hd => ?_
    walk_at "y"
    refine ⟨sz4, fun p2 h2 => ?_⟩
    have s2 := s1.trans (same_upd (o := .lst [.bl true]) hd)
    have s3 := same_upd (o := .tup [.str "open", .str "shut"]) h2
    have hd3 := s3 _ _ (upd_same (H := upd H p1 (.tup [])) (a := d) (o := .lst [.bl true]))
    refine rIn2_f (b := false) (SqT.of upd_same) rfl rfl ?_
    rw [show inV (.str "open") [.str "open", .str "shut"] = true by decide +kernel]
    walk_at "y"
    refine rLen2_l (n := 1) (SqL.of hd3) ?_
    walk_at "y"
    refine rGet_l (n := 0) (SqL.of hd3) rfl ?_
    exact ⟨_, rfl, _, q _ (s2.trans s3), .inr (.inl ⟨⟨true, rfl⟩, rfl⟩)⟩
end
end L76
namespace L76
open PySem PySem.Spec PyProof.Rows L2
variable {gd : Bool}
local macro_rules | `(tactic| walk_at "y1") => `(tactic| with_reducible first
  | refine tSeq_i ?_ | refine tAsg_i ?_ | refine tCons_i ?_ | refine tNil_i ?_ | refine tC_i ?_ | refine tOp_i ?_ | refine tIfS_i ?_ | refine tTest_i ?_ | refine exBl_i ?_ | refine tRet_i ?_ | refine tCall_i ?_
  | refine tCB_i ?_ | refine tLst_i ?_ | refine tTup_i ?_ | refine rI0_i ?_ | refine tDrop_i ?_ | refine tNext_i ?_ | refine tB_i ?_ | refine tAnd_i ?_ | refine tOr_i ?_ | refine tNot_i ?_ | refine tAndV_i ?_ | refine tOrV_i ?_ | refine tNotV_i ?_
  | refine tYes_i ?_ | refine tTM_i ?_ | refine tPar_i ?_ | refine tSl_i ?_ | refine tNoPart_i ?_ | refine tPart_i ?_ | refine part_i ?_ | refine tMake_i ?_ | refine tProp_i ?_ | refine tCallOG_i ?_ | refine tVeI_i ?_ | refine tOst_i ?_ | refine tMkO_i ?_ | refine sFld_i ?_ | refine fldaug_i ?_ | refine gCons_i ?_ | refine gNil_i ?_ | refine tChain_i ?_ | refine tBM_i ?_ | refine rAdd2_i ?_ | refine rLe2_i ?_ | refine rEq2_i ?_ | refine rEq2_ss ?_ | refine rNe2_i ?_ | refine rNe2_ss ?_ | refine rIsN_i ?_ | refine rNotN_i ?_ | refine tTup_i2 ?_ | refine tIf_i ?_ | refine tUn_i ?_ | refine tDGet_i ?_ | refine sDPut_i ?_ | refine tFld_i ?_ | refine tRetN_i ?_ | refine tBreak_i ?_ | refine tCont_i ?_ | refine rU_i ?_)
local macro_rules | `(tactic| walk_at "yhead") => `(tactic| dsimp only [L2.start, List.map, List.length_cons, List.length_nil, Nat.reduceAdd, Nat.reduceSub, List.replicate, List.cons_append, List.nil_append])
local macro_rules | `(tactic| walk_at "y2") => `(tactic| first
  | walk_at "y1"
  | ((with_reducible refine tVar_i (v := ?v) ?h ?q); (case h => rfl))
  | ((with_reducible refine gName_i ?_); (dsimp only [L2.wipe, List.set]))
  | with_reducible refine iteT ?_ | with_reducible refine iteF ?_ | with_reducible refine iteNT ?_ | with_reducible refine iteNF ?_
  | ((with_reducible refine iteDT ?h ?q); (case h => first | decide +kernel | omega | assumption | exact nv1 | exact nv2 | exact nv3 | exact nv4)) | ((with_reducible refine iteDF ?h ?q); (case h => first | decide +kernel | omega | assumption | exact nv1 | exact nv2 | exact nv3 | exact nv4))
  | ((with_reducible refine iteNDT ?h ?q); (case h => first | decide +kernel | omega | assumption | exact nv1 | exact nv2 | exact nv3 | exact nv4)) | ((with_reducible refine iteNDF ?h ?q); (case h => first | decide +kernel | omega | assumption | exact nv1 | exact nv2 | exact nv3 | exact nv4))
  | ((with_reducible refine rIsi2_1 (T := ?T) (b := true) ?ty ?h ?q); (case ty => first | exact ty_str | exact ty_int | exact ty_bl | exact ty_non); (case h => decide +kernel))
  | ((with_reducible refine rIsi2_1 (T := ?T) (b := false) ?ty ?h ?q); (case ty => first | exact ty_str | exact ty_int | exact ty_bl | exact ty_non); (case h => decide +kernel))
  | ((with_reducible refine rEq2_s ?h ?q); (case h => rfl)) | ((with_reducible refine rNe2_s ?h ?q); (case h => rfl))
  | ((with_reducible refine rEq_i ?h ?q); (case h => rfl)) | ((with_reducible refine rNe_i ?h ?q); (case h => rfl)))
local macro_rules | `(tactic| walk_at "y") => `(tactic| repeat walk_at "y2")
section
variable {P : Program} {w : World} {K : PySem.W.Frag} {mg : Str → Option Value} {base : Heap}
theorem LogAt.get {b : Bool} {H : Hp} {p : Addr} {vs : List V} {es : List Ev} (h2 : Paired (TR Ev.xs H) vs es) {i : Nat} {x : V} (e : vs[i]? = some x) : ∃ q ev, x = .ref q ∧ es[i]? = some ev ∧ H q = some (.tup ev.xs) := by
  obtain ⟨ev, e1, q, e2, e3⟩ := paired_of h2 e
  exact ⟨q, ev, e2, e1, e3⟩
theorem ty_sq {H : Hp} {p : Addr} {vs : List V} : ∀ {b : Bool}, H p = some (sq b vs) → TyX K H (.ref p) (.type (if b then "list" else "tuple"))
  | true, h => ty_lst h
  | false, h => ty_tup h
def spCheck : Sp := sp1 fun x H Q _ => ∃ b p es, x = .ref p ∧ LogAt b H p es ∧ ∀ H', Same H H' → Q .non H'
theorem sc_check_log : FnScope ["log", "place", "event"] ["log"] (defScope (top 20)) := ⟨rfl, rfl, rfl, by decide +kernel, rfl, by decide +kernel, by decide +kernel⟩
theorem c_check_log (T : Sy K mg) : Cal gd P w K mg base CX0 6 "check_log" spCheck := by
  refine T.cal (F_check_log T) sc_check_log sp1_len (fun cdv f A outer s H vs Q E z h => ?_) (fun _ _ _ _ _ _ us hl => match us, hl with | [_], _ => rfl)
  have hu1 := hu_1 z; have hu2 := hu_2 z; have hu3 := hu_3 z
  obtain ⟨x0, rfl, h⟩ := h
  obtain ⟨b, p, es, rfl, lg, q⟩ := h
  refine ⟨_, (pss_cons (ps_if (pt_not (pt_val (pe_callB (r := rIsi2 K) call_isi2 (by rfl) (T.free "isinstance") (by decide +kernel) (pa_cons (pv 0) (pa_cons (pe_tup (pa_cons (pe_bltn (v := .ty "list") (u := .type "list") (by rfl) (T.free "list") (by decide +kernel) rfl) (pa_cons (pe_bltn (v := .ty "tuple") (u := .type "tuple") (by rfl) (T.free "tuple") (by decide +kernel) rfl) pa_nil))) pa_nil))))) (pss_one ps_never) pss_nil) (pss_one (ps_for PassesOwn.never (by rfl) (pi_enum2K (K := K) rfl (by rfl) (T.free "enumerate") (pv 0)) (pg_tupK (K := K) rfl (by rfl) (pgs_cons (pg_name (i := 1) sc_check_log.nd rfl (by first | exact Or.inl rfl | exact Or.inr rfl)) (pgs_cons (pg_name (i := 2) sc_check_log.nd rfl (by first | exact Or.inl rfl | exact Or.inr rfl)) pgs_nil))) (pss_one (ps_if (pt_not (pt_val (pe_c (c_is_event T) z (pa_cons (pv 2) pa_nil)))) (pss_one ps_never) pss_nil))))), ?_⟩
  obtain ⟨vs, h1, h2, ok, hl⟩ := id lg
  walk_at "yhead"; walk_at "y"
  refine ⟨sz4, fun p1 n1 => ?_⟩
  have s1 := same_upd (o := .tup [.ty "list", .ty "tuple"]) n1
  have i2 : ∀ {Q : VK}, Q (.bl true) (upd H p1 (.tup [.ty "list", .ty "tuple"])) → rIsi2 K [.ref p, .ref p1] (upd H p1 (.tup [.ty "list", .ty "tuple"])) Q := fun q => by
    cases b
    · exact rIsi2_2 (b := false) (b2 := true) (ty_sq (s1 _ _ h1)) upd_same (by decide +kernel) (by decide +kernel) q
    · exact rIsi2_2 (b := true) (b2 := false) (ty_sq (s1 _ _ h1)) upd_same (by decide +kernel) (by decide +kernel) q
  refine i2 ?_
  walk_at "y"
  refine for_eb b ?_
  walk_at "y"
  refine ⟨p, vs, rfl, SqB.of (s1 _ _ h1), for_it walk_eb (Pv := fun i σ H' => Same H H' ∧ ∃ a c, σ = [some (.ref p), a, c]) ⟨s1, _, _, rfl⟩ (fun i σ H' _ hp => hp.1 _ _ h1) (fun i x σ H0 H' hi hp y => ?_) fun σ H' hp => ?_⟩
  · obtain ⟨s0, a, c, rfl⟩ := hp
    obtain ⟨tt, v1, v2, rfl, ht, rfl, e1, e2⟩ := y
    cases e1
    have sY := same_upd (o := .tup [.int i, v2]) ht
    obtain ⟨t, ev, rfl, e3, e4⟩ := LogAt.get (b := b) (p := p) ((firm_TR _).all (sT (s0.trans sY)) h2) e2
    refine gTup_i (SqT.of upd_same) ?_
    walk_at "y"
    refine ⟨_, rfl, .inl ⟨t, ev, rfl, e4, ok _ (List.mem_of_getElem? e3), fun H3 s3 => ?_⟩⟩
    walk_at "y"
    exact ⟨(s0.trans sY).trans s3, _, _, rfl⟩
  · exact q _ hp.1
end
end L76
namespace L76
open PySem PySem.Spec PyProof.Rows L2
variable {gd : Bool}
local macro_rules | `(tactic| walk_at "y1") => `(tactic| with_reducible first
  | refine tSeq_i ?_ | refine tAsg_i ?_ | refine tCons_i ?_ | refine tNil_i ?_ | refine tC_i ?_ | refine tOp_i ?_ | refine tIfS_i ?_ | refine tTest_i ?_ | refine exBl_i ?_ | refine tRet_i ?_ | refine tCall_i ?_
  | refine tCB_i ?_ | refine tLst_i ?_ | refine tTup_i ?_ | refine rI0_i ?_ | refine tDrop_i ?_ | refine tNext_i ?_ | refine tB_i ?_ | refine tAnd_i ?_ | refine tOr_i ?_ | refine tNot_i ?_ | refine tAndV_i ?_ | refine tOrV_i ?_ | refine tNotV_i ?_
  | refine tYes_i ?_ | refine tTM_i ?_ | refine tPar_i ?_ | refine tSl_i ?_ | refine tNoPart_i ?_ | refine tPart_i ?_ | refine part_i ?_ | refine tMake_i ?_ | refine tProp_i ?_ | refine tCallOG_i ?_ | refine tVeI_i ?_ | refine tOst_i ?_ | refine tMkO_i ?_ | refine sFld_i ?_ | refine fldaug_i ?_ | refine gCons_i ?_ | refine gNil_i ?_ | refine tChain_i ?_ | refine tBM_i ?_ | refine rAdd2_i ?_ | refine rLe2_i ?_ | refine rEq2_i ?_ | refine rEq2_ss ?_ | refine rNe2_i ?_ | refine rNe2_ss ?_ | refine rIsN_i ?_ | refine rNotN_i ?_ | refine tTup_i2 ?_ | refine tIf_i ?_ | refine tUn_i ?_ | refine tDGet_i ?_ | refine sDPut_i ?_ | refine tFld_i ?_ | refine tRetN_i ?_ | refine tBreak_i ?_ | refine tCont_i ?_ | refine rU_i ?_)
local macro_rules | `(tactic| walk_at "yhead") => `(tactic| dsimp only [L2.start, List.map, List.length_cons, List.length_nil, Nat.reduceAdd, Nat.reduceSub, List.replicate, List.cons_append, List.nil_append])
local macro_rules | `(tactic| walk_at "y2") => `(tactic| first
  | walk_at "y1"
  | ((with_reducible refine tVar_i (v := ?v) ?h ?q); (case h => rfl))
  | ((with_reducible refine gName_i ?_); (dsimp only [L2.wipe, List.set]))
  | with_reducible refine iteT ?_ | with_reducible refine iteF ?_ | with_reducible refine iteNT ?_ | with_reducible refine iteNF ?_
  | ((with_reducible refine iteDT ?h ?q); (case h => first | decide +kernel | omega | assumption | exact nv1 | exact nv2 | exact nv3 | exact nv4)) | ((with_reducible refine iteDF ?h ?q); (case h => first | decide +kernel | omega | assumption | exact nv1 | exact nv2 | exact nv3 | exact nv4))
  | ((with_reducible refine iteNDT ?h ?q); (case h => first | decide +kernel | omega | assumption | exact nv1 | exact nv2 | exact nv3 | exact nv4)) | ((with_reducible refine iteNDF ?h ?q); (case h => first | decide +kernel | omega | assumption | exact nv1 | exact nv2 | exact nv3 | exact nv4))
  | ((with_reducible refine rIsi2_1 (T := ?T) (b := true) ?ty ?h ?q); (case ty => first | exact ty_str | exact ty_int | exact ty_bl | exact ty_non); (case h => decide +kernel))
  | ((with_reducible refine rIsi2_1 (T := ?T) (b := false) ?ty ?h ?q); (case ty => first | exact ty_str | exact ty_int | exact ty_bl | exact ty_non); (case h => decide +kernel))
  | ((with_reducible refine rEq2_s ?h ?q); (case h => rfl)) | ((with_reducible refine rNe2_s ?h ?q); (case h => rfl))
  | ((with_reducible refine rEq_i ?h ?q); (case h => rfl)) | ((with_reducible refine rNe_i ?h ?q); (case h => rfl)))
local macro_rules | `(tactic| walk_at "y") => `(tactic| repeat walk_at "y2")
section
variable {P : Program} {w : World} {K : PySem.W.Frag} {mg : Str → Option Value} {base : Heap}
/-- a watcher's fields -/
structure WSt where
  seen : Int
  opened : Int
  made : Int
  opn : List Int
  most : Int
def WSt.fs (s : WSt) (l : Addr) : List (Str × V) := [("s7_seen", .int s.seen), ("s7_opened", .int s.opened), ("s7_made", .int s.made), ("s7_open", .ref l), ("s7_most", .int s.most)]
def WSt.new : WSt := ⟨0, 0, 0, [], 0⟩
/-- a watcher at x, its list at l -/
def WAt (K : PySem.W.Frag) (H : Hp) (x dx l : Addr) (s : WSt) : Prop := H x = some (.ins (He.ga K "Watcher") dx (s.fs l)) ∧ H l = some (.lst (s.opn.map V.int))
def spWInit (K : PySem.W.Frag) : Sp := sp1 fun v H Q _ => ∃ x dx, v = .ref x ∧ H x = some (.ins (He.ga K "Watcher") dx []) ∧ ∀ l H', H l = none → (∀ b o, H b = some o → b ≠ x → H' b = some o) → WAt K H' x dx l .new → Q .non H'
theorem sc_Watcher___init__ : FnScope ["self"] ["self"] (defScope (inClass (top 21) 0)) := ⟨rfl, rfl, rfl, by decide +kernel, rfl, by decide +kernel, by decide +kernel⟩
theorem m_Watcher (T : Sy K mg) : Mak gd P w K mg base CX0 1 "Watcher" (spWInit K) := by
  refine T.mak (F_Watcher___init__ T) sc_Watcher___init__ sp1_len (fun cdv f A outer s H vs Q E z h => ?_) (fun _ _ _ _ _ _ us hl => match us, hl with | [_], _ => rfl)
  obtain ⟨_, rfl, x, dx, rfl, hx, q⟩ := h
  refine ⟨_, (pss_cons (ps_fldK (K := K) rfl (pv 0) pe_int) (pss_cons (ps_fldK (K := K) rfl (pv 0) pe_int) (pss_cons (ps_fldK (K := K) rfl (pv 0) pe_int) (pss_cons (ps_fldK (K := K) rfl (pv 0) (pe_lst pa_nil)) (pss_one (ps_fldK (K := K) rfl (pv 0) pe_int)))))), ?_⟩
  have cl := T.cls "Watcher"
  walk_at "yhead"; walk_at "y"
  refine fst_i hx cl (T.noat "Watcher" "s7_seen") (by decide) ?_
  walk_at "y"
  refine fst_i upd_same cl (T.noat "Watcher" "s7_opened") (by decide) ?_
  walk_at "y"
  refine fst_i upd_same cl (T.noat "Watcher" "s7_made") (by decide) ?_
  walk_at "y"
  refine ⟨sz4, fun l hl => ?_⟩
  have nx : x ≠ l := ne_of_none upd_same hl
  walk_at "y"
  refine fst_i ((upd_ne nx).trans upd_same) cl (T.noat "Watcher" "s7_open") (ltB (by kernel_rfl)) ?_
  walk_at "y"
  refine fst_i upd_same cl (T.noat "Watcher" "s7_most") (ltB (by kernel_rfl)) ?_
  rw [upd_ne (Ne.symm nx), upd_ne (Ne.symm nx), upd_ne (Ne.symm nx)] at hl
  refine q l _ hl (fun b o e n => ?_) ⟨by rw [upd_same]; kernel_rfl, ?_⟩
  · have nl : b ≠ l := ne_of_none e hl
    rw [upd_ne n, upd_ne n, upd_ne nl, upd_ne n, upd_ne n, upd_ne n]
    exact e
  · rw [upd_ne (Ne.symm nx), upd_ne (Ne.symm nx), upd_same]
    rfl
end
end L76
namespace L76
open PySem PySem.Spec PyProof.Rows L2
variable {gd : Bool}
local macro_rules | `(tactic| walk_at "y1") => `(tactic| with_reducible first
  | refine tSeq_i ?_ | refine tAsg_i ?_ | refine tCons_i ?_ | refine tNil_i ?_ | refine tC_i ?_ | refine tOp_i ?_ | refine tIfS_i ?_ | refine tTest_i ?_ | refine exBl_i ?_ | refine tRet_i ?_ | refine tCall_i ?_
  | refine tCB_i ?_ | refine tLst_i ?_ | refine tTup_i ?_ | refine rI0_i ?_ | refine tDrop_i ?_ | refine tNext_i ?_ | refine tB_i ?_ | refine tAnd_i ?_ | refine tOr_i ?_ | refine tNot_i ?_ | refine tAndV_i ?_ | refine tOrV_i ?_ | refine tNotV_i ?_
  | refine tYes_i ?_ | refine tTM_i ?_ | refine tPar_i ?_ | refine tSl_i ?_ | refine tNoPart_i ?_ | refine tPart_i ?_ | refine part_i ?_ | refine tMake_i ?_ | refine tProp_i ?_ | refine tCallOG_i ?_ | refine tVeI_i ?_ | refine tOst_i ?_ | refine tMkO_i ?_ | refine sFld_i ?_ | refine fldaug_i ?_ | refine gCons_i ?_ | refine gNil_i ?_ | refine tChain_i ?_ | refine tBM_i ?_ | refine rAdd2_i ?_ | refine rLe2_i ?_ | refine rEq2_i ?_ | refine rEq2_ss ?_ | refine rNe2_i ?_ | refine rNe2_ss ?_ | refine rIsN_i ?_ | refine rNotN_i ?_ | refine tTup_i2 ?_ | refine tIf_i ?_ | refine tUn_i ?_ | refine tDGet_i ?_ | refine sDPut_i ?_ | refine tFld_i ?_ | refine tRetN_i ?_ | refine tBreak_i ?_ | refine tCont_i ?_ | refine rU_i ?_)
local macro_rules | `(tactic| walk_at "yhead") => `(tactic| dsimp only [L2.start, List.map, List.length_cons, List.length_nil, Nat.reduceAdd, Nat.reduceSub, List.replicate, List.cons_append, List.nil_append])
local macro_rules | `(tactic| walk_at "y2") => `(tactic| first
  | walk_at "y1"
  | ((with_reducible refine tVar_i (v := ?v) ?h ?q); (case h => rfl))
  | ((with_reducible refine gName_i ?_); (dsimp only [L2.wipe, List.set]))
  | with_reducible refine iteT ?_ | with_reducible refine iteF ?_ | with_reducible refine iteNT ?_ | with_reducible refine iteNF ?_
  | ((with_reducible refine iteDT ?h ?q); (case h => first | decide +kernel | omega | assumption | exact nv1 | exact nv2 | exact nv3 | exact nv4)) | ((with_reducible refine iteDF ?h ?q); (case h => first | decide +kernel | omega | assumption | exact nv1 | exact nv2 | exact nv3 | exact nv4))
  | ((with_reducible refine iteNDT ?h ?q); (case h => first | decide +kernel | omega | assumption | exact nv1 | exact nv2 | exact nv3 | exact nv4)) | ((with_reducible refine iteNDF ?h ?q); (case h => first | decide +kernel | omega | assumption | exact nv1 | exact nv2 | exact nv3 | exact nv4))
  | ((with_reducible refine rIsi2_1 (T := ?T) (b := true) ?ty ?h ?q); (case ty => first | exact ty_str | exact ty_int | exact ty_bl | exact ty_non); (case h => decide +kernel))
  | ((with_reducible refine rIsi2_1 (T := ?T) (b := false) ?ty ?h ?q); (case ty => first | exact ty_str | exact ty_int | exact ty_bl | exact ty_non); (case h => decide +kernel))
  | ((with_reducible refine rEq2_s ?h ?q); (case h => rfl)) | ((with_reducible refine rNe2_s ?h ?q); (case h => rfl))
  | ((with_reducible refine rEq_i ?h ?q); (case h => rfl)) | ((with_reducible refine rNe_i ?h ?q); (case h => rfl)))
local macro_rules | `(tactic| walk_at "y") => `(tactic| repeat walk_at "y2")
section
variable {P : Program} {w : World} {K : PySem.W.Frag} {mg : Str → Option Value} {base : Heap}
theorem exBad (T : Sy K mg) : ExC K "BadLog" "index" := exB_ok (He.ba T.b).1
theorem viMod (T : Sy K mg) : ViC K "ModelError" := viB_ok (He.ba (He.ba T.b).2).1
theorem sc_BadLog___init__ : FnScope ["self", "index"] ["self", "index"] (defScope (inClass (top 2) 0)) := ⟨rfl, rfl, rfl, by decide +kernel, rfl, by decide +kernel, by decide +kernel⟩
theorem x_BadLog (T : Sy K mg) : Exm P w K mg base 1 "BadLog" (spExI K "BadLog" "index") "index" := by
  refine T.exm (exBad T) (F_BadLog___init__ T) sc_BadLog___init__ sp2_len (fun cdv f A outer s H vs Q E hr h => ?_) (fun _ _ _ _ _ _ us hl => match us, hl with | [_, _], _ => rfl)
  obtain ⟨_, v, rfl, a, rfl, ha, q⟩ := h
  refine ⟨_, (pss_cons (ps_expr (pe_vinit (viMod T) (by rfl) (T.glo "ModelError") (pa_cons (pv 0) (pa_cons pe_str pa_nil)))) (pss_one (ps_ost (pv 0) (pv 1)))), ?_⟩
  walk_at "yhead"; walk_at "y"
  refine ⟨a, He.ga K "BadLog", [.str "not a log"], rfl, by show 1 ≤ 1000; decide, (exBad T).o, ha, ?_⟩
  exact ⟨v, rfl, _, rfl, a, He.ga K "BadLog", rfl, (exBad T).o, (exBad T).n, .inl ⟨ha, q⟩⟩
def WSt.step (s : WSt) : Ev → WSt
  | .fa _ => { s with seen := s.seen + 1, made := s.made + 1 }
  | .op n => { s with seen := s.seen + 1, opened := s.opened + 1, opn := if n ∈ s.opn then s.opn else s.opn ++ [n], most := max s.most ((if n ∈ s.opn then s.opn else s.opn ++ [n]).length : Nat) }
  | .sh n => { s with seen := s.seen + 1, opn := s.opn.filter fun m => decide (m ≠ n) }
  | _ => { s with seen := s.seen + 1 }
def WSt.ret (s : WSt) : Ev → Bool
  | .fa n => decide (n = s.made) | .op n => decide (n = s.opened) | .sh n => decide (n ∈ s.opn) | _ => true
def spWCall (K : PySem.W.Frag) : Sp := sp2 fun xv ev H Q E => ∃ x dx l st, xv = .ref x ∧ WAt K H x dx l st ∧ st.opn.length ≤ 100 ∧
  ((∃ p e, ev = .ref p ∧ H p = some (.tup (Ev.xs e)) ∧ e.ok ∧ ∀ l' H', (l' = l ∨ H l' = none) → (∀ b o, H b = some o → b ≠ x → b ≠ l → H' b = some o) → WAt K H' x dx l' (st.step e) → Q (.bl (st.ret e)) H') ∨
    ∃ p, ev = .ref p ∧ H p = some (.tup [.str "open", .bl true]) ∧ ∀ d H', H d = none → Same H H' → H' d = some (.xd [("index", .int st.seen)]) → E (.ref (He.ga K "BadLog")) (some d) H')
theorem sc_Watcher___call__ : FnScope ["self", "event", "word", "number", "rest", "was_open", "entry"] ["self", "event"] (defScope (inClass (top 21) 1)) := ⟨rfl, rfl, rfl, by decide +kernel, rfl, by decide +kernel, by decide +kernel⟩
theorem f_call (T : Sy K mg) : ∃ fd, FnG gd P w K mg base (CX P w) 7 (He.ma K (He.ga K "Watcher") "__call__") fd ["self", "event"] (spWCall K) ∧ Binds K fd ["self", "event"] [] := by
  obtain ⟨fd, F⟩ := F_Watcher___call__ T
  refine ⟨fd, FnG.body F sc_Watcher___call__ sp2_len fun cdv A out s H vs Q E z h => ?_, F.bindsN (fun _ _ _ _ _ _ us hl => match us, hl with | [_, _], _ => rfl)⟩
  have hu1 := hu_1 z; have hu2 := hu_2 z; have hu3 := hu_3 z
  obtain ⟨_, ev, rfl, x, dx, l, st, rfl, ⟨hx, hl⟩, hol, h⟩ := h
  have cl := T.cls "Watcher"
  refine ⟨_, (pss_cons (ps_if (pt_not (pt_val (pe_c (c_is_event T) z (pa_cons (pv 1) pa_nil)))) (pss_one (ps_raise rfl (takes_of rfl rfl rfl rfl) (pmk_x (x_BadLog T) z.r (pa_cons (pe_fldK (K := K) rfl (pv 0)) pa_nil)))) pss_nil) (pss_cons (ps_fldaugK (K := K) rfl (pv 0) pe_int) (pss_cons (ps_asg (pv 1) (pg_starK (K := K) (n := 3) (i := 2) rfl (by rfl) (pgs_cons (pg_name (i := 2) sc_Watcher___call__.nd rfl (by first | exact Or.inl rfl | exact Or.inr rfl)) (pgs_cons (pg_name (i := 3) sc_Watcher___call__.nd rfl (by first | exact Or.inl rfl | exact Or.inr rfl)) (pgs_star (pg_name (i := 4) sc_Watcher___call__.nd rfl (by first | exact Or.inl rfl | exact Or.inr rfl)) pgs_nil))) rfl rfl (by decide))) (pss_cons (ps_if (pt_cmpR (r := rEq2 K) (op_eq2 hu1) (pv 2) pe_str (nomark _)) (pss_cons (ps_fldaugK (K := K) rfl (pv 0) pe_int) (pss_one (ps_ret (pe_cmpR (r := rEq2 K) (op_eq2 hu1) (pv 3) (pe_op op_sub (pe_fldK (K := K) rfl (pv 0)) pe_int) (nomark _))))) pss_nil) (pss_cons (ps_if (pt_cmpR (r := rEq2 K) (op_eq2 hu1) (pv 2) pe_str (nomark _)) (pss_cons (ps_fldaugK (K := K) rfl (pv 0) pe_int) (pss_cons (ps_if (pt_cmpR (r := rNotIn2 K) (op_notIn2 hu2) (pv 3) (pe_fldK (K := K) rfl (pv 0)) rfl) (pss_one (ps_expr (pe_bmK (K := K) rfl PySem.F.plainAttrs_list PySem.F.slot_list_append PySem.F.type_list_append mt_append2 (pe_fldK (K := K) rfl (pv 0)) (pa_cons (pv 3) pa_nil)))) pss_nil) (pss_cons (ps_fldK (K := K) rfl (pv 0) (pe_callB (call_max2 rfl) (by rfl) (T.free "max") (by decide +kernel) (pa_cons (pe_fldK (K := K) rfl (pv 0)) (pa_cons (pe_callB (r := rLen2 K) call_len2 (by rfl) (T.free "len") (by decide +kernel) (pa_cons (pe_fldK (K := K) rfl (pv 0)) pa_nil)) pa_nil)))) (pss_one (ps_ret (pe_cmpR (r := rEq2 K) (op_eq2 hu1) (pv 3) (pe_op op_sub (pe_fldK (K := K) rfl (pv 0)) pe_int) (nomark _))))))) pss_nil) (pss_cons (ps_if (pt_cmpR (r := rEq2 K) (op_eq2 hu1) (pv 2) pe_str (nomark _)) (pss_cons (ps_set (i := 5) sc_Watcher___call__.nd rfl (by first | exact Or.inl rfl | exact Or.inr rfl) (pe_cmpR (r := rIn2 K) (op_in2 hu2) (pv 3) (pe_fldK (K := K) rfl (pv 0)) rfl)) (pss_cons (ps_fldK (K := K) rfl (pv 0) (pe_lc (own := [("entry", 6)]) (g := gName 6) (by rfl) sc_Watcher___call__.nd (pi_anyK (K := K) rfl (pe_fldK (K := K) rfl (pv 0))) (blkOk_by (own := [("entry", 6)]) (N := ["self", "event", "word", "number", "rest", "was_open", "entry"]) (sc := (defScope (inClass (top 21) 1))) (by decide +kernel)) (fun _ _ _ _ _ => (pg_name (i := 6) sc_Watcher___call__.nd rfl (by first | exact Or.inl rfl | exact Or.inr rfl))) (fun _ _ _ _ _ => pts_one (pt_cmpR (r := rNe2 K) (op_ne2 hu1) (pv 6) (pv 3) (nomark _))) (fun _ _ _ _ _ => (pv 6)))) (pss_one (ps_ret (pv 5))))) pss_nil) (pss_one (ps_ret pe_bl)))))))), ?_⟩
  rcases h with ⟨p, e, rfl, hp, ok, q⟩ | ⟨p, rfl, hp, q⟩
  · walk_at "yhead"; walk_at "y"
    refine ⟨_, rfl, .inl ⟨p, e, rfl, hp, ok, fun H1 s1 => ?_⟩⟩
    walk_at "y"
    have hx1 := s1 _ _ hx
    have hl1 := s1 _ _ hl
    have nxl : x ≠ l := ne_of hx hl (by intro z; cases z)
    have nxp : p ≠ x := ne_of hp hx (by intro z; cases z)
    have npl : p ≠ l := ne_of hp hl (by intro z; cases z)
    refine faugU_i (k := st.seen) (fs' := ({ st with seen := st.seen + 1 } : WSt).fs l) hx1 cl (T.noat "Watcher" "s7_seen") (ltB (by kernel_rfl)) (by kernel_rfl) (by kernel_rfl) fun H2 hx2 u2 => ?_
    walk_at "y"
    have hl2 := (u2 l (Ne.symm nxl)).trans hl1
    have hp2 := (u2 p nxp).trans (s1 _ _ hp)
    have off2 : ∀ b o, H b = some o → b ≠ x → H2 b = some o := fun b o e n => (u2 b n).trans (s1 _ _ e)
    cases e with
    | op n =>
      refine gStar_3U (SqT.of hp2) fun d H3 hd hd3 s3 => ?_
      walk_at "y"
      refine faugU_i (k := st.opened) (fs' := ({ st with seen := st.seen + 1, opened := st.opened + 1 } : WSt).fs l) (s3 _ _ hx2) cl (T.noat "Watcher" "s7_opened") (ltB (by kernel_rfl)) (by kernel_rfl) (by kernel_rfl) fun H4 hx4 u4 => ?_
      walk_at "y"
      have hl4 := (u4 l (Ne.symm nxl)).trans (s3 _ _ hl2)
      have off4 : ∀ b o, H b = some o → b ≠ x → H4 b = some o := fun b o e n => (u4 b n).trans (s3 _ _ (off2 b o e n))
      refine fld_j (v := .ref l) hx4 cl (T.noat "Watcher" "s7_open") (by kernel_rfl) ?_
      refine rNotIn2_f (b := true) (SqL.of hl4) rfl (flat_ints _) ?_
      rw [inV_ints]
      by_cases c : n ∈ st.opn
      · walk_at "y"
        refine fld_j (v := .int st.most) hx4 cl (T.noat "Watcher" "s7_most") (by kernel_rfl) ?_
        walk_at "y"
        refine fld_j (v := .ref l) hx4 cl (T.noat "Watcher" "s7_open") (by kernel_rfl) ?_
        walk_at "y"
        refine rLen2_l (SqL.of hl4) ?_ (List.length_map ..)
        refine ⟨_, _, rfl, ?_⟩
        walk_at "y"
        refine fstU_i (fs' := (WSt.step st (.op n)).fs l) hx4 cl (T.noat "Watcher" "s7_most") (ltB (by kernel_rfl)) (?_) fun H6 hx6 u6 => ?_
        · rw [show WSt.step st (.op n) = ⟨st.seen + 1, st.opened + 1, st.made, st.opn, if (((st.opn).length : Nat) : Int) > st.most then (((st.opn).length : Nat) : Int) else st.most⟩ by
            show WSt.mk _ _ _ _ _ = _
            first | rw [if_pos c] | rw [if_neg c]
            congr 1
            rw [Int.max_def]
            split <;> split <;> omega]
          kernel_rfl
        walk_at "y"
        refine fld_j (v := .int (st.opened + 1)) hx6 cl (T.noat "Watcher" "s7_opened") (by kernel_rfl) ?_
        walk_at "y"
        rw [show st.opened + 1 - 1 = st.opened by omega]
        refine q l H6 (.inl rfl) (fun b o e n1 n2 => (u6 b n1).trans (off4 b o e n1)) ⟨hx6, ?_⟩
        rw [u6 l (Ne.symm nxl), hl4]
        show _ = some (HO.lst ((if n ∈ st.opn then st.opn else st.opn ++ [n]).map V.int))
        first | rw [if_pos c] | rw [if_neg c]
      · walk_at "y"
        refine fld_j (v := .ref l) hx4 cl (T.noat "Watcher" "s7_open") (by kernel_rfl) ?_
        refine ⟨tyL hl4, ?_⟩
        walk_at "y"
        refine appU_i hl4 (by rw [List.length_map]; exact Nat.lt_of_le_of_lt hol (by decide)) fun H5 hl5 u5 => ?_
        walk_at "y"
        have hx5 := (u5 x nxl).trans hx4
        rw [show st.opn.map V.int ++ [V.int n] = (st.opn ++ [n]).map V.int by simp] at hl5
        have off5 : ∀ b o, H b = some o → b ≠ x → b ≠ l → H5 b = some o := fun b o e n1 n2 => (u5 b n2).trans (off4 b o e n1)
        refine fld_j (v := .int st.most) hx5 cl (T.noat "Watcher" "s7_most") (by kernel_rfl) ?_
        walk_at "y"
        refine fld_j (v := .ref l) hx5 cl (T.noat "Watcher" "s7_open") (by kernel_rfl) ?_
        walk_at "y"
        refine rLen2_l (SqL.of hl5) ?_ (List.length_map ..)
        refine ⟨_, _, rfl, ?_⟩
        walk_at "y"
        refine fstU_i (fs' := (WSt.step st (.op n)).fs l) hx5 cl (T.noat "Watcher" "s7_most") (ltB (by kernel_rfl)) (?_) fun H6 hx6 u6 => ?_
        · rw [show WSt.step st (.op n) = ⟨st.seen + 1, st.opened + 1, st.made, st.opn ++ [n], if (((st.opn ++ [n]).length : Nat) : Int) > st.most then (((st.opn ++ [n]).length : Nat) : Int) else st.most⟩ by
            show WSt.mk _ _ _ _ _ = _
            first | rw [if_pos c] | rw [if_neg c]
            congr 1
            rw [Int.max_def]
            split <;> split <;> omega]
          kernel_rfl
        walk_at "y"
        refine fld_j (v := .int (st.opened + 1)) hx6 cl (T.noat "Watcher" "s7_opened") (by kernel_rfl) ?_
        walk_at "y"
        rw [show st.opened + 1 - 1 = st.opened by omega]
        refine q l H6 (.inl rfl) (fun b o e n1 n2 => (u6 b n1).trans (off5 b o e n1 n2)) ⟨hx6, ?_⟩
        rw [u6 l (Ne.symm nxl), hl5]
        show _ = some (HO.lst ((if n ∈ st.opn then st.opn else st.opn ++ [n]).map V.int))
        first | rw [if_pos c] | rw [if_neg c]
    | sh n =>
      refine gStar_3U (SqT.of hp2) fun d H3 hd hd3 s3 => ?_
      walk_at "y"
      refine fld_j (v := .ref l) (s3 _ _ hx2) cl (T.noat "Watcher" "s7_open") (by kernel_rfl) ?_
      refine rIn2_f (b := true) (SqL.of (s3 _ _ hl2)) rfl (flat_ints _) ?_
      rw [inV_ints]
      walk_at "y"
      refine lc_b true ?_
      walk_at "y"
      refine fld_j (v := .ref l) (s3 _ _ hx2) cl (T.noat "Watcher" "s7_open") (by kernel_rfl) ?_
      refine ⟨l, rfl, ⟨_, SqL.of (s3 _ _ hl2)⟩, lc_pure (walk_b (b := true) (xs := st.opn.map V.int)) (by rw [List.length_map]; exact Nat.le_trans hol sz4) (fun i => (st.opn[i]?).bind fun m => if m = n then none else some m) (firm_FR V.int) (fun H' s => s _ _ (s3 _ _ hl2)) (fun i H0 x H1 y => by obtain ⟨rfl, _⟩ := y; exact Same.refl _) (fun i x H0 H5 hi s0 s5 y N C hC hN => ?_) fun D H5 vs hD s5 h5 pr => ?_⟩
      · obtain ⟨rfl, e1⟩ := y
        rw [List.getElem?_map] at e1
        cases e2 : st.opn[i]? with
        | none => rw [e2] at e1; cases e1
        | some m =>
          rw [e2] at e1
          cases e1
          walk_at "y"
          refine ⟨rfl, ?_⟩
          walk_at "y"
          by_cases cm : m = n
          · walk_at "y"
            exact hN (by rw [e2]; simp [cm]) _ (Same.refl _)
          · walk_at "y"
            exact hC _ _ m (Same.refl _) (by rw [e2]; simp [cm]) rfl
      · rw [paired_FR pr, List.length_map, filterMap_ix, filterMap_ne] at h5
        walk_at "y"
        refine fstU_i (fs' := (WSt.step st (.sh n)).fs D) (s5 _ _ (s3 _ _ hx2)) cl (T.noat "Watcher" "s7_open") (ltB (by kernel_rfl)) (by kernel_rfl) fun H6 hx6 u6 => ?_
        walk_at "y"
        have nxD : D ≠ x := fun z => by rw [z] at hD; rw [s3 _ _ hx2] at hD; cases hD
        refine q D H6 (.inr ?_) (fun b o e n1 n2 => (u6 b n1).trans (s5 _ _ (s3 _ _ (off2 b o e n1)))) ⟨hx6, ?_⟩
        · cases e1 : H D with
          | none => rfl
          | some o => rw [s3 _ _ (off2 D o e1 nxD)] at hD; cases hD
        · rw [u6 D nxD, h5]
          rfl
    | fa n =>
      refine gStar_3U (SqT.of hp2) fun d H3 hd hd3 s3 => ?_
      walk_at "y"
      refine faugU_i (k := st.made) (fs' := (WSt.step st (.fa n)).fs l) (s3 _ _ hx2) cl (T.noat "Watcher" "s7_made") (ltB (by kernel_rfl)) (by kernel_rfl) (by kernel_rfl) fun H4 hx4 u4 => ?_
      walk_at "y"
      refine fld_j (v := .int (st.made + 1)) hx4 cl (T.noat "Watcher" "s7_made") (by kernel_rfl) ?_
      walk_at "y"
      rw [show st.made + 1 - 1 = st.made by omega]
      exact q l H4 (.inl rfl) (fun b o e n1 _ => (u4 b n1).trans (s3 _ _ (off2 b o e n1))) ⟨hx4, (u4 l (Ne.symm nxl)).trans (s3 _ _ hl2)⟩
    | no n =>
      refine gStar_3U (SqT.of hp2) fun d H3 hd hd3 s3 => ?_
      walk_at "y"
      exact q l H3 (.inl rfl) (fun b o e n1 _ => s3 _ _ (off2 b o e n1)) ⟨s3 _ _ hx2, s3 _ _ hl2⟩
    | sw =>
      refine gStar_3U (SqT.of hp2) fun d H3 hd hd3 s3 => ?_
      walk_at "y"
      exact q l H3 (.inl rfl) (fun b o e n1 _ => s3 _ _ (off2 b o e n1)) ⟨s3 _ _ hx2, s3 _ _ hl2⟩
  · walk_at "yhead"; walk_at "y"
    refine ⟨_, rfl, .inr ⟨p, rfl, hp, fun H1 s1 => ?_⟩⟩
    walk_at "y"
    refine ⟨x, He.ga K "Watcher", dx, st.fs l, .int st.seen, rfl, s1 _ _ hx, cl, T.noat "Watcher" "s7_seen", (by kernel_rfl), ?_⟩
    walk_at "y"
    refine mkx_i (K := K) fun d H' hd sd hv => ?_
    exact q d H' (s1.free hd) (s1.trans sd) hv
end
end L76
namespace L76
open PySem PySem.Spec PyProof.Rows L2
variable {gd : Bool}
local macro_rules | `(tactic| walk_at "y1") => `(tactic| with_reducible first
  | refine tSeq_i ?_ | refine tAsg_i ?_ | refine tCons_i ?_ | refine tNil_i ?_ | refine tC_i ?_ | refine tOp_i ?_ | refine tIfS_i ?_ | refine tTest_i ?_ | refine exBl_i ?_ | refine tRet_i ?_ | refine tCall_i ?_
  | refine tCB_i ?_ | refine tLst_i ?_ | refine tTup_i ?_ | refine rI0_i ?_ | refine tDrop_i ?_ | refine tNext_i ?_ | refine tB_i ?_ | refine tAnd_i ?_ | refine tOr_i ?_ | refine tNot_i ?_ | refine tAndV_i ?_ | refine tOrV_i ?_ | refine tNotV_i ?_
  | refine tYes_i ?_ | refine tTM_i ?_ | refine tPar_i ?_ | refine tSl_i ?_ | refine tNoPart_i ?_ | refine tPart_i ?_ | refine part_i ?_ | refine tMake_i ?_ | refine tProp_i ?_ | refine tCallOG_i ?_ | refine tVeI_i ?_ | refine tOst_i ?_ | refine tMkO_i ?_ | refine sFld_i ?_ | refine fldaug_i ?_ | refine gCons_i ?_ | refine gNil_i ?_ | refine tChain_i ?_ | refine tBM_i ?_ | refine rAdd2_i ?_ | refine rLe2_i ?_ | refine rEq2_i ?_ | refine rEq2_ss ?_ | refine rNe2_i ?_ | refine rNe2_ss ?_ | refine rIsN_i ?_ | refine rNotN_i ?_ | refine tTup_i2 ?_ | refine tIf_i ?_ | refine tUn_i ?_ | refine tDGet_i ?_ | refine sDPut_i ?_ | refine tFld_i ?_ | refine tRetN_i ?_ | refine tBreak_i ?_ | refine tCont_i ?_ | refine rU_i ?_)
local macro_rules | `(tactic| walk_at "yhead") => `(tactic| dsimp only [L2.start, List.map, List.length_cons, List.length_nil, Nat.reduceAdd, Nat.reduceSub, List.replicate, List.cons_append, List.nil_append])
local macro_rules | `(tactic| walk_at "y2") => `(tactic| first
  | walk_at "y1"
  | ((with_reducible refine tVar_i (v := ?v) ?h ?q); (case h => rfl))
  | ((with_reducible refine gName_i ?_); (dsimp only [L2.wipe, List.set]))
  | with_reducible refine iteT ?_ | with_reducible refine iteF ?_ | with_reducible refine iteNT ?_ | with_reducible refine iteNF ?_
  | ((with_reducible refine iteDT ?h ?q); (case h => first | decide +kernel | omega | assumption | exact nv1 | exact nv2 | exact nv3 | exact nv4)) | ((with_reducible refine iteDF ?h ?q); (case h => first | decide +kernel | omega | assumption | exact nv1 | exact nv2 | exact nv3 | exact nv4))
  | ((with_reducible refine iteNDT ?h ?q); (case h => first | decide +kernel | omega | assumption | exact nv1 | exact nv2 | exact nv3 | exact nv4)) | ((with_reducible refine iteNDF ?h ?q); (case h => first | decide +kernel | omega | assumption | exact nv1 | exact nv2 | exact nv3 | exact nv4))
  | ((with_reducible refine rIsi2_1 (T := ?T) (b := true) ?ty ?h ?q); (case ty => first | exact ty_str | exact ty_int | exact ty_bl | exact ty_non); (case h => decide +kernel))
  | ((with_reducible refine rIsi2_1 (T := ?T) (b := false) ?ty ?h ?q); (case ty => first | exact ty_str | exact ty_int | exact ty_bl | exact ty_non); (case h => decide +kernel))
  | ((with_reducible refine rEq2_s ?h ?q); (case h => rfl)) | ((with_reducible refine rNe2_s ?h ?q); (case h => rfl))
  | ((with_reducible refine rEq_i ?h ?q); (case h => rfl)) | ((with_reducible refine rNe_i ?h ?q); (case h => rfl)))
local macro_rules | `(tactic| walk_at "y") => `(tactic| repeat walk_at "y2")
section
variable {P : Program} {w : World} {K : PySem.W.Frag} {mg : Str → Option Value} {base : Heap}
theorem FnG.quiet {n : Nat} {f : Addr} {fd : FuncData} {ps : List Str} {sp : Sp} (F : FnG gd P w K mg base (CX P w) n f fd ps sp) : FnG gd P w K mg base CX0 n f fd ps (fun vs H Q _ => sp vs H Q fun _ _ _ => False) :=
  ⟨fun vs H Q E q => F.len _ _ _ _ q, fun A out st H ag us vs Q E z he hb hv q => codeAny_mono (F.run A out st H ag us vs Q _ z he hb hv q) fun r sz h => by
    cases r with
    | ok fl => cases fl <;> exact h
    | error e => exact (let ⟨_, _, _, _, _, _, _, _, _, _, _, _, q⟩ := h; False.elim q)⟩
/-- a property of the class named c -/
structure Prp (gd : Bool) (P : Program) (w : World) (K : PySem.W.Frag) (mg : Str → Option Value) (base : Heap) (k : Nat) (c f : Str) (sp : Sp) : Prop where
  ex : ∃ (p g : Addr) (fd : FuncData) (ps : List Str), Cls K (He.ga K c) ∧ PropOf K (He.ga K c) f p g ∧ FnG gd P w K mg base CX0 k g fd ps sp ∧ Binds K fd ps []
theorem pe_prK {X : Cx} {k j : Nat} {c f : Str} {sp : Sp} {e : Expr} {ta : TE} {pos : Pos} (hK : X.K = K) (m : Prp gd X.prog X.w K X.mg X.base k c f sp) (z : RG gd j X.A) (he : PE X e ta) (hk : k + 1 ≤ j := by decide)
    (hab : attributeBase e f X.env (eval e X.env) = eval e X.env := by rfl) : PE X (.Attribute e f pos) (tProp (He.ga K c) sp [] E0 ta) := by
  subst hK
  obtain ⟨p, g, fd, ps, cl, hp, F, b⟩ := m.ex
  exact pe_propG he cl hp F (z.mono hk) b .nil pass0 hab
theorem Sy.prp (T : Sy K mg) (n : Nat) {c f q : Str} {i j : Nat} {N ps : List Str} {k : Nat} {sp : Sp} (h : pr[n]? = some ⟨c, f, dM c f q i j⟩)
    (S : FnScope N ps (defScope (inClass (top i) j))) (len : ∀ vs H Q E, sp vs H Q E → vs.length = ps.length)
    (hbody : ∀ (cdv : Value) (g : Addr) (A : Around) (outer : List Env) (s : Shared) (H : Hp) (vs : List V) (Q : VK) (E : XK), RG gd k (A.deeper (envOfC q (defScope (inClass (top i) j)) s.heap.objs.size g cdv)) → sp vs H Q E →
      ∃ t, PSs (cxOf CX0 P w K mg base N q (defScope (inClass (top i) j)) g cdv A outer s H E).nox (defBody (inClass (top i) j)) t ∧ t { nx := fun _ H' => Q .non H', rt := Q } (start N vs) H)
    (hb : ∀ (kV doc pm : Value) (an : Option Addr) (cdv ct : Value) (us : List Value), us.length = ps.length → bindArgs (PySem.W.fnOf f q (defArgs (inClass (top i) j)) (defBody (inClass (top i) j)) (defScope (inClass (top i) j)) .none kV doc pm an cdv ct) ⟨us, []⟩ = pure (ps.zip us))
    (hc : fa.any (isCls c) = true := by decide +kernel) : Prp gd P w K mg base (k + 1) c f sp := by
  obtain ⟨hp, fd, F⟩ := T.p n _ h
  refine ⟨_, _, fd, ps, T.cls c hc, hp, FnG.body F S len fun cdv A outer s H vs Q E hr h => ?_, F.bindsN hb⟩
  obtain ⟨t, h1, h2⟩ := hbody cdv _ A outer s H vs Q E hr h
  exact ⟨t, h1.nox, h2⟩
def spSeen (K : PySem.W.Frag) : Sp := sp1 fun v H Q _ => ∃ x dx l st, v = .ref x ∧ WAt K H x dx l st ∧ Q (.int st.seen) H
def spMost (K : PySem.W.Frag) : Sp := sp1 fun v H Q _ => ∃ x dx l st, v = .ref x ∧ WAt K H x dx l st ∧ Q (.int st.most) H
def spNow (K : PySem.W.Frag) : Sp := sp1 fun v H Q _ => ∃ x dx l st, v = .ref x ∧ WAt K H x dx l st ∧ ∀ t o H', H t = none → Same H H' → H' t = some (.frz o (.tup (st.opn.map V.int))) → o.cls = .type "tuple" → o.dict = none → Q (.ref t) H'
theorem sc_Watcher_seen : FnScope ["self"] ["self"] (defScope (inClass (top 21) 2)) := ⟨rfl, rfl, rfl, by decide +kernel, rfl, by decide +kernel, by decide +kernel⟩
theorem sc_Watcher_now_open : FnScope ["self"] ["self"] (defScope (inClass (top 21) 3)) := ⟨rfl, rfl, rfl, by decide +kernel, rfl, by decide +kernel, by decide +kernel⟩
theorem sc_Watcher_open_at_most : FnScope ["self"] ["self"] (defScope (inClass (top 21) 4)) := ⟨rfl, rfl, rfl, by decide +kernel, rfl, by decide +kernel, by decide +kernel⟩
theorem p_seen (T : Sy K mg) : Prp gd P w K mg base 1 "Watcher" "seen" (spSeen K) := by
  refine T.prp 0 rfl sc_Watcher_seen sp1_len (fun cdv g A outer s H vs Q E z h => ?_) (fun _ _ _ _ _ _ us hl => match us, hl with | [_], _ => rfl)
  obtain ⟨_, rfl, x, dx, l, st, rfl, ⟨hx, hl⟩, q⟩ := h
  refine ⟨_, (pss_one (ps_ret (pe_fldK (K := K) rfl (pv 0)))), ?_⟩
  walk_at "yhead"; walk_at "y"
  exact fld_j (v := .int st.seen) hx (T.cls "Watcher") (T.noat "Watcher" "s7_seen") (by kernel_rfl) q
theorem p_most (T : Sy K mg) : Prp gd P w K mg base 1 "Watcher" "open_at_most" (spMost K) := by
  refine T.prp 2 rfl sc_Watcher_open_at_most sp1_len (fun cdv g A outer s H vs Q E z h => ?_) (fun _ _ _ _ _ _ us hl => match us, hl with | [_], _ => rfl)
  obtain ⟨_, rfl, x, dx, l, st, rfl, ⟨hx, hl⟩, q⟩ := h
  refine ⟨_, (pss_one (ps_ret (pe_fldK (K := K) rfl (pv 0)))), ?_⟩
  walk_at "yhead"; walk_at "y"
  exact fld_j (v := .int st.most) hx (T.cls "Watcher") (T.noat "Watcher" "s7_most") (by kernel_rfl) q
theorem p_now (T : Sy K mg) : Prp gd P w K mg base 1 "Watcher" "now_open" (spNow K) := by
  refine T.prp 1 rfl sc_Watcher_now_open sp1_len (fun cdv g A outer s H vs Q E z h => ?_) (fun _ _ _ _ _ _ us hl => match us, hl with | [_], _ => rfl)
  obtain ⟨_, rfl, x, dx, l, st, rfl, ⟨hx, hl⟩, q⟩ := h
  refine ⟨_, (pss_one (ps_ret (pe_callTy (r := rTupF K) call_tupF (by rfl) (T.free "tuple") (by decide +kernel) (pa_cons (pe_fldK (K := K) rfl (pv 0)) pa_nil)))), ?_⟩
  walk_at "yhead"; walk_at "y"
  refine fld_j (v := .ref l) hx (T.cls "Watcher") (T.noat "Watcher" "s7_open") (by kernel_rfl) ?_
  walk_at "y"
  exact ⟨l, _, rfl, SqL.of hl, fun t o ht hc hd => q t o _ ht (same_upd ht) upd_same hc hd⟩
/-- watcher(event), the event a good one -/
def spWQ (K : PySem.W.Frag) : Sp := fun vs H Q _ => spWCall K vs H Q fun _ _ _ => False
theorem cO (T : Sy K mg) : StX.CallO K (He.ga K "Watcher") (He.ma K (He.ga K "Watcher") "__call__") := by
  have m := T.meth "Watcher" "__call__"
  obtain ⟨fd, F⟩ := F_Watcher___call__ T
  obtain ⟨oc, od, dV, kV, doc, pm, an, cdv, ct, osl, _, lk, _⟩ := F.ex
  refine ⟨m.at_, m.fn, ?_⟩
  unfold PySem.W.fnIn
  rw [show K.lookup (He.ma K (He.ga K "Watcher") "__call__") = _ from lk]
theorem pe_wq (T : Sy K mg) {X : Cx} {j : Nat} {e fe : Expr} {es : List Expr} {tf : TE} {t : TA} {pos : Pos} (hK : X.K = K) (hm : X.mg = mg) (z : RG gd j X.A) (hf : PE X fe tf) (ha : PA X (e :: es) t) (hk : 7 ≤ j := by decide)
    (ht : eval (.Call fe (e :: es) [] pos) X.env = (do callWith pos (← eval fe X.env) [] (backTo pos (starEach (e :: es) X.env)) (backToKw pos (keywordEach [] X.env))) := by rfl)
    (he : starEach (e :: es) X.env = (false, eval e X.env) :: starEach es X.env := by rfl) (hpl : (backTo pos (starEach es X.env)).any (·.1) = false := by rfl) : PE X (.Call fe (e :: es) [] pos) (tCallOG (He.ga K "Watcher") (spWQ K) E0 tf t) := by
  subst hK hm
  obtain ⟨fd, F, b⟩ := f_call (P := X.prog) (w := X.w) (base := X.base) (gd := gd) T
  exact pe_callOG hf (cO T) F.quiet (z.mono hk) b pass0 ha ht he hpl
end
end L76
namespace L76
open PySem PySem.Spec PyProof.Rows L2
variable {gd : Bool}
local macro_rules | `(tactic| walk_at "y1") => `(tactic| with_reducible first
  | refine tSeq_i ?_ | refine tAsg_i ?_ | refine tCons_i ?_ | refine tNil_i ?_ | refine tC_i ?_ | refine tOp_i ?_ | refine tIfS_i ?_ | refine tTest_i ?_ | refine exBl_i ?_ | refine tRet_i ?_ | refine tCall_i ?_
  | refine tCB_i ?_ | refine tLst_i ?_ | refine tTup_i ?_ | refine rI0_i ?_ | refine tDrop_i ?_ | refine tNext_i ?_ | refine tB_i ?_ | refine tAnd_i ?_ | refine tOr_i ?_ | refine tNot_i ?_ | refine tAndV_i ?_ | refine tOrV_i ?_ | refine tNotV_i ?_
  | refine tYes_i ?_ | refine tTM_i ?_ | refine tPar_i ?_ | refine tSl_i ?_ | refine tNoPart_i ?_ | refine tPart_i ?_ | refine part_i ?_ | refine tMake_i ?_ | refine tProp_i ?_ | refine tCallOG_i ?_ | refine tVeI_i ?_ | refine tOst_i ?_ | refine tMkO_i ?_ | refine sFld_i ?_ | refine fldaug_i ?_ | refine gCons_i ?_ | refine gNil_i ?_ | refine tChain_i ?_ | refine tBM_i ?_ | refine rAdd2_i ?_ | refine rLe2_i ?_ | refine rEq2_i ?_ | refine rEq2_ss ?_ | refine rNe2_i ?_ | refine rNe2_ss ?_ | refine rIsN_i ?_ | refine rNotN_i ?_ | refine tTup_i2 ?_ | refine tIf_i ?_ | refine tUn_i ?_ | refine tDGet_i ?_ | refine sDPut_i ?_ | refine tFld_i ?_ | refine tRetN_i ?_ | refine tBreak_i ?_ | refine tCont_i ?_ | refine rU_i ?_)
local macro_rules | `(tactic| walk_at "yhead") => `(tactic| dsimp only [L2.start, List.map, List.length_cons, List.length_nil, Nat.reduceAdd, Nat.reduceSub, List.replicate, List.cons_append, List.nil_append])
local macro_rules | `(tactic| walk_at "y2") => `(tactic| first
  | walk_at "y1"
  | ((with_reducible refine tVar_i (v := ?v) ?h ?q); (case h => rfl))
  | ((with_reducible refine gName_i ?_); (dsimp only [L2.wipe, List.set]))
  | with_reducible refine iteT ?_ | with_reducible refine iteF ?_ | with_reducible refine iteNT ?_ | with_reducible refine iteNF ?_
  | ((with_reducible refine iteDT ?h ?q); (case h => first | decide +kernel | omega | assumption | exact nv1 | exact nv2 | exact nv3 | exact nv4)) | ((with_reducible refine iteDF ?h ?q); (case h => first | decide +kernel | omega | assumption | exact nv1 | exact nv2 | exact nv3 | exact nv4))
  | ((with_reducible refine iteNDT ?h ?q); (case h => first | decide +kernel | omega | assumption | exact nv1 | exact nv2 | exact nv3 | exact nv4)) | ((with_reducible refine iteNDF ?h ?q); (case h => first | decide +kernel | omega | assumption | exact nv1 | exact nv2 | exact nv3 | exact nv4))
  | ((with_reducible refine rIsi2_1 (T := ?T) (b := true) ?ty ?h ?q); (case ty => first | exact ty_str | exact ty_int | exact ty_bl | exact ty_non); (case h => decide +kernel))
  | ((with_reducible refine rIsi2_1 (T := ?T) (b := false) ?ty ?h ?q); (case ty => first | exact ty_str | exact ty_int | exact ty_bl | exact ty_non); (case h => decide +kernel))
  | ((with_reducible refine rEq2_s ?h ?q); (case h => rfl)) | ((with_reducible refine rNe2_s ?h ?q); (case h => rfl))
  | ((with_reducible refine rEq_i ?h ?q); (case h => rfl)) | ((with_reducible refine rNe_i ?h ?q); (case h => rfl)))
local macro_rules | `(tactic| walk_at "y") => `(tactic| repeat walk_at "y2")
section
variable {P : Program} {w : World} {K : PySem.W.Frag} {mg : Str → Option Value} {base : Heap}
theorem sm_int {i : Int} (h : -999999999999 ≤ i ∧ i ≤ 999999999999) : smV (.int i) = true := by show decide _ = true; exact decide_eq_true h
theorem filterMap_snoc {α : Type} (g : Nat → Option α) (i : Nat) : (List.range (i + 1)).filterMap g = (List.range i).filterMap g ++ (g i).toList := by
  rw [List.range_succ, List.filterMap_append]
  cases q : g i <;> simp [q]
def spSpans : Sp := sp1 fun x H Q _ => ∃ b p es, x = .ref p ∧ LogAt b H p es ∧ ∀ D H' vs, H D = none → Same H H' → H' D = some (.lst vs) → Paired (TR spanV H') vs (spansOf es) → Q (.ref D) H'
theorem sc_spans : FnScope ["log", "found", "first", "event", "last", "ends"] ["log"] (defScope (top 22)) := ⟨rfl, rfl, rfl, by decide +kernel, rfl, by decide +kernel, by decide +kernel⟩
theorem c_spans (T : Sy K mg) : Cal gd P w K mg base CX0 7 "spans" spSpans := by
  refine T.cal (F_spans T) sc_spans sp1_len (fun cdv f A outer s H vs Q E z h => ?_) (fun _ _ _ _ _ _ us hl => match us, hl with | [_], _ => rfl)
  have hu1 := hu_1 z; have hu2 := hu_2 z; have hu3 := hu_3 z
  obtain ⟨x0, rfl, h⟩ := h
  obtain ⟨b, p, es, rfl, lg, q⟩ := h
  refine ⟨_, (pss_cons (ps_expr (pe_c (c_check_log T) z (pa_cons (pv 0) pa_nil))) (pss_cons (ps_set (i := 1) sc_spans.nd rfl (by first | exact Or.inl rfl | exact Or.inr rfl) (pe_lst pa_nil)) (pss_cons (ps_for PassesOwn.never (by rfl) (pi_enum2K (K := K) rfl (by rfl) (T.free "enumerate") (pv 0)) (pg_tupK (K := K) rfl (by rfl) (pgs_cons (pg_name (i := 2) sc_spans.nd rfl (by first | exact Or.inl rfl | exact Or.inr rfl)) (pgs_cons (pg_name (i := 3) sc_spans.nd rfl (by first | exact Or.inl rfl | exact Or.inr rfl)) pgs_nil))) (pss_one (ps_if (pt_cmpR (r := rEq2 K) (op_eq2 hu1) (pe_ix (r := rGet K) (ix_get hu3) (pv 3) pe_int (fun _ _ => rfl)) pe_str (nomark _)) (pss_cons (ps_setLc (i := 5) (own := [("last", 4)]) (g := gName 4) (by rfl) sc_spans.nd rfl rfl (sw_true rfl rfl rfl (by decide +kernel)) (pi_range2 (by rfl) (T.free "range") (pa_cons (pv 2) (pa_cons (pe_callB (r := rLen2 K) call_len2 (by rfl) (T.free "len") (by decide +kernel) (pa_cons (pv 0) pa_nil)) pa_nil))) (blkOk_by (own := [("last", 4)]) (N := ["log", "found", "first", "event", "last", "ends"]) (sc := (defScope (top 22))) (by decide +kernel)) (fun _ _ _ _ _ => (pg_name (i := 4) sc_spans.nd rfl (by first | exact Or.inl rfl | exact Or.inr rfl))) (fun _ _ _ _ _ => pts_one (pt_cmpR (r := rEq2 K) (op_eq2 hu1) (pe_ix (r := rGet K) (ix_get hu3) (pv 0) (pv 4) (fun _ _ => rfl)) (pe_tup (pa_cons pe_str (pa_cons (pe_ix (r := rGet K) (ix_get hu3) (pv 3) pe_int (fun _ _ => rfl)) pa_nil))) (nomark _))) (fun _ _ _ _ _ => (pv 4))) (pss_one (ps_expr (pe_bmK (K := K) rfl PySem.F.plainAttrs_list PySem.F.slot_list_append PySem.F.type_list_append mt_append2 (pv 1) (pa_cons (pe_tup (pa_cons (pe_ix (r := rGet K) (ix_get hu3) (pv 3) pe_int (fun _ _ => rfl)) (pa_cons (pv 2) (pa_cons (pe_ifExp (pt_cmpR (r := rNe2 K) (op_ne2 hu1) (pv 5) (pe_lst pa_nil) (nomark _)) (pe_ix (r := rGet K) (ix_get hu3) (pv 5) pe_int (fun _ _ => rfl)) pe_non) pa_nil)))) pa_nil))))) pss_nil))) (pss_one (ps_ret (pv 1)))))), ?_⟩
  obtain ⟨vs, h1, h2, ok, hl⟩ := id lg
  have ll : vs.length = es.length := h2.length
  walk_at "yhead"; walk_at "y"
  refine ⟨_, rfl, b, p, es, rfl, lg, fun H1 s1 => ?_⟩
  walk_at "y"
  refine ⟨sz4 (by simp), fun D nD => ?_⟩
  have sH2 := same_upd (H := H1) (o := .lst []) nD
  have eD := upd_same (H := H1) (a := D) (o := .lst [])
  generalize upd H1 D (.lst []) = H2 at sH2 eD ⊢
  walk_at "y"
  refine for_eb b ?_
  walk_at "y"
  have s12 := s1.trans sH2
  refine ⟨p, vs, rfl, SqB.of (s12 _ _ h1), for_it walk_eb (Pv := fun i σ H' => (Same H1 H' ∧ ∃ us, H' D = some (.lst us) ∧ us.length ≤ i ∧ Paired (TR spanV H') us ((List.range i).filterMap (spanAt es))) ∧ ∃ a c d e, σ = [some (.ref p), some (.ref D), a, c, d, e]) ⟨⟨sH2, [], eD, Nat.le_refl _, .nil⟩, _, _, _, _, rfl⟩ (fun i σ H' _ hp => hp.1.1 _ _ (s1 _ _ h1)) (fun i x σ H3 H4 hi hp y => ?_) fun σ H' hp => ?_⟩
  · obtain ⟨⟨s3, us, hus, lus, pus⟩, a, c, d, e, rfl⟩ := hp
    obtain ⟨tt, v1, v2, rfl, ht, rfl, e1, e2⟩ := y
    cases e1
    have sY := same_upd (o := .tup [.int i, v2]) ht
    have s4 := (s1.trans s3).trans sY
    obtain ⟨t, ev, rfl, e3, e4⟩ := LogAt.get (b := b) (p := p) ((firm_TR _).all (sT s4) h2) e2
    have hus4 := sY _ _ hus
    have okE := ok _ (List.mem_of_getElem? e3)
    refine gTup_i (SqT.of upd_same) ?_
    generalize upd H3 tt (.tup [.int i, .ref t]) = H4 at *
    have nf : ∀ {H5 : Hp}, Same H4 H5 → spanAt es i = none → Same H1 H5 ∧ ∃ us, H5 D = some (.lst us) ∧ us.length ≤ i + 1 ∧ Paired (TR spanV H5) us ((List.range (i + 1)).filterMap (spanAt es)) := fun s5 e => by
      refine ⟨(s3.trans sY).trans s5, us, s5 _ _ hus4, by omega, ?_⟩
      rw [filterMap_snoc, e]
      simpa using (firm_TR _).all (sT (sY.trans s5)) pus
    walk_at "y"
    cases ev with
    | op n =>
      refine rGet_t (n := 0) (SqT.of e4) rfl ?_
      walk_at "y"
      refine lc_r2 ?_
      walk_at "y"
      refine rLen2_b (SqB.of (s4 _ _ h1)) ?_
      rw [ll]
      refine ⟨i, es.length, rfl, by omega, lc_pure walk_range (Nat.le_trans (show _ ≤ 16 by omega) sz4) (fun j => if es[i + j]? = some (.sh n) then some (i + j) else none) (firm_FR fun j : Nat => V.int (j : Nat)) (fun _ _ => trivial) (fun i H0 x H1 y => by obtain ⟨rfl, _⟩ := y; exact Same.refl _) (fun j x H0 H5 hj s0 s5 y N C hC hN => ?_) fun E H5 ws hE s5 h5 pr => ?_⟩
      · obtain ⟨rfl, rfl⟩ := y
        walk_at "y"
        refine ⟨rfl, ?_⟩
        have hj2 : i + j < es.length := by omega
        obtain ⟨v5, e5, t5, rfl, e6⟩ := paired_at h2 (i := i + j) (y := es[i + j]) (List.getElem?_eq_getElem hj2)
        have s6 := s4.trans s5
        walk_at "y"
        refine rGet_b (n := i + j) (SqB.of (s6 _ _ h1)) e5 ?_ (by omega)
        walk_at "y"
        refine rGet_t (n := 1) (SqT.of (s5 _ _ e4)) rfl ?_
        walk_at "y"
        refine ⟨sz4 (by simp), fun G nG => ?_⟩
        have sH6 := same_upd (H := H5) (o := .tup [.str "shut", .int n]) nG
        have eG := upd_same (H := H5) (a := G) (o := .tup [.str "shut", .int n])
        generalize upd H5 G (.tup [.str "shut", .int n]) = H6 at sH6 eG ⊢
        refine rEq2_d (dp_tup (SqT.of ((s6.trans sH6) _ _ e6)) (Ev.pl _)) (dp_tup (SqT.of eG) rfl) (sm_tup (Ev.sm (ok _ (List.getElem_mem hj2)))).shaped (sm_tup (by rw [List.all_cons, smStr, Bool.true_and, List.all_cons, sm_int (by have := okE.1; have := okE.2; simp only [Ev.num] at *; omega)]; rfl)).shaped ?_
        rw [ev_eqv]
        by_cases ce : es[i + j] = .sh n
        · walk_at "y"
          rw [show (i : Int) + (j : Nat) = ((i + j : Nat) : Int) by omega]
          exact hC _ _ (i + j) sH6 (by rw [List.getElem?_eq_getElem hj2, ce, if_pos rfl]) rfl
        · walk_at "y"
          exact hN (by rw [List.getElem?_eq_getElem hj2, if_neg (fun z => ce (Option.some.inj z))]) _ sH6
      · rw [paired_FR pr, show ((es.length : Int) - i).toNat = es.length - i by omega] at h5
        rw [show (List.filterMap (fun j => if es[i + j]? = some (Ev.sh n) then some (i + j) else none) (List.range (es.length - i))) = endsOf es n i from rfl] at h5
        walk_at "y"
        have hus5 := s5 _ _ hus4
        refine ⟨tyL hus5, ?_⟩
        walk_at "y"
        refine rGet_t (n := 1) (SqT.of (s5 _ _ e4)) rfl ?_
        walk_at "y"
        refine ⟨sz4 (by simp), fun G nG => ?_⟩
        have sH6 := same_upd (H := H5) (o := .lst []) nG
        have eG := upd_same (H := H5) (a := G) (o := .lst [])
        generalize upd H5 G (.lst []) = H6 at sH6 eG ⊢
        have fin : ∀ (G : Addr) (H7 : Hp) (o : V), Same H5 H7 → H7 G = some (.tup [.int n, .int i, o]) → (o = match (endsOf es n i).head? with | none => V.non | some j => .int (j : Nat)) → ∀ C : VK, (∀ H8, (Same H1 H8 ∧ ∃ us, H8 D = some (.lst us) ∧ us.length ≤ i + 1 ∧ Paired (TR spanV H8) us ((List.range (i + 1)).filterMap (spanAt es))) → C .non H8) → rAppend (.ref D) [.ref G] H7 C := fun G H7 o s7 hG eo C hC => by
          have hus7 := s7 _ _ hus5
          refine app_i hus7 (Nat.lt_of_le_of_lt (show us.length ≤ 16 by omega) (Nat.lt_of_lt_of_le (by decide) (sz4 (n := 17)))) ?_
          refine hC _ ⟨fun c o' e => ?_, us ++ [.ref G], upd_same, by simp; omega, ?_⟩
          · have n1 : c ≠ D := fun z => by rw [z, nD] at e; cases e
            rw [upd_ne n1]
            exact (((s3.trans sY).trans s5).trans s7) c o' e
          · rw [filterMap_snoc, show spanAt es i = some (n, i, (endsOf es n i).head?) by unfold spanAt; rw [e3]]
            refine paired_append ((firm_TR _).all (sameT_upd hus7) ((firm_TR _).all (sT ((sY.trans s5).trans s7)) pus)) (.cons ⟨G, rfl, ?_⟩ .nil)
            rw [upd_ne (ne_of hG hus7 (by intro z; cases z)), hG, eo]
            rfl
        have smE : ∀ v ∈ (endsOf es n i).map fun j : Nat => V.int (j : Nat), smV v = true := fun v hv => by
          obtain ⟨j, hj, rfl⟩ := List.mem_map.mp hv
          obtain ⟨k, hk, ek⟩ := List.mem_filterMap.mp hj
          split at ek
          · have hk2 := List.mem_range.mp hk
            cases ek
            exact sm_int (by omega)
          · cases ek
        have smA : ((endsOf es n i).map fun j : Nat => V.int (j : Nat)).all smV = true := List.all_eq_true.mpr smE
        have lnE : (endsOf es n i).length ≤ 16 := Nat.le_trans (List.length_filterMap_le ..) (by simp; omega)
        refine rNe2_d (dp_lst (SqL.of (sH6 _ _ h5)) (all_pl smA)) (dp_lst (SqL.of eG) rfl) (sm_lst smA).shaped (by decide +kernel) ?_
        rw [show PyData.eqv (.list (((endsOf es n i).map fun j : Nat => V.int (j : Nat)).map vD)) (.list (([] : List V).map vD)) = ((endsOf es n i).map fun j : Nat => V.int (j : Nat)).isEmpty by
          cases endsOf es n i <;> rfl]
        cases hE : endsOf es n i with
        | nil =>
          dsimp only [List.map_nil, List.isEmpty_nil]
          walk_at "y"
          refine ⟨sz4 (by simp), fun F nF => ?_⟩
          have sH7 := same_upd (H := H6) (o := .tup [.int n, .int i, .non]) nF
          have eF := upd_same (H := H6) (a := F) (o := .tup [.int n, .int i, .non])
          generalize upd H6 F (.tup [.int n, .int i, .non]) = H7 at sH7 eF ⊢
          walk_at "y"
          exact fin F H7 .non (sH6.trans sH7) eF (by rw [hE]; rfl) _ fun H8 h8 => ⟨h8, _, _, _, _, rfl⟩
        | cons k ks =>
          rw [show ((k :: ks).map fun j : Nat => V.int (j : Nat)).isEmpty = false from rfl]
          walk_at "y"
          refine rGet_l (n := 0) (v := .int (k : Nat)) (SqL.of (sH6 _ _ h5)) (by rw [hE]; rfl) ?_
          walk_at "y"
          refine ⟨sz4 (by simp), fun F nF => ?_⟩
          have sH7 := same_upd (H := H6) (o := .tup [.int n, .int i, .int (k : Nat)]) nF
          have eF := upd_same (H := H6) (a := F) (o := .tup [.int n, .int i, .int (k : Nat)])
          generalize upd H6 F (.tup [.int n, .int i, .int (k : Nat)]) = H7 at sH7 eF ⊢
          walk_at "y"
          exact fin F H7 (.int (k : Nat)) (sH6.trans sH7) eF (by rw [hE]; rfl) _ fun H8 h8 => ⟨h8, _, _, _, _, rfl⟩
    | sh n =>
      refine rGet_t (n := 0) (SqT.of e4) rfl ?_
      walk_at "y"
      exact ⟨nf (Same.refl _) (by unfold spanAt; rw [e3]), _, _, _, _, rfl⟩
    | fa n =>
      refine rGet_t (n := 0) (SqT.of e4) rfl ?_
      walk_at "y"
      exact ⟨nf (Same.refl _) (by unfold spanAt; rw [e3]), _, _, _, _, rfl⟩
    | no n =>
      refine rGet_t (n := 0) (SqT.of e4) rfl ?_
      walk_at "y"
      exact ⟨nf (Same.refl _) (by unfold spanAt; rw [e3]), _, _, _, _, rfl⟩
    | sw =>
      refine rGet_t (n := 0) (SqT.of e4) rfl ?_
      walk_at "y"
      exact ⟨nf (Same.refl _) (by unfold spanAt; rw [e3]), _, _, _, _, rfl⟩
  · obtain ⟨⟨s3, us, hus, lus, pus⟩, a, c, d, e, rfl⟩ := hp
    walk_at "y"
    rw [ll] at pus
    exact q D H' us (s1.free nD) (s1.trans s3) hus pus
end
end L76
namespace L76
open PySem PySem.Spec PyProof.Rows L2
variable {gd : Bool}
local macro_rules | `(tactic| walk_at "y1") => `(tactic| with_reducible first
  | refine tSeq_i ?_ | refine tAsg_i ?_ | refine tCons_i ?_ | refine tNil_i ?_ | refine tC_i ?_ | refine tOp_i ?_ | refine tIfS_i ?_ | refine tTest_i ?_ | refine exBl_i ?_ | refine tRet_i ?_ | refine tCall_i ?_
  | refine tCB_i ?_ | refine tLst_i ?_ | refine tTup_i ?_ | refine rI0_i ?_ | refine tDrop_i ?_ | refine tNext_i ?_ | refine tB_i ?_ | refine tAnd_i ?_ | refine tOr_i ?_ | refine tNot_i ?_ | refine tAndV_i ?_ | refine tOrV_i ?_ | refine tNotV_i ?_
  | refine tYes_i ?_ | refine tTM_i ?_ | refine tPar_i ?_ | refine tSl_i ?_ | refine tNoPart_i ?_ | refine tPart_i ?_ | refine part_i ?_ | refine tMake_i ?_ | refine tProp_i ?_ | refine tCallOG_i ?_ | refine tVeI_i ?_ | refine tOst_i ?_ | refine tMkO_i ?_ | refine sFld_i ?_ | refine fldaug_i ?_ | refine gCons_i ?_ | refine gNil_i ?_ | refine tChain_i ?_ | refine tBM_i ?_ | refine rAdd2_i ?_ | refine rLe2_i ?_ | refine rEq2_i ?_ | refine rEq2_ss ?_ | refine rNe2_i ?_ | refine rNe2_ss ?_ | refine rIsN_i ?_ | refine rNotN_i ?_ | refine tTup_i2 ?_ | refine tIf_i ?_ | refine tUn_i ?_ | refine tDGet_i ?_ | refine sDPut_i ?_ | refine tFld_i ?_ | refine tRetN_i ?_ | refine tBreak_i ?_ | refine tCont_i ?_ | refine rU_i ?_)
local macro_rules | `(tactic| walk_at "yhead") => `(tactic| dsimp only [L2.start, List.map, List.length_cons, List.length_nil, Nat.reduceAdd, Nat.reduceSub, List.replicate, List.cons_append, List.nil_append])
local macro_rules | `(tactic| walk_at "y2") => `(tactic| first
  | walk_at "y1"
  | ((with_reducible refine tVar_i (v := ?v) ?h ?q); (case h => rfl))
  | ((with_reducible refine gName_i ?_); (dsimp only [L2.wipe, List.set]))
  | with_reducible refine iteT ?_ | with_reducible refine iteF ?_ | with_reducible refine iteNT ?_ | with_reducible refine iteNF ?_
  | ((with_reducible refine iteDT ?h ?q); (case h => first | decide +kernel | omega | assumption | exact nv1 | exact nv2 | exact nv3 | exact nv4)) | ((with_reducible refine iteDF ?h ?q); (case h => first | decide +kernel | omega | assumption | exact nv1 | exact nv2 | exact nv3 | exact nv4))
  | ((with_reducible refine iteNDT ?h ?q); (case h => first | decide +kernel | omega | assumption | exact nv1 | exact nv2 | exact nv3 | exact nv4)) | ((with_reducible refine iteNDF ?h ?q); (case h => first | decide +kernel | omega | assumption | exact nv1 | exact nv2 | exact nv3 | exact nv4))
  | ((with_reducible refine rIsi2_1 (T := ?T) (b := true) ?ty ?h ?q); (case ty => first | exact ty_str | exact ty_int | exact ty_bl | exact ty_non); (case h => decide +kernel))
  | ((with_reducible refine rIsi2_1 (T := ?T) (b := false) ?ty ?h ?q); (case ty => first | exact ty_str | exact ty_int | exact ty_bl | exact ty_non); (case h => decide +kernel))
  | ((with_reducible refine rEq2_s ?h ?q); (case h => rfl)) | ((with_reducible refine rNe2_s ?h ?q); (case h => rfl))
  | ((with_reducible refine rEq_i ?h ?q); (case h => rfl)) | ((with_reducible refine rNe_i ?h ?q); (case h => rfl)))
local macro_rules | `(tactic| walk_at "y") => `(tactic| repeat walk_at "y2")
section
variable {P : Program} {w : World} {K : PySem.W.Frag} {mg : Str → Option Value} {base : Heap}
def neverOf (es : List Ev) : List Int := (spansOf es).filterMap fun t => if t.2.2 = none then some t.1 else none
def spNever : Sp := sp1 fun x H Q _ => ∃ b p es, x = .ref p ∧ LogAt b H p es ∧ ∀ D H', H D = none → Same H H' → H' D = some (.lst ((neverOf es).map V.int)) → Q (.ref D) H'
theorem spans_len (es : List Ev) : (spansOf es).length ≤ es.length := Nat.le_trans (List.length_filterMap_le ..) (by simp)
theorem sc_never_shut : FnScope ["log", "entry", "first", "last"] ["log"] (defScope (top 23)) := ⟨rfl, rfl, rfl, by decide +kernel, rfl, by decide +kernel, by decide +kernel⟩
theorem c_never_shut (T : Sy K mg) : Cal gd P w K mg base CX0 8 "never_shut" spNever := by
  refine T.cal (F_never_shut T) sc_never_shut sp1_len (fun cdv f A outer s H vs Q E z h => ?_) (fun _ _ _ _ _ _ us hl => match us, hl with | [_], _ => rfl)
  have hu1 := hu_1 z; have hu2 := hu_2 z; have hu3 := hu_3 z
  obtain ⟨x0, rfl, h⟩ := h
  obtain ⟨b, p, es, rfl, lg, q⟩ := h
  refine ⟨_, (pss_one (ps_ret (pe_lc (own := [("entry", 1), ("first", 2), ("last", 3)]) (g := gTup K 3 (gCons (gName 1) (gCons (gName 2) (gCons (gName 3) gNil)))) (by rfl) sc_never_shut.nd (pi_anyK (K := K) rfl (pe_c (c_spans T) z (pa_cons (pv 0) pa_nil))) (blkOk_by (own := [("entry", 1), ("first", 2), ("last", 3)]) (N := ["log", "entry", "first", "last"]) (sc := (defScope (top 23))) (by decide +kernel)) (fun _ _ _ _ _ => (pg_tupK (K := K) rfl (by rfl) (pgs_cons (pg_name (i := 1) sc_never_shut.nd rfl (by first | exact Or.inl rfl | exact Or.inr rfl)) (pgs_cons (pg_name (i := 2) sc_never_shut.nd rfl (by first | exact Or.inl rfl | exact Or.inr rfl)) (pgs_cons (pg_name (i := 3) sc_never_shut.nd rfl (by first | exact Or.inl rfl | exact Or.inr rfl)) pgs_nil))))) (fun _ _ _ _ _ => pts_one (pt_cmpR (r := rIsN) op_isN (pv 3) pe_non (nomark _))) (fun _ _ _ _ _ => (pv 1))))), ?_⟩
  obtain ⟨vs, h1, h2, ok, hl⟩ := id lg
  walk_at "yhead"; walk_at "y"
  refine lc_b true ?_
  walk_at "y"
  refine ⟨_, rfl, b, p, es, rfl, lg, fun D H1 us hD s1 e1 pr => ?_⟩
  have lu : us.length = (spansOf es).length := pr.length
  have lu2 : us.length ≤ 16 := by have := spans_len es; omega
  refine ⟨D, rfl, ⟨us, SqL.of e1⟩, lc_pure (walk_b (b := true) (xs := us)) (sz4 (by omega)) (fun i => ((spansOf es)[i]?).bind fun t => if t.2.2 = none then some t.1 else none) (firm_FR V.int) (fun H' s => s _ _ e1) (fun i H0 x H1 y => by obtain ⟨rfl, _⟩ := y; exact Same.refl _) (fun i x H0 H2 hi s0 s2 y N C hC hN => ?_) fun F H2 ws hF s2 h2 pr2 => ?_⟩
  · obtain ⟨rfl, e2⟩ := y
    obtain ⟨t, e3, a, rfl, e4⟩ := paired_of pr e2
    obtain ⟨n, k, o⟩ := t
    cases o with
    | none =>
      refine gTup_i (xs := [.int n, .int (k : Nat), .non]) (SqT.of (s2 _ _ e4)) ?_
      walk_at "y"
      refine ⟨rfl, ?_⟩
      walk_at "y"
      exact hC _ _ n (Same.refl _) (by rw [e3]; simp) rfl
    | some j =>
      refine gTup_i (xs := [.int n, .int (k : Nat), .int (j : Nat)]) (SqT.of (s2 _ _ e4)) ?_
      walk_at "y"
      refine ⟨rfl, ?_⟩
      walk_at "y"
      exact hN (by rw [e3]; simp) _ (Same.refl _)
  · rw [paired_FR pr2, lu, filterMap_ix] at h2
    exact q F H2 (s1.free hF) (s1.trans s2) h2
/-- the watcher after i events -/
def stAt (es : List Ev) (i : Nat) : WSt := (es.take i).foldl WSt.step .new
theorem stAt_succ {es : List Ev} {i : Nat} {e : Ev} (h : es[i]? = some e) : stAt es (i + 1) = (stAt es i).step e := by
  obtain ⟨hi, e1⟩ := List.getElem?_eq_some_iff.mp h
  unfold stAt
  rw [List.take_succ, h]
  simp
theorem step_opn (s : WSt) (e : Ev) : (s.step e).opn.length ≤ s.opn.length + 1 := by
  cases e with
  | op n =>
    show (if n ∈ s.opn then s.opn else s.opn ++ [n]).length ≤ _
    split <;> simp
  | sh n => exact Nat.le_trans (List.length_filter_le ..) (Nat.le_succ _)
  | _ => exact Nat.le_succ _
theorem stAt_opn (es : List Ev) : ∀ i, (stAt es i).opn.length ≤ i
  | 0 => Nat.le_refl _
  | i + 1 => by
    cases h : es[i]? with
    | some e => rw [stAt_succ h]; exact Nat.le_trans (step_opn _ _) (Nat.succ_le_succ (stAt_opn es i))
    | none =>
      have hl := List.getElem?_eq_none_iff.mp h
      have e1 : stAt es (i + 1) = stAt es i := by unfold stAt; rw [List.take_of_length_le (by omega), List.take_of_length_le (by omega)]
      rw [e1]
      exact Nat.le_succ_of_le (stAt_opn es i)
/-- a watcher that came behind H0 -/
structure WS (K : PySem.W.Frag) (H0 H : Hp) (x dx l : Addr) (s : WSt) : Prop where
  x0 : H0 x = none
  l0 : H0 l = none
  sm : Same H0 H
  at_ : WAt K H x dx l s
theorem WS.mono {H0 H H' : Hp} {x dx l : Addr} {s : WSt} (h : WS K H0 H x dx l s) (k : Same H H') : WS K H0 H' x dx l s := ⟨h.x0, h.l0, h.sm.trans k, k _ _ h.at_.1, k _ _ h.at_.2⟩
/-- a call of the watcher -/
theorem wq_i {H0 H : Hp} {x dx l p : Addr} {s : WSt} {e : Ev} {Q : VK} {E : XK} (h : WS K H0 H x dx l s) (hol : s.opn.length ≤ 100) (hp : H p = some (.tup e.xs)) (ok : e.ok)
    (q : ∀ l' H', WS K H0 H' x dx l' (s.step e) → (l' = l ∨ H l' = none) → (∀ b o, H b = some o → b ≠ x → b ≠ l → H' b = some o) → Q (.bl (s.ret e)) H') :
    (∃ dx fs, H x = some (.ins (He.ga K "Watcher") dx fs)) ∧ spWQ K [V.ref x, V.ref p] H Q E := by
  refine ⟨⟨_, _, h.at_.1⟩, _, _, rfl, x, dx, l, s, rfl, h.at_, hol, .inl ⟨p, e, rfl, hp, ok, fun l' H' hl' off hw => ?_⟩⟩
  refine q l' H' ⟨h.x0, ?_, fun b o e => ?_, hw⟩ hl' off
  · rcases hl' with rfl | hn
    · exact h.l0
    · exact h.sm.free hn
  · exact off b o (h.sm _ _ e) (ne_of_none e h.x0) (ne_of_none e h.l0)
/-- Watcher() -/
theorem wnew_i {H : Hp} {N : Addr → Hp → Prop} {E : XK} (q : ∀ x dx l H', WS K H H' x dx l .new → N x H') :
    ∀ x dx, H x = none → H dx = none → dx ≠ x → spWInit K (V.ref x :: ([] ++ [])) (upd (upd H dx (.own x)) x (.ins (He.ga K "Watcher") dx [])) (fun v H2 => v = .non ∧ N x H2) E := by
  intro x dx hx hdx ne
  refine ⟨_, rfl, x, dx, rfl, upd_same, fun l H' hl off hw => ⟨rfl, q x dx l H' ⟨hx, ?_, fun b o e => ?_, hw⟩⟩⟩
  · have n1 : l ≠ x := fun z => by rw [z, upd_same] at hl; cases hl
    have n2 : l ≠ dx := fun z => by rw [z, upd_ne ne, upd_same] at hl; cases hl
    rwa [upd_ne n1, upd_ne n2] at hl
  · have n1 : b ≠ x := ne_of_none e hx
    exact off b o (by rw [upd_ne n1, upd_ne (ne_of_none e hdx)]; exact e) n1
def spMostO : Sp := sp1 fun x H Q _ => ∃ b p es, x = .ref p ∧ LogAt b H p es ∧ ∀ H', Same H H' → Q (.int (stAt es es.length).most) H'
theorem sc_most_open : FnScope ["log", "watcher", "event"] ["log"] (defScope (top 24)) := ⟨rfl, rfl, rfl, by decide +kernel, rfl, by decide +kernel, by decide +kernel⟩
theorem c_most_open (T : Sy K mg) : Cal gd P w K mg base CX0 9 "most_open" spMostO := by
  refine T.cal (F_most_open T) sc_most_open sp1_len (fun cdv f A outer s H vs Q E z h => ?_) (fun _ _ _ _ _ _ us hl => match us, hl with | [_], _ => rfl)
  have hu1 := hu_1 z; have hu2 := hu_2 z; have hu3 := hu_3 z
  obtain ⟨x0, rfl, h⟩ := h
  obtain ⟨b, p, es, rfl, lg, q⟩ := h
  refine ⟨_, (pss_cons (ps_expr (pe_c (c_check_log T) z (pa_cons (pv 0) pa_nil))) (pss_cons (ps_set (i := 1) sc_most_open.nd rfl (by first | exact Or.inl rfl | exact Or.inr rfl) (pe_mk0 (m_Watcher T) z)) (pss_cons (ps_for PassesOwn.never (by rfl) (pi_anyK (K := K) rfl (pv 0)) (pg_name (i := 2) sc_most_open.nd rfl (by first | exact Or.inl rfl | exact Or.inr rfl)) (pss_one (ps_expr (pe_wq T rfl rfl z (pv 1) (pa_cons (pv 2) pa_nil))))) (pss_one (ps_ret (pe_prK (K := K) rfl (p_most T) z (pv 1))))))), ?_⟩
  obtain ⟨vs, h1, h2, ok, hl⟩ := id lg
  have ll : vs.length = es.length := h2.length
  walk_at "yhead"; walk_at "y"
  refine ⟨_, rfl, b, p, es, rfl, lg, fun H1 s1 => ?_⟩
  walk_at "y"
  refine wnew_i fun x dx l H2 ws => ?_
  walk_at "y"
  refine for_b b ?_
  walk_at "y"
  refine ⟨p, rfl, ⟨vs, SqB.of (ws.sm _ _ (s1 _ _ h1))⟩, for_it walk_b (Pv := fun i σ H' => (∃ l, WS K H1 H' x dx l (stAt es i)) ∧ ∃ a, σ = [some (.ref p), some (.ref x), a]) ⟨⟨l, ws⟩, _, rfl⟩ (fun i σ H' _ hp => let ⟨⟨l, ws⟩, _⟩ := hp; ws.sm _ _ (s1 _ _ h1)) (fun i v σ H3 H4 hi hp y => ?_) fun σ H' hp => ?_⟩
  · obtain ⟨⟨l, ws⟩, a, rfl⟩ := hp
    obtain ⟨rfl, e2⟩ := y
    obtain ⟨t, ev, rfl, e3, e4⟩ := LogAt.get (b := b) (p := p) ((firm_TR _).all (sT (s1.trans ws.sm)) h2) e2
    walk_at "y"
    refine ⟨x, rfl, ?_⟩
    walk_at "y"
    refine wq_i ws (Nat.le_trans (stAt_opn es i) (by omega)) e4 (ok _ (List.mem_of_getElem? e3)) fun l' H5 ws' _ _ => ?_
    walk_at "y"
    rw [← stAt_succ e3] at ws'
    exact ⟨⟨l', ws'⟩, _, rfl⟩
  · obtain ⟨⟨l, ws⟩, a, rfl⟩ := hp
    walk_at "y"
    rw [ll] at ws
    exact ⟨x, _, _, rfl, ws.at_.1, _, rfl, x, dx, l, _, rfl, ws.at_, q _ (s1.trans ws.sm)⟩
def flawsOf (es : List Ev) : List Int := (List.range es.length).filterMap fun i => (es[i]?).bind fun e => if (stAt es i).ret e then none else some (i : Nat)
def spFlaws : Sp := sp1 fun x H Q _ => ∃ b p es, x = .ref p ∧ LogAt b H p es ∧ ∀ D H', H D = none → Same H H' → H' D = some (.lst ((flawsOf es).map V.int)) → Q (.ref D) H'
theorem sc_flaws : FnScope ["log", "watcher", "place", "event"] ["log"] (defScope (top 26)) := ⟨rfl, rfl, rfl, by decide +kernel, rfl, by decide +kernel, by decide +kernel⟩
theorem c_flaws (T : Sy K mg) : Cal gd P w K mg base CX0 9 "flaws" spFlaws := by
  refine T.cal (F_flaws T) sc_flaws sp1_len (fun cdv f A outer s H vs Q E z h => ?_) (fun _ _ _ _ _ _ us hl => match us, hl with | [_], _ => rfl)
  have hu1 := hu_1 z; have hu2 := hu_2 z; have hu3 := hu_3 z
  obtain ⟨x0, rfl, h⟩ := h
  obtain ⟨b, p, es, rfl, lg, q⟩ := h
  refine ⟨_, (pss_cons (ps_expr (pe_c (c_check_log T) z (pa_cons (pv 0) pa_nil))) (pss_cons (ps_set (i := 1) sc_flaws.nd rfl (by first | exact Or.inl rfl | exact Or.inr rfl) (pe_mk0 (m_Watcher T) z)) (pss_one (ps_ret (pe_lc (own := [("place", 2), ("event", 3)]) (g := gTup K 2 (gCons (gName 2) (gCons (gName 3) gNil))) (by rfl) sc_flaws.nd (pi_enum2K (K := K) rfl (by rfl) (T.free "enumerate") (pv 0)) (blkOk_by (own := [("place", 2), ("event", 3)]) (N := ["log", "watcher", "place", "event"]) (sc := (defScope (top 26))) (by decide +kernel)) (fun _ _ _ _ _ => (pg_tupK (K := K) rfl (by rfl) (pgs_cons (pg_name (i := 2) sc_flaws.nd rfl (by first | exact Or.inl rfl | exact Or.inr rfl)) (pgs_cons (pg_name (i := 3) sc_flaws.nd rfl (by first | exact Or.inl rfl | exact Or.inr rfl)) pgs_nil)))) (fun _ _ _ _ _ => pts_one (pt_not (pt_val (pe_wq T rfl rfl z (pv 1) (pa_cons (pv 3) pa_nil))))) (fun _ _ _ _ _ => (pv 2))))))), ?_⟩
  obtain ⟨vs, h1, h2, ok, hl⟩ := id lg
  have ll : vs.length = es.length := h2.length
  walk_at "yhead"; walk_at "y"
  refine ⟨_, rfl, b, p, es, rfl, lg, fun H1 s1 => ?_⟩
  walk_at "y"
  refine wnew_i fun x dx l H2 ws => ?_
  walk_at "y"
  refine lc_eb b ?_
  walk_at "y"
  refine ⟨p, vs, rfl, SqB.of (ws.sm _ _ (s1 _ _ h1)), fun D hD => ?_⟩
  have nD1 : H1 D = none := ws.sm.free hD
  refine lc_it walk_eb (Pv := fun i H' => ∃ l, WS K H1 H' x dx l (stAt es i) ∧ D ≠ x ∧ D ≠ l ∧ H' D = some (.lst (((List.range i).filterMap fun i => (es[i]?).bind fun e => if (stAt es i).ret e then none else some ((i : Nat) : Int)).map V.int))) ?_ (fun i H' _ hp => let ⟨l, ws, _⟩ := hp; ws.sm _ _ (s1 _ _ h1)) (fun i v H3 H4 hi hp y => ?_) fun H' hp => ?_
  · have nx := ne_of_none ws.at_.1 hD
    have nl := ne_of_none ws.at_.2 hD
    exact ⟨l, ⟨ws.x0, ws.l0, fun b o e => by rw [upd_ne (ne_of_none e (ws.sm.free hD))]; exact ws.sm b o e, (upd_ne nx).trans ws.at_.1, (upd_ne nl).trans ws.at_.2⟩, Ne.symm nx, Ne.symm nl, upd_same⟩
  · obtain ⟨l, ws, nx, nl, hD3⟩ := hp
    obtain ⟨tt, v1, v2, rfl, ht, rfl, e1, e2⟩ := y
    cases e1
    have sY := same_upd (o := .tup [.int i, v2]) ht
    have ws4 := ws.mono sY
    obtain ⟨t, ev, rfl, e3, e4⟩ := LogAt.get (b := b) (p := p) ((firm_TR _).all (sT (s1.trans ws4.sm)) h2) e2
    refine gTup_i (SqT.of upd_same) ?_
    have hD4 := sY _ _ hD3
    generalize upd H3 tt (.tup [.int i, .ref t]) = H4 at *
    walk_at "y"
    refine ⟨rfl, ?_⟩
    walk_at "y"
    refine ⟨x, rfl, ?_⟩
    walk_at "y"
    refine wq_i ws4 (Nat.le_trans (stAt_opn es i) (by omega)) e4 (ok _ (List.mem_of_getElem? e3)) fun l' H5 ws' hl' off => ?_
    walk_at "y"
    have hD5 := off _ _ hD4 nx nl
    have nl' : D ≠ l' := by
      rcases hl' with rfl | hn
      · exact nl
      · exact ne_of_none hD4 hn
    rw [← stAt_succ e3] at ws'
    cases hr : (stAt es i).ret ev with
    | true =>
      walk_at "y"
      refine ⟨l', ws', nx, nl', ?_⟩
      rw [hD5, filterMap_snoc]
      simp [e3, hr]
    | false =>
      walk_at "y"
      refine ⟨_, hD5, ?_, l', ⟨ws'.x0, ws'.l0, fun b o e => by rw [upd_ne (ne_of_none e nD1)]; exact ws'.sm b o e, (upd_ne (Ne.symm nx)).trans ws'.at_.1, (upd_ne (Ne.symm nl')).trans ws'.at_.2⟩, nx, nl', ?_⟩
      · rw [List.length_map]
        exact Nat.lt_of_le_of_lt (Nat.le_trans (List.length_filterMap_le ..) (by simp; omega)) (show 16 < sizeLine from Nat.lt_of_lt_of_le (by decide) (sz4 (n := 17)))
      · rw [upd_same, filterMap_snoc]
        simp [e3, hr]
  · obtain ⟨l, ws, nx, nl, hD3⟩ := hp
    rw [ll] at hD3
    exact q D H' (s1.free nD1) (s1.trans ws.sm) hD3
end
end L76
namespace L76
open PySem PySem.Spec PyProof.Rows L2
variable {gd : Bool}
local macro_rules | `(tactic| walk_at "y1") => `(tactic| with_reducible first
  | refine tSeq_i ?_ | refine tAsg_i ?_ | refine tCons_i ?_ | refine tNil_i ?_ | refine tC_i ?_ | refine tOp_i ?_ | refine tIfS_i ?_ | refine tTest_i ?_ | refine exBl_i ?_ | refine tRet_i ?_ | refine tCall_i ?_
  | refine tCB_i ?_ | refine tLst_i ?_ | refine tTup_i ?_ | refine rI0_i ?_ | refine tDrop_i ?_ | refine tNext_i ?_ | refine tB_i ?_ | refine tAnd_i ?_ | refine tOr_i ?_ | refine tNot_i ?_ | refine tAndV_i ?_ | refine tOrV_i ?_ | refine tNotV_i ?_
  | refine tIf_i ?_ | refine tUn_i ?_ | refine tDGet_i ?_ | refine sDPut_i ?_ | refine tFld_i ?_ | refine tRetN_i ?_ | refine tBreak_i ?_ | refine tCont_i ?_ | refine rU_i ?_)
local macro_rules | `(tactic| walk_at "yhead") => `(tactic| dsimp only [L2.start, List.map, List.length_cons, List.length_nil, Nat.reduceAdd, Nat.reduceSub, List.replicate, List.cons_append, List.nil_append])
local macro_rules | `(tactic| walk_at "y2") => `(tactic| first
  | walk_at "y1"
  | ((with_reducible refine tVar_i (v := ?v) ?h ?q); (case h => rfl))
  | ((with_reducible refine gName_i ?_); (dsimp only [List.set]))
  | ((with_reducible refine rEq_i ?h ?q); (case h => rfl)) | ((with_reducible refine rNe_i ?h ?q); (case h => rfl)))
local macro_rules | `(tactic| walk_at "y") => `(tactic| repeat walk_at "y2")
/-! sorted(a tuple of ints) -/
section
open PyProof.Rows
theorem sortedT_raw {prog : Program} {w : World} {A : Around} {E : Value → Shared → Prop} {s : Shared} {l : Addr} {vs : List Value} {ltv : Value → Value → Bool} {Q : Value → Shared → Prop} {o : Obj} {n : Nat} (O : SrtO.Swo ltv)
    (ho : s.heap.get? l = some o) (hc : o.cls = .type "tuple") (hd : o.data = .seq vs.toArray n) (hz : vs.length ≤ sizeLine)
    (hS : 2 ≤ vs.length → ∀ (h₁ : Heap) (a : Addr), SrtO.SortableO prog w A.in1.in1 { s with heap := h₁ } a vs ltv)
    (h : ∀ (out : List Value) (h1 h' : Heap), SrtO.Srtd ltv out → SrtO.Stb ltv out vs → (∀ b u, s.heap.get? b = some u → h1.get? b = some u) → (∀ b u, h1.get? b = some u → h'.get? b = some u) → (∃ e, h'.get? h1.objs.size = some (seqObj "list" out.toArray e)) → Q (.ref h1.objs.size) { s with heap := h' }) :
    wpAny (model prog w) A (call (.builtin "sorted") [.ref l]) Q E s := by
  refine Calls.call_function_entry kind_sorted plain_sorted entry_sorted (args_sorted1 _) ?_
  unfold Builtin.«sorted»
  refine wpAny_bind (m := checkCount "sorted" 1 1 _) (wpAny_pure ?_)
  refine wpAny_bind (wpAny_collect_seq l (.inr rfl) ho hc hd (fun h1 k1 => ?_) (by simpa using hz))
  rw [show (vs.toArray : Array Value).toList = vs by simp]
  refine wpAny_bind (wpAny_newList ?_ hz)
  have hoL : (h1.push (seqObj "list" vs.toArray 0)).get? h1.objs.size = some (seqObj "list" vs.toArray 0) := Heap.get?_push_size _ rfl
  show wpAny _ _ _ _ _ { s with heap := h1.push (seqObj "list" vs.toArray 0) }
  refine wpAny_bind (wpAny_holding (wpAny_call_entry slot_list_sort ⟨_, hoL, rfl⟩ entry_list_sort (SrtO.list_sort_ord O hoL hz (fun h2 => hS h2 _ _) fun out hs hb => ⟨_, rfl, ?_⟩) (args_list_sort _)))
  refine wpAny_pure ⟨_, rfl, h out h1 _ hs hb k1 (fun b u e => ?_) (sortedHeap_at hoL)⟩
  have lt := Heap.lt_size e
  rw [sortedHeap_old (Nat.ne_of_lt lt) (by rw [size_push']; exact Nat.lt_succ_of_lt lt)]
  exact Heap.get?_push_of_some _ e
end
def rSortedT (K : PySem.W.Frag) : List V → Hp → VK → Prop := fun vs H Q => ∃ (a : Addr) (ns : List Int), vs = [V.ref a] ∧ SqT K H a (ns.map V.int) ∧
  ∀ (ns' : List Int) (p : Addr), ns'.Perm ns → ns'.Pairwise (· ≤ ·) → H p = none → Q (.ref p) (upd H p (.lst (ns'.map V.int)))
theorem cr_sortedT2 {X : Cx} : CallR X (.builtin "sorted") (rSortedT X.K) := by
  intro pins s σ H vs us Q I r h
  obtain ⟨a, ns, rfl, hs, q⟩ := h
  obtain ⟨its, rv, hl, hz⟩ := I.tuple hs
  obtain ⟨o, ho, hc, n, hd⟩ := hl
  rw [Vals.ref1 r]
  have hi := rv.ints
  refine sortedT_raw SrtO.swo_int ho hc hd (by rw [← rv.length]; exact hz) (fun h2 h₁ a' => SrtO.ints_sortable hi h2) fun out h1 h' k1 k2 a1 a2 a3 => ?_
  obtain ⟨b1, b2, b3⟩ := SrtO.ints_out hi k1 k2
  obtain ⟨e, he⟩ := a3
  have I1 : Inv X pins σ H { s with heap := h1 } := I.kept (t' := s.toks) a1
  have hlen : ((out.map SrtO.iv).map V.int).length ≤ sizeLine := by
    rw [List.length_map, b2.length_eq]
    rw [List.length_map] at hz
    exact hz
  exact ⟨.ref h1.objs.size, _, I1.laid (t' := s.toks) a2 (Nat.le_refl _) (show ObjOk X.prog X.w _ h' _ (.lst _) from ⟨hlen, out, e, vals_of_ints b1, he⟩), rfl, q _ _ b2 b3 (I1.hok.fresh (Nat.le_refl _))⟩
theorem sorted_uniq {α : Type} {le : α → α → Prop} (anti : ∀ a b, le a b → le b a → a = b) : ∀ {l1 l2 : List α}, l1.Pairwise le → l2.Pairwise le → l1.Perm l2 → l1 = l2
  | [], l2, _, _, p => by rw [List.nil_perm.mp p]
  | a :: l1, [], _, _, p => by have := p.length_eq; simp at this
  | a :: l1, b :: l2, h1, h2, p => by
    have e : a = b := by
      rcases List.mem_cons.mp (p.mem_iff.mp (List.mem_cons_self ..)) with e | m
      · exact e
      · rcases List.mem_cons.mp (p.mem_iff.mpr (List.mem_cons_self ..)) with e | m2
        · exact e.symm
        · exact anti a b ((List.pairwise_cons.mp h1).1 b m2) ((List.pairwise_cons.mp h2).1 a m)
    subst e
    rw [sorted_uniq anti (List.pairwise_cons.mp h1).2 (List.pairwise_cons.mp h2).2 (List.perm_cons a |>.mp p)]
def srt (ns : List Int) : List Int := ns.mergeSort fun a b => decide (a ≤ b)
theorem srt_perm (ns : List Int) : (srt ns).Perm ns := List.mergeSort_perm ..
theorem srt_le (ns : List Int) : (srt ns).Pairwise (· ≤ ·) := by
  have h := List.pairwise_mergeSort (le := fun a b : Int => decide (a ≤ b)) (fun a b c h1 h2 => by have := of_decide_eq_true h1; have := of_decide_eq_true h2; exact decide_eq_true (by omega))
    (fun a b => by rcases Int.le_total a b with h | h <;> simp [h]) ns
  exact h.imp fun h => of_decide_eq_true h
theorem srt_eq {ns ns' : List Int} (p : ns'.Perm ns) (s : ns'.Pairwise (· ≤ ·)) : ns' = srt ns := sorted_uniq (fun _ _ h1 h2 => Int.le_antisymm h1 h2) s (srt_le ns) (p.trans (srt_perm ns).symm)
section
variable {K : PySem.W.Frag} {σ : L2.St} {H : Hp} {Q : VK} {D : Ends} {a b p : Addr} {xs zs : List V}
theorem tTM_i {r : V → List V → Hp → VK → Prop} {to : TE} {t : TA} (q : to σ H fun x H1 => (∃ a o xs, x = .ref a ∧ H1 a = some (.frz o (.tup xs)) ∧ o.cls = .type "tuple" ∧ o.dict = none) ∧ t σ H1 fun xs H2 => r x xs H2 Q) : tTM K r to t σ H Q := q
theorem tPar_i {i j : Nat} {ta : TA} (q : ta σ H fun vs H1 => ∃ v w, vs = [v, w] ∧ D.nx ((σ.set i (some v)).set j (some w)) H1) : tPar i j ta D σ H := q
theorem ext_i (h : H a = some (.lst xs)) (h2 : H b = some (.lst zs)) (hz : xs.length + zs.length ≤ sizeLine) (q : Q .non (upd H a (.lst (xs ++ zs)))) : rExtend (.ref a) [.ref b] H Q := ⟨a, b, xs, zs, rfl, rfl, h, h2, hz, q⟩
theorem tSl_i {r : V → Option Int → Option Int → Hp → VK → Prop} {te : TE} {tl th : TO} (q : te σ H fun x H1 => tl σ H1 fun l H2 => th σ H2 fun u H3 => r x l u H3 Q) : tSl r te tl th σ H Q := q
theorem tNoPart_i {Q : Option Int → Hp → Prop} (q : Q none H) : tNoPart σ H Q := q
theorem tPart_i {t : TE} {Q : Option Int → Hp → Prop} (q : t σ H fun x H1 => ∃ i, x = .int i ∧ Q (some i) H1) : tPart t σ H Q := q
theorem part_i {i : Int} {Q : Option Int → Prop} (q : Q (some i)) : ∃ j, V.int i = .int j ∧ Q (some j) := ⟨i, rfl, q⟩
theorem rSl2_l {lo hi : Option Int} {N : Addr → Hp → Prop} (h : SqL K H a xs) (q : ∀ p, H p = none → Q (.ref p) (upd H p (.lst (cutV xs lo hi)))) : rSl2 K (.ref a) lo hi H Q := .inl ⟨a, xs, rfl, h, q⟩
theorem cut_all {lo hi : Option Int} (h : HT.sIx xs.length 0 lo = 0 ∧ HT.sIx xs.length xs.length hi = xs.length) : cutV xs lo hi = xs := by
  unfold cutV
  rw [h.1, h.2]
  simp
theorem cut_from (k : Nat) : cutV xs (some (k : Int)) none = xs.drop k := by
  unfold cutV
  rw [HT.sIx_nat, HT.sIx_none]
  by_cases h : k ≤ xs.length
  · rw [Nat.min_eq_left h, List.take_of_length_le (by simp)]
  · rw [Nat.min_eq_right (by omega)]
    simp [List.drop_of_length_le (show xs.length ≤ k by omega)]
theorem cut_to (k : Nat) : cutV xs none (some (k : Int)) = xs.take k := by
  unfold cutV
  rw [HT.sIx_nat, HT.sIx_none]
  by_cases h : k ≤ xs.length
  · rw [Nat.min_eq_left h]; simp
  · rw [Nat.min_eq_right (by omega), List.take_of_length_le (show xs.length ≤ k by omega)]; simp
theorem rSl2_t {lo hi : Option Int} (h : SqT K H a xs) (q : ∀ p H', SqT K H' p (cutV xs lo hi) → Same H H' → Q (.ref p) H') : rSl2 K (.ref a) lo hi H Q :=
  .inr ⟨a, xs, rfl, h, fun w => q a H (by rw [cut_all w]; exact h) (Same.refl _), fun _ p hp => q p _ (SqT.of upd_same) (same_upd hp)⟩
end
section
variable {X : Cx} {K : PySem.W.Frag}
theorem pe_tmK {o e : Expr} {es : List Expr} {to : TE} {t : TA} {name : Str} {apos cpos : Pos} {id : String} {r : V → List V → Hp → VK → Prop} (hK : X.K = K) (slot : Slot "tuple" name id) (hty : typeOf (.builtin id) = pure (.type "method_descriptor")) (hm : MtR X id r) (ho : PE X o to) (ha : PA X (e :: es) t)
    (hbase : attributeBase o name X.env (eval o X.env) = eval o X.env := by rfl)
    (hfew : ((backTo cpos (starEach (e :: es) X.env)).all (fun x => !x.1) && (backToKw cpos (keywordEach [] X.env)).all (fun x => x.1.isSome)
      && decide ((e :: es).length + ([] : List Keyword).length + (if ([] : List Keyword).isEmpty then 0 else 1) < 30)) = true := by rfl)
    (hline : (apos.endLine == cpos.line) = true := by rfl) (hs : starEach (e :: es) X.env = (false, eval e X.env) :: starEach es X.env := by rfl) (hplain : (backTo cpos (starEach es X.env)).any (·.1) = false := by rfl) :
    PE X (.Call (.Attribute o name apos) (e :: es) [] cpos) (tTM K r to t) := by
  subst hK
  exact pe_tm slot hty hm ho ha hbase hfew hline hs hplain
end
end L76
namespace L76
open PySem PySem.Spec PyProof.Rows L2
variable {gd : Bool}
local macro_rules | `(tactic| walk_at "y1") => `(tactic| with_reducible first
  | refine tSeq_i ?_ | refine tAsg_i ?_ | refine tCons_i ?_ | refine tNil_i ?_ | refine tC_i ?_ | refine tOp_i ?_ | refine tIfS_i ?_ | refine tTest_i ?_ | refine exBl_i ?_ | refine tRet_i ?_ | refine tCall_i ?_
  | refine tCB_i ?_ | refine tLst_i ?_ | refine tTup_i ?_ | refine rI0_i ?_ | refine tDrop_i ?_ | refine tNext_i ?_ | refine tB_i ?_ | refine tAnd_i ?_ | refine tOr_i ?_ | refine tNot_i ?_ | refine tAndV_i ?_ | refine tOrV_i ?_ | refine tNotV_i ?_
  | refine tYes_i ?_ | refine tTM_i ?_ | refine tPar_i ?_ | refine tSl_i ?_ | refine tNoPart_i ?_ | refine tPart_i ?_ | refine part_i ?_ | refine tMake_i ?_ | refine tProp_i ?_ | refine tCallOG_i ?_ | refine tVeI_i ?_ | refine tOst_i ?_ | refine tMkO_i ?_ | refine sFld_i ?_ | refine fldaug_i ?_ | refine gCons_i ?_ | refine gNil_i ?_ | refine tChain_i ?_ | refine tBM_i ?_ | refine rAdd2_i ?_ | refine rLe2_i ?_ | refine rEq2_i ?_ | refine rEq2_ss ?_ | refine rNe2_i ?_ | refine rNe2_ss ?_ | refine rIsN_i ?_ | refine rNotN_i ?_ | refine tTup_i2 ?_ | refine tIf_i ?_ | refine tUn_i ?_ | refine tDGet_i ?_ | refine sDPut_i ?_ | refine tFld_i ?_ | refine tRetN_i ?_ | refine tBreak_i ?_ | refine tCont_i ?_ | refine rU_i ?_)
local macro_rules | `(tactic| walk_at "yhead") => `(tactic| dsimp only [L2.start, List.map, List.length_cons, List.length_nil, Nat.reduceAdd, Nat.reduceSub, List.replicate, List.cons_append, List.nil_append])
local macro_rules | `(tactic| walk_at "y2") => `(tactic| first
  | walk_at "y1"
  | ((with_reducible refine tVar_i (v := ?v) ?h ?q); (case h => rfl))
  | ((with_reducible refine gName_i ?_); (dsimp only [L2.wipe, List.set]))
  | with_reducible refine iteT ?_ | with_reducible refine iteF ?_ | with_reducible refine iteNT ?_ | with_reducible refine iteNF ?_
  | ((with_reducible refine iteDT ?h ?q); (case h => first | decide +kernel | omega | assumption | exact nv1 | exact nv2 | exact nv3 | exact nv4)) | ((with_reducible refine iteDF ?h ?q); (case h => first | decide +kernel | omega | assumption | exact nv1 | exact nv2 | exact nv3 | exact nv4))
  | ((with_reducible refine iteNDT ?h ?q); (case h => first | decide +kernel | omega | assumption | exact nv1 | exact nv2 | exact nv3 | exact nv4)) | ((with_reducible refine iteNDF ?h ?q); (case h => first | decide +kernel | omega | assumption | exact nv1 | exact nv2 | exact nv3 | exact nv4))
  | ((with_reducible refine rIsi2_1 (T := ?T) (b := true) ?ty ?h ?q); (case ty => first | exact ty_str | exact ty_int | exact ty_bl | exact ty_non); (case h => decide +kernel))
  | ((with_reducible refine rIsi2_1 (T := ?T) (b := false) ?ty ?h ?q); (case ty => first | exact ty_str | exact ty_int | exact ty_bl | exact ty_non); (case h => decide +kernel))
  | ((with_reducible refine rEq2_s ?h ?q); (case h => rfl)) | ((with_reducible refine rNe2_s ?h ?q); (case h => rfl))
  | ((with_reducible refine rEq_i ?h ?q); (case h => rfl)) | ((with_reducible refine rNe_i ?h ?q); (case h => rfl)))
local macro_rules | `(tactic| walk_at "y") => `(tactic| repeat walk_at "y2")
section
variable {P : Program} {w : World} {K : PySem.W.Frag} {mg : Str → Option Value} {base : Heap}
def pairV : Int × Int → List V := fun t => [.int t.1, .int t.2]
def crossAt (es : List Ev) (i : Nat) : List (Int × Int) := match es[i]? with
  | some (.sh n) => if n ∈ (stAt es i).opn then (srt ((stAt es i).opn.drop ((stAt es i).opn.idxOf n + 1))).map fun m => (((i : Nat) : Int), m) else []
  | _ => []
def crossOf (es : List Ev) (i : Nat) : List (Int × Int) := (List.range i).flatMap (crossAt es)
theorem crossOf_succ (es : List Ev) (i : Nat) : crossOf es (i + 1) = crossOf es i ++ crossAt es i := by
  unfold crossOf
  rw [List.range_succ, List.flatMap_append]
  simp
theorem crossAt_len (es : List Ev) (i : Nat) (h : i ≤ 16) : (crossAt es i).length ≤ 16 := by
  unfold crossAt
  split
  · split
    · rw [List.length_map, (srt_perm _).length_eq, List.length_drop]
      have := stAt_opn es i
      omega
    · exact Nat.zero_le _
  · exact Nat.zero_le _
theorem crossOf_len (es : List Ev) : ∀ i, i ≤ 16 → (crossOf es i).length ≤ 16 * i
  | 0, _ => Nat.le_refl _
  | i + 1, h => by
    rw [crossOf_succ, List.length_append]
    have h1 := crossOf_len es i (by omega)
    have h2 := crossAt_len es i (by omega)
    omega
def spCross : Sp := sp1 fun x H Q _ => ∃ b p es, x = .ref p ∧ LogAt b H p es ∧ ∀ D H' vs, H D = none → Same H H' → H' D = some (.lst vs) → Paired (TR pairV H') vs (crossOf es es.length) → Q (.ref D) H'
theorem sc_crossings : FnScope ["log", "watcher", "found", "place", "event", "later", "entry"] ["log"] (defScope (top 25)) := ⟨rfl, rfl, rfl, by decide +kernel, rfl, by decide +kernel, by decide +kernel⟩
theorem c_crossings (T : Sy K mg) : Cal gd P w K mg base CX0 9 "crossings" spCross := by
  refine T.cal (F_crossings T) sc_crossings sp1_len (fun cdv f A outer s H vs Q E z h => ?_) (fun _ _ _ _ _ _ us hl => match us, hl with | [_], _ => rfl)
  have hu1 := hu_1 z; have hu2 := hu_2 z; have hu3 := hu_3 z
  obtain ⟨x0, rfl, h⟩ := h
  obtain ⟨b, p, es, rfl, lg, q⟩ := h
  refine ⟨_, (pss_cons (ps_expr (pe_c (c_check_log T) z (pa_cons (pv 0) pa_nil))) (pss_cons (ps_par (i := 1) (j := 2) (by rfl) sc_crossings.nd rfl rfl (by decide) rfl rfl (pa_cons (pe_mk0 (m_Watcher T) z) (pa_cons (pe_lst pa_nil) pa_nil)) (by rfl)) (pss_cons (ps_for PassesOwn.never (by rfl) (pi_enum2K (K := K) rfl (by rfl) (T.free "enumerate") (pv 0)) (pg_tupK (K := K) rfl (by rfl) (pgs_cons (pg_name (i := 3) sc_crossings.nd rfl (by first | exact Or.inl rfl | exact Or.inr rfl)) (pgs_cons (pg_name (i := 4) sc_crossings.nd rfl (by first | exact Or.inl rfl | exact Or.inr rfl)) pgs_nil))) (pss_cons (ps_if (PW.pt (pw_and (pt_cmpR (r := rEq2 K) (op_eq2 hu1) (pe_ix (r := rGet K) (ix_get hu3) (pv 4) pe_int (fun _ _ => rfl)) pe_str (nomark _)) (pw_and1 (pt_cmpR (r := rIn2 K) (op_in2 hu2) (pe_ix (r := rGet K) (ix_get hu3) (pv 4) pe_int (fun _ _ => rfl)) (pe_prK (K := K) rfl (p_now T) z (pv 1)) rfl)))) (pss_cons (ps_set (i := 5) sc_crossings.nd rfl (by first | exact Or.inl rfl | exact Or.inr rfl) (pe_slice (r := rSl2 K) sl_2 (pe_prK (K := K) rfl (p_now T) z (pv 1)) (po_some (pe_op (r := rAdd2 K) op_add2 (pe_tmK (K := K) (r := rTIdx K) rfl PySem.F.slot_tuple_index PySem.F.type_tuple_index mt_tindex (pe_prK (K := K) rfl (p_now T) z (pv 1)) (pa_cons (pe_ix (r := rGet K) (ix_get hu3) (pv 4) pe_int (fun _ _ => rfl)) pa_nil)) pe_int)) po_none)) (pss_one (ps_expr (pe_bmK (K := K) rfl PySem.F.plainAttrs_list PySem.F.slot_list_extend PySem.F.type_list_extend mt_extend2 (pv 2) (pa_cons (pe_lc (own := [("entry", 6)]) (g := gName 6) (by rfl) sc_crossings.nd (pi_anyK (K := K) rfl (pe_callB (r := rSortedT K) cr_sortedT2 (by rfl) (T.free "sorted") (by decide +kernel) (pa_cons (pv 5) pa_nil))) (blkOk_by (own := [("entry", 6)]) (N := ["log", "watcher", "found", "place", "event", "later", "entry"]) (sc := (defScope (top 25))) (by decide +kernel)) (fun _ _ _ _ _ => (pg_name (i := 6) sc_crossings.nd rfl (by first | exact Or.inl rfl | exact Or.inr rfl))) (fun _ _ _ _ _ => pts_nil) (fun _ _ _ _ _ => (pe_tup (pa_cons (pv 3) (pa_cons (pv 6) pa_nil))))) pa_nil))))) pss_nil) (pss_one (ps_expr (pe_wq T rfl rfl z (pv 1) (pa_cons (pv 4) pa_nil)))))) (pss_one (ps_ret (pv 2)))))), ?_⟩
  obtain ⟨vs, h1, h2, ok, hl⟩ := id lg
  have ll : vs.length = es.length := h2.length
  walk_at "yhead"; walk_at "y"
  refine ⟨_, rfl, b, p, es, rfl, lg, fun H1 s1 => ?_⟩
  walk_at "y"
  refine wnew_i fun x dx l H2 ws => ?_
  walk_at "y"
  refine ⟨sz4 (by simp), fun D nD => ?_⟩
  have sH3 := same_upd (H := H2) (o := .lst []) nD
  have eD := upd_same (H := H2) (a := D) (o := .lst [])
  generalize upd H2 D (.lst []) = H3 at sH3 eD ⊢
  refine ⟨_, _, rfl, ?_⟩
  have nD1 : H1 D = none := ws.sm.free nD
  have nx := Ne.symm (ne_of_none ws.at_.1 nD)
  have nl := Ne.symm (ne_of_none ws.at_.2 nD)
  replace ws := ws.mono sH3
  walk_at "y"
  refine for_eb b ?_
  walk_at "y"
  refine ⟨p, vs, rfl, SqB.of (ws.sm _ _ (s1 _ _ h1)), for_it walk_eb (Pv := fun i σ H' => (∃ l us, WS K H1 H' x dx l (stAt es i) ∧ D ≠ l ∧ H' D = some (.lst us) ∧ Paired (TR pairV H') us (crossOf es i)) ∧ ∃ a c d e, σ = [some (.ref p), some (.ref x), some (.ref D), a, c, d, e]) ⟨⟨l, [], ws, nl, eD, .nil⟩, _, _, _, _, rfl⟩ (fun i σ H' _ hp => let ⟨⟨l, us, ws, _⟩, _⟩ := hp; ws.sm _ _ (s1 _ _ h1)) (fun i v σ H4 H5 hi hp y => ?_) fun σ H' hp => ?_⟩
  · obtain ⟨⟨l, us, ws, nl, hD4, pus⟩, a, c, d, e, rfl⟩ := hp
    obtain ⟨tt, v1, v2, rfl, ht, rfl, e1, e2⟩ := y
    cases e1
    have sY := same_upd (o := .tup [.int i, v2]) ht
    have ws5 := ws.mono sY
    obtain ⟨t, ev, rfl, e3, e4⟩ := LogAt.get (b := b) (p := p) ((firm_TR _).all (sT (s1.trans ws5.sm)) h2) e2
    refine gTup_i (SqT.of upd_same) ?_
    have hD5 := sY _ _ hD4
    have pus5 := (firm_TR _).all (sT sY) pus
    generalize upd H4 tt (.tup [.int i, .ref t]) = H5 at *
    have okE := ok _ (List.mem_of_getElem? e3)
    have hol : (stAt es i).opn.length ≤ 100 := Nat.le_trans (stAt_opn es i) (by omega)
    have i16 : i ≤ 16 := by omega
    have lus : us.length = (crossOf es i).length := pus.length
    have lus2 := crossOf_len es i i16
    -- the end of a turn: the watcher is called
    have fin : ∀ (H6 : Hp) (us' : List V) (N : L2.St → Hp → Prop) (σ : L2.St), (∀ H', (∃ l us, WS K H1 H' x dx l (stAt es (i + 1)) ∧ D ≠ l ∧ H' D = some (.lst us) ∧ Paired (TR pairV H') us (crossOf es (i + 1))) → N σ H') → WS K H1 H6 x dx l (stAt es i) → H6 D = some (.lst us') → Paired (TR pairV H6) us' (crossOf es (i + 1)) → H6 t = some (.tup ev.xs) →
        (∃ dx fs, H6 x = some (.ins (He.ga K "Watcher") dx fs)) ∧ spWQ K [V.ref x, V.ref t] H6 (fun _ H' => N σ H') E0 := fun H6 us' N σ hN ws6 hD6 p6 ht6 => by
      refine wq_i ws6 hol ht6 okE fun l' H7 ws7 hl' off => hN H7 ⟨l', us', by rw [stAt_succ e3]; exact ws7, ?_, off _ _ hD6 nx nl, ?_⟩
      · rcases hl' with rfl | hn
        · exact nl
        · exact ne_of_none hD6 hn
      · refine p6.mono fun v a h => ?_
        obtain ⟨g, eg, hg⟩ := h
        exact ⟨g, eg, off _ _ hg (ne_of hg ws6.at_.1 (by intro z; cases z)) (ne_of hg ws6.at_.2 (by intro z; cases z))⟩
    have nf : (∀ n, ev ≠ .sh n) → crossOf es (i + 1) = crossOf es i := fun hn => by
      rw [crossOf_succ, show crossAt es i = [] by
        unfold crossAt
        rw [e3]
        cases ev with
        | sh n => exact absurd rfl (hn n)
        | _ => rfl, List.append_nil]
    walk_at "y"
    cases ev with
    | op n =>
      refine rGet_t (n := 0) (SqT.of e4) rfl ?_
      walk_at "y"
      refine ⟨x, rfl, ?_⟩
      walk_at "y"
      exact fin H5 us _ _ (fun H' h => ⟨h, _, _, _, _, rfl⟩) ws5 hD5 (by rw [nf (by intro n; exact nofun)]; exact pus5) e4
    | sh n =>
      refine rGet_t (n := 0) (SqT.of e4) rfl ?_
      walk_at "y"
      refine rGet_t (n := 1) (SqT.of e4) rfl ?_
      walk_at "y"
      refine ⟨x, dx, _, rfl, ws5.at_.1, _, rfl, x, dx, l, _, rfl, ws5.at_, fun t1 o1 H6 n1 s6 k1 _ _ => ?_⟩
      refine rIn2_f (b := false) (SqT.frz k1) rfl (flat_ints _) ?_
      rw [inV_ints]
      have ws6 := ws5.mono s6
      by_cases c : n ∈ (stAt es i).opn
      · walk_at "y"
        refine ⟨x, dx, _, rfl, ws6.at_.1, _, rfl, x, dx, l, _, rfl, ws6.at_, fun t2 o2 H7 n2 s7 k2 _ _ => ?_⟩
        have ws7 := ws6.mono s7
        walk_at "y"
        refine ⟨x, dx, _, rfl, ws7.at_.1, _, rfl, x, dx, l, _, rfl, ws7.at_, fun t3 o3 H8 n3 s8 k3 c3 d3 => ?_⟩
        have ws8 := ws7.mono s8
        have s58 := (s6.trans s7).trans s8
        refine ⟨⟨t3, o3, _, rfl, k3, c3, d3⟩, ?_⟩
        walk_at "y"
        refine rGet_t (n := 1) (SqT.of (s58 _ _ e4)) rfl ?_
        walk_at "y"
        refine ⟨t3, _, n, rfl, rfl, SqT.frz k3, c, ?_⟩
        walk_at "y"
        rw [show ((((stAt es i).opn.idxOf n : Nat) : Int) + 1) = (((stAt es i).opn.idxOf n + 1 : Nat) : Int) by omega]
        refine ⟨_, rfl, ?_⟩
        walk_at "y"
        refine rSl2_t (SqT.frz (s8 _ _ k2)) fun g H9 hg s9 => ?_
        rw [cut_from, ← List.map_drop] at hg
        have ws9 := ws8.mono s9
        have s59 := s58.trans s9
        have hD9 := s59 _ _ hD5
        walk_at "y"
        refine ⟨tyL hD9, ?_⟩
        walk_at "y"
        refine lc_b true ?_
        walk_at "y"
        refine ⟨g, _, rfl, hg, fun ns' r perm le hr => ?_⟩
        have sr := same_upd (o := .lst (ns'.map V.int)) hr
        have er := upd_same (H := H9) (a := r) (o := .lst (ns'.map V.int))
        generalize upd H9 r (.lst (ns'.map V.int)) = HA at sr er ⊢
        have ens := srt_eq perm le
        have lns : ns'.length ≤ 16 := by
          rw [perm.length_eq, List.length_drop]
          have := stAt_opn es i
          omega
        refine ⟨r, rfl, ⟨_, SqL.of er⟩, lc_pure (walk_b (b := true) (xs := ns'.map V.int)) (by rw [List.length_map]; exact sz4 (by omega)) (fun j => (ns'[j]?).bind fun m => some (((i : Nat) : Int), m)) (firm_TR pairV) (fun H' s => s _ _ er) (fun i H0 x H1 y => by obtain ⟨rfl, _⟩ := y; exact Same.refl _) (fun j v H0 HB hj s0 sB y N C hC hN => ?_) fun F HB ws' hF sB hB pr => ?_⟩
        · obtain ⟨rfl, e5⟩ := y
          rw [List.getElem?_map] at e5
          cases e6 : ns'[j]? with
          | none => rw [e6] at e5; cases e5
          | some m =>
            rw [e6] at e5
            cases e5
            walk_at "y"
            refine ⟨rfl, ?_⟩
            walk_at "y"
            refine ⟨sz4 (by simp), fun G nG => ?_⟩
            have sHC := same_upd (H := HB) (o := .tup [.int i, .int m]) nG
            have eG := upd_same (H := HB) (a := G) (o := .tup [.int i, .int m])
            generalize upd HB G (.tup [.int i, .int m]) = HC at sHC eG ⊢
            exact hC _ _ (((i : Nat) : Int), m) sHC (by rw [e6]; rfl) ⟨G, rfl, eG⟩
        · rw [List.length_map, filterMap_ix] at pr
          have e7 : ns'.filterMap (fun m => some (((i : Nat) : Int), m)) = crossAt es i := by
            unfold crossAt
            rw [e3]
            dsimp only
            rw [if_pos c, ← ens]
            exact congrFun (List.filterMap_eq_map (f := fun m : Int => (((i : Nat) : Int), m))) ns'
          rw [e7] at pr
          have wsB := (ws9.mono sr).mono sB
          have sAB := sr.trans sB
          have hDB := sAB _ _ hD9
          have lpr := pr.length
          have lca := crossAt_len es i i16
          walk_at "y"
          refine ext_i hDB hB (sz4 (by omega)) ?_
          have nDx := nx
          walk_at "y"
          refine ⟨x, rfl, ?_⟩
          walk_at "y"
          have off : ∀ b o, HB b = some o → b ≠ D → upd HB D (.lst (us ++ ws')) b = some o := fun b o e n => by rw [upd_ne n]; exact e
          refine fin _ (us ++ ws') _ _ (fun H' h => ⟨h, _, _, _, _, rfl⟩) ⟨wsB.x0, wsB.l0, fun b o e => off b o (wsB.sm b o e) (ne_of_none e nD1), off _ _ wsB.at_.1 (Ne.symm nx), off _ _ wsB.at_.2 (Ne.symm nl)⟩ upd_same ?_ (off _ _ (sAB _ _ (s59 _ _ e4)) (ne_of (sAB _ _ (s59 _ _ e4)) hDB (by intro z; cases z)))
          rw [crossOf_succ]
          exact (firm_TR _).all (sameT_upd hDB) (paired_append ((firm_TR _).all (sT (s59.trans sAB)) pus5) pr)
      · walk_at "y"
        refine ⟨x, rfl, ?_⟩
        walk_at "y"
        refine fin H6 us _ _ (fun H' h => ⟨h, _, _, _, _, rfl⟩) ws6 (s6 _ _ hD5) ?_ (s6 _ _ e4)
        rw [crossOf_succ, show crossAt es i = [] by
          unfold crossAt
          rw [e3]
          exact if_neg c, List.append_nil]
        exact (firm_TR _).all (sT s6) pus5
    | fa n =>
      refine rGet_t (n := 0) (SqT.of e4) rfl ?_
      walk_at "y"
      refine ⟨x, rfl, ?_⟩
      walk_at "y"
      exact fin H5 us _ _ (fun H' h => ⟨h, _, _, _, _, rfl⟩) ws5 hD5 (by rw [nf (by intro n; exact nofun)]; exact pus5) e4
    | no n =>
      refine rGet_t (n := 0) (SqT.of e4) rfl ?_
      walk_at "y"
      refine ⟨x, rfl, ?_⟩
      walk_at "y"
      exact fin H5 us _ _ (fun H' h => ⟨h, _, _, _, _, rfl⟩) ws5 hD5 (by rw [nf (by intro n; exact nofun)]; exact pus5) e4
    | sw =>
      refine rGet_t (n := 0) (SqT.of e4) rfl ?_
      walk_at "y"
      refine ⟨x, rfl, ?_⟩
      walk_at "y"
      exact fin H5 us _ _ (fun H' h => ⟨h, _, _, _, _, rfl⟩) ws5 hD5 (by rw [nf (by intro n; exact nofun)]; exact pus5) e4
  · obtain ⟨⟨l, us, ws, nl, hD4, pus⟩, a, c, d, e, rfl⟩ := hp
    walk_at "y"
    rw [ll] at pus
    exact q D H' us (s1.free nD1) (s1.trans ws.sm) hD4 pus
end
end L76
namespace L76
open PySem PySem.Spec PyProof.Rows L2
variable {gd : Bool}
local macro_rules | `(tactic| walk_at "y1") => `(tactic| with_reducible first
  | refine tSeq_i ?_ | refine tAsg_i ?_ | refine tCons_i ?_ | refine tNil_i ?_ | refine tC_i ?_ | refine tOp_i ?_ | refine tIfS_i ?_ | refine tTest_i ?_ | refine exBl_i ?_ | refine tRet_i ?_ | refine tCall_i ?_
  | refine tCB_i ?_ | refine tLst_i ?_ | refine tTup_i ?_ | refine rI0_i ?_ | refine tDrop_i ?_ | refine tNext_i ?_ | refine tB_i ?_ | refine tAnd_i ?_ | refine tOr_i ?_ | refine tNot_i ?_ | refine tAndV_i ?_ | refine tOrV_i ?_ | refine tNotV_i ?_
  | refine tYes_i ?_ | refine tTM_i ?_ | refine tPar_i ?_ | refine tSl_i ?_ | refine tNoPart_i ?_ | refine tPart_i ?_ | refine part_i ?_ | refine tMake_i ?_ | refine tProp_i ?_ | refine tCallOG_i ?_ | refine tVeI_i ?_ | refine tOst_i ?_ | refine tMkO_i ?_ | refine sFld_i ?_ | refine fldaug_i ?_ | refine gCons_i ?_ | refine gNil_i ?_ | refine tChain_i ?_ | refine tBM_i ?_ | refine rAdd2_i ?_ | refine rLe2_i ?_ | refine rEq2_i ?_ | refine rEq2_ss ?_ | refine rNe2_i ?_ | refine rNe2_ss ?_ | refine rIsN_i ?_ | refine rNotN_i ?_ | refine tTup_i2 ?_ | refine tIf_i ?_ | refine tUn_i ?_ | refine tDGet_i ?_ | refine sDPut_i ?_ | refine tFld_i ?_ | refine tRetN_i ?_ | refine tBreak_i ?_ | refine tCont_i ?_ | refine rU_i ?_)
local macro_rules | `(tactic| walk_at "yhead") => `(tactic| dsimp only [L2.start, List.map, List.length_cons, List.length_nil, Nat.reduceAdd, Nat.reduceSub, List.replicate, List.cons_append, List.nil_append])
local macro_rules | `(tactic| walk_at "y2") => `(tactic| first
  | walk_at "y1"
  | ((with_reducible refine tVar_i (v := ?v) ?h ?q); (case h => rfl))
  | ((with_reducible refine gName_i ?_); (dsimp only [L2.wipe, List.set]))
  | with_reducible refine iteT ?_ | with_reducible refine iteF ?_ | with_reducible refine iteNT ?_ | with_reducible refine iteNF ?_
  | ((with_reducible refine iteDT ?h ?q); (case h => first | decide +kernel | omega | assumption | exact nv1 | exact nv2 | exact nv3 | exact nv4)) | ((with_reducible refine iteDF ?h ?q); (case h => first | decide +kernel | omega | assumption | exact nv1 | exact nv2 | exact nv3 | exact nv4))
  | ((with_reducible refine iteNDT ?h ?q); (case h => first | decide +kernel | omega | assumption | exact nv1 | exact nv2 | exact nv3 | exact nv4)) | ((with_reducible refine iteNDF ?h ?q); (case h => first | decide +kernel | omega | assumption | exact nv1 | exact nv2 | exact nv3 | exact nv4))
  | ((with_reducible refine rIsi2_1 (T := ?T) (b := true) ?ty ?h ?q); (case ty => first | exact ty_str | exact ty_int | exact ty_bl | exact ty_non); (case h => decide +kernel))
  | ((with_reducible refine rIsi2_1 (T := ?T) (b := false) ?ty ?h ?q); (case ty => first | exact ty_str | exact ty_int | exact ty_bl | exact ty_non); (case h => decide +kernel))
  | ((with_reducible refine rEq2_s ?h ?q); (case h => rfl)) | ((with_reducible refine rNe2_s ?h ?q); (case h => rfl))
  | ((with_reducible refine rEq_i ?h ?q); (case h => rfl)) | ((with_reducible refine rNe_i ?h ?q); (case h => rfl)))
local macro_rules | `(tactic| walk_at "y") => `(tactic| repeat walk_at "y2")
section
variable {K : PySem.W.Frag} {σ : L2.St} {H : Hp} {a : Addr} {v y : V} {Q : VK}
theorem tPairs_c {tk tv : TE} {r : List (TE × TE)} {Q : List (V × V) → Hp → Prop} (q : tk σ H fun x H1 => tv σ H1 fun y H2 => tPairs r σ H2 fun ps H3 => Q ((x, y) :: ps) H3) : tPairs ((tk, tv) :: r) σ H Q := q
theorem tPairs_n {Q : List (V × V) → Hp → Prop} (q : Q [] H) : tPairs [] σ H Q := q
theorem dputU_i {N : L2.St → Hp → Prop} {kvs kvs' : List (Key × V)} {k : Key} (h : H a = some (.dK kvs)) (hy : y = kV k) (hl : kvs.length < sizeLine) (e : putK kvs k v = kvs') (q : ∀ H2, H2 a = some (.dK kvs') → (∀ b, b ≠ a → H2 b = H b) → N σ H2) : ∃ a' H4, V.ref a = .ref a' ∧ DPut H a' y v H4 ∧ N σ H4 :=
  dput_i h hy hl (q _ (by rw [upd_same, e]) fun b nb => upd_ne nb)
end
section
variable {P : Program} {w : World} {K : PySem.W.Frag} {mg : Str → Option Value} {base : Heap}
def spMixed : Sp := sp2 fun x y H Q _ => ∃ (c k : Int), x = .int c ∧ y = .int k ∧ 0 ≤ k ∧ k < 1000000000 ∧ ∀ (r : Int) (H' : Hp), 0 ≤ r → r < 2147483647 → Same H H' → Q (.int r) H'
theorem sc__law_mixed : FnScope ["_law_cell", "_law_k", "_law_number"] ["_law_cell", "_law_k"] (defScope (top 29)) := ⟨rfl, rfl, rfl, by decide +kernel, rfl, by decide +kernel, by decide +kernel⟩
theorem c__law_mixed (T : Sy K mg) : Cal gd P w K mg base CX0 1 "_law_mixed" spMixed := by
  refine T.cal (F_law_mixed T) sc__law_mixed sp2_len (fun cdv f A outer s H vs Q E z h => ?_) (fun _ _ _ _ _ _ us hl => match us, hl with | [_, _], _ => rfl)
  have hu1 := hu_1 z; have hu2 := hu_2 z; have hu3 := hu_3 z
  obtain ⟨x0, x1, rfl, h⟩ := h
  obtain ⟨c, k, rfl, rfl, k0, k1, q⟩ := h
  refine ⟨_, (pss_cons (ps_set (i := 2) sc__law_mixed.nd rfl (by first | exact Or.inl rfl | exact Or.inr rfl) (pe_op (r := rAdd2 K) op_add2 (pe_op (r := rAdd2 K) op_add2 (pe_op op_mod (pv 0) (pe_ix (r := rGet K) (ix_get hu3) (pe_lst (pa_cons pe_int (pa_cons pe_int (pa_cons pe_int (pa_cons pe_int pa_nil))))) (pe_op op_mod (pv 1) pe_int) (fun _ _ => rfl))) (pe_op (r := rMul2 K) op_mul2 pe_int (pv 1))) pe_int)) (pss_one (ps_ret (pe_op op_mod (pe_op (r := rMul2 K) op_mul2 (pe_op op_mod (pe_op (r := rMul2 K) op_mul2 (pv 2) (pv 2)) pe_int) pe_int) pe_int)))), ?_⟩
  walk_at "yhead"; walk_at "y"
  refine ⟨sz4 (by simp), fun D nD => ?_⟩
  have sH2 := same_upd (H := H) (o := .lst [.int 1000000007, .int 998244353, .int 2147483629, .int 1000000009]) nD
  have eD := upd_same (H := H) (a := D) (o := .lst [.int 1000000007, .int 998244353, .int 2147483629, .int 1000000009])
  generalize upd H D (.lst [.int 1000000007, .int 998244353, .int 2147483629, .int 1000000009]) = H2 at sH2 eD ⊢
  walk_at "y"
  refine rI_i (show (0 : Int) < 4 by decide) ?_
  have m0 := Int.emod_nonneg k (show (4 : Int) ≠ 0 by decide)
  have m1 := Int.emod_lt_of_pos k (show (0 : Int) < 4 by decide)
  rcases (show k % 4 = 0 ∨ k % 4 = 1 ∨ k % 4 = 2 ∨ k % 4 = 3 by omega) with e | e | e | e <;> rw [e]
  · refine rGet_l (n := 0) (SqL.of eD) rfl ?_
    refine rI_i (show (0 : Int) < 1000000007 by decide) ?_
    walk_at "y"
    refine rMul2_i (.inl ⟨by decide, by decide⟩) ?_
    walk_at "y"
    have q1 := Int.emod_nonneg c (show (1000000007 : Int) ≠ 0 by decide)
    have q2 := Int.emod_lt_of_pos c (show (0 : Int) < 1000000007 by decide)
    generalize he : c % 1000000007 + 7919 * k + 13 = e
    have b1 : 0 ≤ e ∧ e < 100000000000000 := by omega
    refine rMul2_i (.inl ⟨by omega, by omega⟩) ?_
    walk_at "y"
    refine rI_i (show (0 : Int) < 2147483647 by decide) ?_
    walk_at "y"
    have q3 := Int.emod_nonneg (e * e) (show (2147483647 : Int) ≠ 0 by decide)
    have q4 := Int.emod_lt_of_pos (e * e) (show (0 : Int) < 2147483647 by decide)
    refine rMul2_i (.inl ⟨by omega, by omega⟩) ?_
    walk_at "y"
    refine rI_i (show (0 : Int) < 2147483647 by decide) ?_
    exact q _ _ (Int.emod_nonneg _ (by decide)) (Int.emod_lt_of_pos _ (by decide)) sH2
  · refine rGet_l (n := 1) (SqL.of eD) rfl ?_
    refine rI_i (show (0 : Int) < 998244353 by decide) ?_
    walk_at "y"
    refine rMul2_i (.inl ⟨by decide, by decide⟩) ?_
    walk_at "y"
    have q1 := Int.emod_nonneg c (show (998244353 : Int) ≠ 0 by decide)
    have q2 := Int.emod_lt_of_pos c (show (0 : Int) < 998244353 by decide)
    generalize he : c % 998244353 + 7919 * k + 13 = e
    have b1 : 0 ≤ e ∧ e < 100000000000000 := by omega
    refine rMul2_i (.inl ⟨by omega, by omega⟩) ?_
    walk_at "y"
    refine rI_i (show (0 : Int) < 2147483647 by decide) ?_
    walk_at "y"
    have q3 := Int.emod_nonneg (e * e) (show (2147483647 : Int) ≠ 0 by decide)
    have q4 := Int.emod_lt_of_pos (e * e) (show (0 : Int) < 2147483647 by decide)
    refine rMul2_i (.inl ⟨by omega, by omega⟩) ?_
    walk_at "y"
    refine rI_i (show (0 : Int) < 2147483647 by decide) ?_
    exact q _ _ (Int.emod_nonneg _ (by decide)) (Int.emod_lt_of_pos _ (by decide)) sH2
  · refine rGet_l (n := 2) (SqL.of eD) rfl ?_
    refine rI_i (show (0 : Int) < 2147483629 by decide) ?_
    walk_at "y"
    refine rMul2_i (.inl ⟨by decide, by decide⟩) ?_
    walk_at "y"
    have q1 := Int.emod_nonneg c (show (2147483629 : Int) ≠ 0 by decide)
    have q2 := Int.emod_lt_of_pos c (show (0 : Int) < 2147483629 by decide)
    generalize he : c % 2147483629 + 7919 * k + 13 = e
    have b1 : 0 ≤ e ∧ e < 100000000000000 := by omega
    refine rMul2_i (.inl ⟨by omega, by omega⟩) ?_
    walk_at "y"
    refine rI_i (show (0 : Int) < 2147483647 by decide) ?_
    walk_at "y"
    have q3 := Int.emod_nonneg (e * e) (show (2147483647 : Int) ≠ 0 by decide)
    have q4 := Int.emod_lt_of_pos (e * e) (show (0 : Int) < 2147483647 by decide)
    refine rMul2_i (.inl ⟨by omega, by omega⟩) ?_
    walk_at "y"
    refine rI_i (show (0 : Int) < 2147483647 by decide) ?_
    exact q _ _ (Int.emod_nonneg _ (by decide)) (Int.emod_lt_of_pos _ (by decide)) sH2
  · refine rGet_l (n := 3) (SqL.of eD) rfl ?_
    refine rI_i (show (0 : Int) < 1000000009 by decide) ?_
    walk_at "y"
    refine rMul2_i (.inl ⟨by decide, by decide⟩) ?_
    walk_at "y"
    have q1 := Int.emod_nonneg c (show (1000000009 : Int) ≠ 0 by decide)
    have q2 := Int.emod_lt_of_pos c (show (0 : Int) < 1000000009 by decide)
    generalize he : c % 1000000009 + 7919 * k + 13 = e
    have b1 : 0 ≤ e ∧ e < 100000000000000 := by omega
    refine rMul2_i (.inl ⟨by omega, by omega⟩) ?_
    walk_at "y"
    refine rI_i (show (0 : Int) < 2147483647 by decide) ?_
    walk_at "y"
    have q3 := Int.emod_nonneg (e * e) (show (2147483647 : Int) ≠ 0 by decide)
    have q4 := Int.emod_lt_of_pos (e * e) (show (0 : Int) < 2147483647 by decide)
    refine rMul2_i (.inl ⟨by omega, by omega⟩) ?_
    walk_at "y"
    refine rI_i (show (0 : Int) < 2147483647 by decide) ?_
    exact q _ _ (Int.emod_nonneg _ (by decide)) (Int.emod_lt_of_pos _ (by decide)) sH2
/-- the law's state -/
def stK (L c t : Int) : List (Key × V) := [(Sum.inr "left", .int L), (Sum.inr "cell", .int c), (Sum.inr "turns", .int t)]
def spDraw : Sp := sp2 fun x y H Q _ => ∃ (c k : Int), x = .int c ∧ y = .int k ∧ 0 ≤ k ∧ k < 1000000 ∧ ∀ p L H', 0 ≤ L → H p = none → Same H H' → H' p = some (.dK (stK L c (1000 * k))) → Q (.ref p) H'
theorem sc__law_draw : FnScope ["_law_cell", "_law_k"] ["_law_cell", "_law_k"] (defScope (top 30)) := ⟨rfl, rfl, rfl, by decide +kernel, rfl, by decide +kernel, by decide +kernel⟩
theorem c__law_draw (T : Sy K mg) : Cal gd P w K mg base CX0 1 "_law_draw" spDraw := by
  refine T.cal (F_law_draw T) sc__law_draw sp2_len (fun cdv f A outer s H vs Q E z h => ?_) (fun _ _ _ _ _ _ us hl => match us, hl with | [_, _], _ => rfl)
  have hu1 := hu_1 z; have hu2 := hu_2 z; have hu3 := hu_3 z
  obtain ⟨x0, x1, rfl, h⟩ := h
  obtain ⟨c, k, rfl, rfl, k0, k1, q⟩ := h
  refine ⟨_, (pss_one (ps_ret (pe_disp (pps_cons pe_str (pe_ifExp (pt_cmpR op_ge (pv 0) (pe_op op_pow pe_int pe_int) (nomark _)) (pv 0) pe_int) (pps_cons pe_str (pv 0) (pps_cons pe_str (pe_op (r := rMul2 K) op_mul2 pe_int (pv 1)) pps_nil))) (by rfl) (by rfl) (fun z => by cases z) (by decide)))), ?_⟩
  walk_at "yhead"; walk_at "y"
  intro p hp
  refine tPairs_c ?_
  walk_at "y"
  refine rI_i ⟨by decide, by decide, by decide⟩ ?_
  walk_at "y"
  have fin : ∀ L : Int, 0 ≤ L → tPairs [(tC (.str "cell"), tVar 0), (tC (.str "turns"), tOp (rMul2 K) (tC (.int 1000)) (tVar 1))] [some (.int c), some (.int k)] (upd H p (.dK [])) fun ps H2 => H2 p = some (.dK []) ∧ ∃ kvs : List (Key × V), (V.str "left", V.int L) :: ps = kvs.map (fun kv => (kV kv.1, kv.2)) ∧ kvs.length ≤ 15 ∧ Q (.ref p) (upd H2 p (.dK (mergeK [] kvs))) := fun L hL => by
    refine tPairs_c ?_
    walk_at "y"
    refine tPairs_c ?_
    walk_at "y"
    refine rMul2_i (.inl ⟨by decide, by decide⟩) ?_
    refine tPairs_n ?_
    refine ⟨upd_same, stK L c (1000 * k), rfl, by show 3 ≤ 15; decide, ?_⟩
    rw [show mergeK [] (stK L c (1000 * k)) = stK L c (1000 * k) by kernel_rfl, upd_upd]
    exact q p L _ hL hp (same_upd hp) upd_same
  by_cases hc : (10 : Int) ^ (18 : Int).toNat ≤ c
  · walk_at "y"
    exact fin c (Int.le_trans (by decide) hc)
  · walk_at "y"
    exact fin 0 (Int.le_refl _)
def spDigit : Sp := sp2 fun sv zv H Q _ => ∃ p L c t z, sv = .ref p ∧ zv = .int z ∧ H p = some (.dK (stK L c t)) ∧ 0 ≤ L ∧ 0 ≤ t ∧ t < 100000000 ∧ 2 ≤ z ∧ z ≤ 17 ∧
  ∀ d L' t' H', 0 ≤ d → d < z → 0 ≤ L' → t ≤ t' → t' ≤ t + 4 → (∀ b o, H b = some o → b ≠ p → H' b = some o) → H' p = some (.dK (stK L' c t')) → Q (.int d) H'
theorem sc__law_digit : FnScope ["_law_state", "_law_size", "_law_j", "_law_found"] ["_law_state", "_law_size"] (defScope (top 31)) := ⟨rfl, rfl, rfl, by decide +kernel, rfl, by decide +kernel, by decide +kernel⟩
theorem c__law_digit (T : Sy K mg) : Cal gd P w K mg base CX0 2 "_law_digit" spDigit := by
  refine T.cal (F_law_digit T) sc__law_digit sp2_len (fun cdv f A outer s H vs Q E z h => ?_) (fun _ _ _ _ _ _ us hl => match us, hl with | [_, _], _ => rfl)
  have hu1 := hu_1 z; have hu2 := hu_2 z; have hu3 := hu_3 z
  obtain ⟨x0, x1, rfl, h⟩ := h
  obtain ⟨p, L, c, t, n, rfl, rfl, hp, L0, t0, t1, n0, n1, q⟩ := h
  refine ⟨_, (pss_cons (ps_if (pt_cmpR (r := rEq2 K) (op_eq2 hu1) (pe_ix (r := rGet K) (ix_get hu3) (pv 0) pe_str (fun _ _ => rfl)) pe_int (nomark _)) (pss_one (ps_for PassesOwn.never (by rfl) (pi_range1 (by rfl) (T.free "range") (pa_cons pe_int pa_nil)) (pg_name (i := 2) sc__law_digit.nd rfl (by first | exact Or.inl rfl | exact Or.inr rfl)) (pss_cons (ps_dput hu3 (pv 0) pe_str (pe_op (r := rAdd2 K) op_add2 (pe_ix (r := rGet K) (ix_get hu3) (pv 0) pe_str (fun _ _ => rfl)) pe_int) rfl) (pss_one (ps_dput hu3 (pv 0) pe_str (pe_op (r := rAdd2 K) op_add2 (pe_op (r := rMul2 K) op_mul2 (pe_ix (r := rGet K) (ix_get hu3) (pv 0) pe_str (fun _ _ => rfl)) pe_int) (pe_c (c__law_mixed T) z (pa_cons (pe_ix (r := rGet K) (ix_get hu3) (pv 0) pe_str (fun _ _ => rfl)) (pa_cons (pe_ix (r := rGet K) (ix_get hu3) (pv 0) pe_str (fun _ _ => rfl)) pa_nil)))) rfl))))) pss_nil) (pss_cons (ps_set (i := 3) sc__law_digit.nd rfl (by first | exact Or.inl rfl | exact Or.inr rfl) (pe_op op_mod (pe_ix (r := rGet K) (ix_get hu3) (pv 0) pe_str (fun _ _ => rfl)) (pv 1))) (pss_cons (ps_dput hu3 (pv 0) pe_str (pe_op op_fdiv (pe_ix (r := rGet K) (ix_get hu3) (pv 0) pe_str (fun _ _ => rfl)) (pv 1)) rfl) (pss_one (ps_ret (pv 3)))))), ?_⟩
  walk_at "yhead"; walk_at "y"
  refine rGet_d (k := Sum.inr "left") (v := .int L) hp (by kernel_rfl) ?_
  walk_at "y"
  -- what follows the refill
  have fin : ∀ (L' t' : Int) (H' : Hp) (j f : Option V), 0 ≤ L' → t ≤ t' → t' ≤ t + 4 → (∀ b o, H b = some o → b ≠ p → H' b = some o) → H' p = some (.dK (stK L' c t')) →
      tSeq (tAsg (tOp (rI (fun _ j => 0 < j) fun i j => .int (i % j)) (tOp (rGet K) (tVar 0) (tC (.str "left"))) (tVar 1)) (gName 3)) (tSeq (sDPut (tVar 0) (tC (.str "left")) (tOp (rI CDiv fun i j => .int (i / j)) (tOp (rGet K) (tVar 0) (tC (.str "left"))) (tVar 1))) (tRet (tVar 3))) { nx := fun _ H' => Q .non H', rt := Q } [some (.ref p), some (.int n), j, f] H' := fun L' t' H' j f h1 h2 h3 off hp' => by
    walk_at "y"
    refine rGet_d (k := Sum.inr "left") (v := .int L') hp' (by kernel_rfl) ?_
    walk_at "y"
    refine rI_i (show (0 : Int) < n by omega) ?_
    walk_at "y"
    refine rGet_d (k := Sum.inr "left") (v := .int L') hp' (by kernel_rfl) ?_
    walk_at "y"
    refine rI_i ⟨by omega, by omega⟩ ?_
    walk_at "y"
    refine dputU_i (kvs' := stK (L' / n) c t') hp' (k := Sum.inr "left") rfl (Nat.lt_of_lt_of_le (show 3 < 17 by decide) (sz4 (n := 17))) (by kernel_rfl) fun H2 k2 u2 => ?_
    walk_at "y"
    exact q _ _ _ H2 (Int.emod_nonneg _ (by omega)) (Int.emod_lt_of_pos _ (by omega)) (Int.ediv_nonneg h1 (by omega)) h2 h3 (fun b o e nb => (u2 b nb).trans (off b o e nb)) k2
  by_cases hL : L = 0
  · walk_at "y"
    refine for_r1 ?_
    walk_at "y"
    refine ⟨4, rfl, by decide, by decide, for_it walk_range (Pv := fun i σ H' => ∃ L' j, σ = [some (.ref p), some (.int n), j, none] ∧ 0 ≤ L' ∧ (∀ b o, H b = some o → b ≠ p → H' b = some o) ∧ H' p = some (.dK (stK L' c (t + (i : Nat))))) ⟨L, none, rfl, L0, fun b o e _ => e, by simpa using hp⟩ (fun _ _ _ _ _ => trivial) (fun i x σ H2 H3 hi hp y => ?_) fun σ H' hp => ?_⟩
    · obtain ⟨L', j, rfl, h0, off, hp2⟩ := hp
      obtain ⟨rfl, rfl⟩ := y
      have i4 : i < 4 := hi
      walk_at "y"
      refine rGet_d (k := Sum.inr "turns") (v := .int (t + (i : Nat))) hp2 (by kernel_rfl) ?_
      walk_at "y"
      refine dputU_i (kvs' := stK L' c (t + (i : Nat) + 1)) hp2 (k := Sum.inr "turns") rfl (Nat.lt_of_lt_of_le (show 3 < 17 by decide) (sz4 (n := 17))) (by kernel_rfl) fun H3 k3 u3 => ?_
      walk_at "y"
      refine rGet_d (k := Sum.inr "left") (v := .int L') k3 (by kernel_rfl) ?_
      walk_at "y"
      refine rMul2_i (.inr ⟨by decide, by decide⟩) ?_
      walk_at "y"
      refine rGet_d (k := Sum.inr "cell") (v := .int c) k3 (by kernel_rfl) ?_
      walk_at "y"
      refine rGet_d (k := Sum.inr "turns") (v := .int (t + (i : Nat) + 1)) k3 (by kernel_rfl) ?_
      refine ⟨_, _, rfl, c, _, rfl, rfl, by omega, by omega, fun r H4 r0 r1 s4 => ?_⟩
      walk_at "y"
      have k4 := s4 _ _ k3
      refine dputU_i (kvs' := stK (L' * 2147483647 + r) c (t + (i : Nat) + 1)) k4 (k := Sum.inr "left") rfl (Nat.lt_of_lt_of_le (show 3 < 17 by decide) (sz4 (n := 17))) (by kernel_rfl) fun H5 k5 u5 => ?_
      walk_at "y"
      refine ⟨L' * 2147483647 + r, _, rfl, by omega, fun b o e nb => (u5 b nb).trans (s4 _ _ ((u3 b nb).trans (off b o e nb))), ?_⟩
      rw [k5, show t + ((i + 1 : Nat) : Int) = t + (i : Nat) + 1 by omega]
    · obtain ⟨L', j, rfl, h0, off, hp2⟩ := hp
      exact fin L' _ H' j none h0 (by omega) (by omega) off hp2
  · refine iteDF hL ?_
    exact fin L t H none none L0 (by omega) (by omega) (fun b o e _ => e) hp
end
end L76
namespace L76
open PySem PySem.Spec PyProof.Rows L2
variable {gd : Bool}
local macro_rules | `(tactic| walk_at "y1") => `(tactic| with_reducible first
  | refine tSeq_i ?_ | refine tAsg_i ?_ | refine tCons_i ?_ | refine tNil_i ?_ | refine tC_i ?_ | refine tOp_i ?_ | refine tIfS_i ?_ | refine tTest_i ?_ | refine exBl_i ?_ | refine tRet_i ?_ | refine tCall_i ?_
  | refine tCB_i ?_ | refine tLst_i ?_ | refine tTup_i ?_ | refine rI0_i ?_ | refine tDrop_i ?_ | refine tNext_i ?_ | refine tB_i ?_ | refine tAnd_i ?_ | refine tOr_i ?_ | refine tNot_i ?_ | refine tAndV_i ?_ | refine tOrV_i ?_ | refine tNotV_i ?_
  | refine tYes_i ?_ | refine tTM_i ?_ | refine tPar_i ?_ | refine tSl_i ?_ | refine tNoPart_i ?_ | refine tPart_i ?_ | refine part_i ?_ | refine tMake_i ?_ | refine tProp_i ?_ | refine tCallOG_i ?_ | refine tVeI_i ?_ | refine tOst_i ?_ | refine tMkO_i ?_ | refine sFld_i ?_ | refine fldaug_i ?_ | refine gCons_i ?_ | refine gNil_i ?_ | refine tChain_i ?_ | refine tBM_i ?_ | refine rAdd2_i ?_ | refine rLe2_i ?_ | refine rEq2_i ?_ | refine rEq2_ss ?_ | refine rNe2_i ?_ | refine rNe2_ss ?_ | refine rIsN_i ?_ | refine rNotN_i ?_ | refine tTup_i2 ?_ | refine tIf_i ?_ | refine tUn_i ?_ | refine tDGet_i ?_ | refine sDPut_i ?_ | refine tFld_i ?_ | refine tRetN_i ?_ | refine tBreak_i ?_ | refine tCont_i ?_ | refine rU_i ?_)
local macro_rules | `(tactic| walk_at "yhead") => `(tactic| dsimp only [L2.start, List.map, List.length_cons, List.length_nil, Nat.reduceAdd, Nat.reduceSub, List.replicate, List.cons_append, List.nil_append])
local macro_rules | `(tactic| walk_at "y2") => `(tactic| first
  | walk_at "y1"
  | ((with_reducible refine tVar_i (v := ?v) ?h ?q); (case h => rfl))
  | ((with_reducible refine gName_i ?_); (dsimp only [L2.wipe, List.set]))
  | with_reducible refine iteT ?_ | with_reducible refine iteF ?_ | with_reducible refine iteNT ?_ | with_reducible refine iteNF ?_
  | ((with_reducible refine iteDT ?h ?q); (case h => first | decide +kernel | omega | assumption | exact nv1 | exact nv2 | exact nv3 | exact nv4)) | ((with_reducible refine iteDF ?h ?q); (case h => first | decide +kernel | omega | assumption | exact nv1 | exact nv2 | exact nv3 | exact nv4))
  | ((with_reducible refine iteNDT ?h ?q); (case h => first | decide +kernel | omega | assumption | exact nv1 | exact nv2 | exact nv3 | exact nv4)) | ((with_reducible refine iteNDF ?h ?q); (case h => first | decide +kernel | omega | assumption | exact nv1 | exact nv2 | exact nv3 | exact nv4))
  | ((with_reducible refine rIsi2_1 (T := ?T) (b := true) ?ty ?h ?q); (case ty => first | exact ty_str | exact ty_int | exact ty_bl | exact ty_non); (case h => decide +kernel))
  | ((with_reducible refine rIsi2_1 (T := ?T) (b := false) ?ty ?h ?q); (case ty => first | exact ty_str | exact ty_int | exact ty_bl | exact ty_non); (case h => decide +kernel))
  | ((with_reducible refine rEq2_s ?h ?q); (case h => rfl)) | ((with_reducible refine rNe2_s ?h ?q); (case h => rfl))
  | ((with_reducible refine rEq_i ?h ?q); (case h => rfl)) | ((with_reducible refine rNe_i ?h ?q); (case h => rfl)))
local macro_rules | `(tactic| walk_at "y") => `(tactic| repeat walk_at "y2")
section
variable {P : Program} {w : World} {K : PySem.W.Frag} {mg : Str → Option Value} {base : Heap}
theorem app_TR {α : Type} {f : α → List V} {D G : Addr} {e : α} {vs : List V} {es : List α} {H5 : Hp} {C : VK} (h : H5 D = some (.lst vs)) (pr : Paired (TR f H5) vs es) (hl : vs.length ≤ 900) (hG : H5 G = some (.tup (f e)))
    (q : ∀ H6, H6 D = some (.lst (vs ++ [.ref G])) → Paired (TR f H6) (vs ++ [.ref G]) (es ++ [e]) → (∀ b, b ≠ D → H6 b = H5 b) → C .non H6) : rAppend (.ref D) [.ref G] H5 C := by
  refine app_i h (Nat.lt_of_lt_of_le (show vs.length < 901 by omega) (sz4 (n := 901))) (q _ upd_same (paired_append ((firm_TR _).all (sameT_upd h) pr) (.cons ⟨G, rfl, ?_⟩ .nil)) fun b nb => upd_ne nb)
  rw [upd_ne (ne_of hG h (by intro z; cases z))]
  exact hG
def spLog : Sp := sp1 fun sv H Q _ => ∃ p L c t, sv = .ref p ∧ H p = some (.dK (stK L c t)) ∧ 0 ≤ L ∧ 0 ≤ t ∧ t < 10000000 ∧ ∀ D vs es L' t' H', (∀ b o, H b = some o → b ≠ p → H' b = some o) → H' p = some (.dK (stK L' c t')) → 0 ≤ L' → t ≤ t' → t' ≤ t + 200 → H D = none → H' D = some (.lst vs) →
  Paired (TR Ev.xs H') vs es → (∀ e ∈ es, e.ok) → es.length ≤ 16 → Q (.ref D) H'
theorem sc__law_log : FnScope ["_law_state", "_law_found", "_law_is_run", "_law_opened", "_law_made", "_law_turn", "_law_way", "_law_number"] ["_law_state"] (defScope (top 32)) := ⟨rfl, rfl, rfl, by decide +kernel, rfl, by decide +kernel, by decide +kernel⟩
theorem c__law_log (T : Sy K mg) : Cal gd P w K mg base CX0 3 "_law_log" spLog := by
  refine T.cal (F_law_log T) sc__law_log sp1_len (fun cdv f A outer s H vs Q E z h => ?_) (fun _ _ _ _ _ _ us hl => match us, hl with | [_], _ => rfl)
  have hu1 := hu_1 z; have hu2 := hu_2 z; have hu3 := hu_3 z
  obtain ⟨x0, rfl, h⟩ := h
  obtain ⟨p, L, c, t, rfl, hp, L0, t0, t1, q⟩ := h
  refine ⟨_, (pss_cons (ps_asg (pe_tup (pa_cons (pe_lst pa_nil) (pa_cons (pe_cmpR (r := rEq2 K) (op_eq2 hu1) (pe_c (c__law_digit T) z (pa_cons (pv 0) (pa_cons pe_int pa_nil))) pe_int (nomark _)) (pa_cons pe_int (pa_cons pe_int pa_nil))))) (pg_tupK (K := K) rfl (by rfl) (pgs_cons (pg_name (i := 1) sc__law_log.nd rfl (by first | exact Or.inl rfl | exact Or.inr rfl)) (pgs_cons (pg_name (i := 2) sc__law_log.nd rfl (by first | exact Or.inl rfl | exact Or.inr rfl)) (pgs_cons (pg_name (i := 3) sc__law_log.nd rfl (by first | exact Or.inl rfl | exact Or.inr rfl)) (pgs_cons (pg_name (i := 4) sc__law_log.nd rfl (by first | exact Or.inl rfl | exact Or.inr rfl)) pgs_nil)))))) (pss_cons (ps_for PassesOwn.never (by rfl) (pi_range1 (by rfl) (T.free "range") (pa_cons (pe_c (c__law_digit T) z (pa_cons (pv 0) (pa_cons pe_int pa_nil))) pa_nil)) (pg_name (i := 5) sc__law_log.nd rfl (by first | exact Or.inl rfl | exact Or.inr rfl)) (pss_cons (ps_par (i := 6) (j := 7) (by rfl) sc__law_log.nd rfl rfl (by decide) rfl rfl (pa_cons (pe_c (c__law_digit T) z (pa_cons (pv 0) (pa_cons pe_int pa_nil))) (pa_cons (pe_c (c__law_digit T) z (pa_cons (pv 0) (pa_cons pe_int pa_nil))) pa_nil)) (by rfl)) (pss_one (ps_if (pt_cmpR op_lt (pv 6) pe_int (nomark _)) (pss_cons (ps_expr (pe_bmK (K := K) rfl PySem.F.plainAttrs_list PySem.F.slot_list_append PySem.F.type_list_append mt_append2 (pv 1) (pa_cons (pe_tup (pa_cons pe_str (pa_cons (pe_ifExp (pt_val (pv 2)) (pv 3) (pv 7)) pa_nil))) pa_nil))) (pss_one (ps_set (i := 3) sc__law_log.nd rfl (by first | exact Or.inl rfl | exact Or.inr rfl) (pe_op (r := rAdd2 K) op_add2 (pv 3) pe_int)))) (pss_one (ps_if (pt_cmpR op_lt (pv 6) pe_int (nomark _)) (pss_one (ps_expr (pe_bmK (K := K) rfl PySem.F.plainAttrs_list PySem.F.slot_list_append PySem.F.type_list_append mt_append2 (pv 1) (pa_cons (pe_tup (pa_cons pe_str (pa_cons (pe_ifExp (pt_val (pv 2)) (pe_op op_mod (pv 7) (pe_callB (call_max2 rfl) (by rfl) (T.free "max") (by decide +kernel) (pa_cons (pv 3) (pa_cons pe_int pa_nil)))) (pv 7)) pa_nil))) pa_nil)))) (pss_one (ps_if (pt_cmpR (r := rEq2 K) (op_eq2 hu1) (pv 6) pe_int (nomark _)) (pss_cons (ps_expr (pe_bmK (K := K) rfl PySem.F.plainAttrs_list PySem.F.slot_list_append PySem.F.type_list_append mt_append2 (pv 1) (pa_cons (pe_tup (pa_cons pe_str (pa_cons (pe_ifExp (pt_val (pv 2)) (pv 4) (pv 7)) (pa_cons pe_str (pa_cons pe_str pa_nil))))) pa_nil))) (pss_one (ps_set (i := 4) sc__law_log.nd rfl (by first | exact Or.inl rfl | exact Or.inr rfl) (pe_op (r := rAdd2 K) op_add2 (pv 4) pe_int)))) (pss_one (ps_expr (pe_bmK (K := K) rfl PySem.F.plainAttrs_list PySem.F.slot_list_append PySem.F.type_list_append mt_append2 (pv 1) (pa_cons (pe_ix (r := rGet K) (ix_get hu3) (pe_lst (pa_cons (pe_tup (pa_cons pe_str (pa_cons (pv 5) pa_nil))) (pa_cons (pe_tup (pa_cons pe_str (pa_cons pe_str (pa_cons pe_non pa_nil)))) pa_nil))) (pe_op op_sub (pv 6) pe_int) (fun _ _ => rfl)) pa_nil)))))))))))) (pss_one (ps_ret (pv 1))))), ?_⟩
  walk_at "yhead"; walk_at "y"
  refine ⟨sz4 (by simp), fun D nD => ?_⟩
  have sH1 := same_upd (H := H) (o := .lst []) nD
  have eD := upd_same (H := H) (a := D) (o := .lst [])
  generalize upd H D (.lst []) = H1 at sH1 eD ⊢
  walk_at "y"
  refine ⟨_, _, rfl, p, L, c, t, 2, rfl, rfl, sH1 _ _ hp, L0, t0, by omega, by decide, by decide, fun d1 L1 t2 H2 a1 a2 a3 a4 a5 off2 k2 => ?_⟩
  have nDp : D ≠ p := Ne.symm (ne_of_none hp nD)
  have eD2 := off2 _ _ eD nDp
  walk_at "y"
  refine ⟨sz4 (by simp), fun T1 nT1 => ?_⟩
  have sH3 := same_upd (H := H2) (o := .tup [.ref D, .bl (decide (d1 = 0)), .int 0, .int 0]) nT1
  have eT1 := upd_same (H := H2) (a := T1) (o := .tup [.ref D, .bl (decide (d1 = 0)), .int 0, .int 0])
  generalize upd H2 T1 (.tup [.ref D, .bl (decide (d1 = 0)), .int 0, .int 0]) = H3 at sH3 eT1 ⊢
  walk_at "y"
  refine gTup_i (xs := [.ref D, .bl (decide (d1 = 0)), .int 0, .int 0]) (SqT.of eT1) ?_
  walk_at "y"
  refine for_r1 ?_
  walk_at "y"
  refine ⟨_, _, rfl, p, L1, c, t2, 17, rfl, rfl, sH3 _ _ k2, a3, by omega, by omega, by decide, by decide, fun d4 L4 t4 H4 b1 b2 b3 b4 b5 off4 k4 => ?_⟩
  have off : ∀ b o, H b = some o → b ≠ p → H4 b = some o := fun b o e nb => off4 _ _ (sH3 _ _ (off2 _ _ (sH1 _ _ e) nb)) nb
  refine ⟨d4, rfl, by omega, by omega, for_it walk_range (Pv := fun i σ H' => ∃ L' t' vs es op mk a b e, σ = [some (.ref p), some (.ref D), some (.bl (decide (d1 = 0))), some (.int op), some (.int mk), a, b, e] ∧ 0 ≤ L' ∧ t ≤ t' ∧ t' ≤ t + 8 + 8 * i ∧ (∀ b o, H b = some o → b ≠ p → H' b = some o) ∧ H' p = some (.dK (stK L' c t')) ∧ H' D = some (.lst vs) ∧ Paired (TR Ev.xs H') vs es ∧ (∀ e ∈ es, e.ok) ∧ es.length = i ∧ 0 ≤ op ∧ op ≤ i ∧ 0 ≤ mk ∧ mk ≤ i) ⟨L4, t4, [], [], 0, 0, none, none, none, rfl, b3, by omega, by omega, off, k4, off4 _ _ (sH3 _ _ eD2) nDp, .nil, (fun e he => nomatch he), rfl, by decide, by decide, by decide, by decide⟩ (fun _ _ _ _ _ => trivial) (fun i x σ H5 H6 hi hp5 y => ?_) fun σ H' hp' => ?_⟩
  · obtain ⟨L5, t5, vs, es, op, mk, s1, s2, s3, rfl, c1, c2, c3, off5, k5, kD5, pr5, ok5, l5, o0, o1, m0, m1⟩ := hp5
    obtain ⟨rfl, rfl⟩ := y
    have hi16 : i < 16 := by omega
    walk_at "y"
    refine ⟨_, _, rfl, p, L5, c, t5, 7, rfl, rfl, k5, c1, by omega, by omega, by decide, by decide, fun dw L6 t6 H6 e1 e2 e3 e4 e5 off6 k6 => ?_⟩
    walk_at "y"
    refine ⟨_, _, rfl, p, L6, c, t6, 4, rfl, rfl, k6, e3, by omega, by omega, by decide, by decide, fun dn L7 t7 H7 f1 f2 f3 f4 f5 off7 k7 => ?_⟩
    refine ⟨_, _, rfl, ?_⟩
    have kD7 := off7 _ _ (off6 _ _ kD5 nDp) nDp
    have pr7 : Paired (TR Ev.xs H7) vs es := pr5.mono fun v a h => by
      obtain ⟨g, eg, hg⟩ := h
      have ng : g ≠ p := ne_of hg k5 (by intro z; cases z)
      exact ⟨g, eg, off7 _ _ (off6 _ _ hg ng) ng⟩
    have off77 : ∀ b o, H b = some o → b ≠ p → H7 b = some o := fun b o e nb => off7 _ _ (off6 _ _ (off5 _ _ e nb) nb) nb
    have lv : vs.length = i := by rw [pr5.length, l5]
    -- one event more
    have fin : ∀ (G : Addr) (ev : Ev) (H8 : Hp) (op' mk' : Int) (C : VK), Same H7 H8 → H8 G = some (.tup ev.xs) → ev.ok → 0 ≤ op' → op' ≤ ((i + 1 : Nat) : Int) → 0 ≤ mk' → mk' ≤ ((i + 1 : Nat) : Int) →
        (∀ H', (∃ L' t' vs es op mk a b e, [some (V.ref p), some (V.ref D), some (.bl (decide (d1 = 0))), some (.int op'), some (.int mk'), some (.int (0 + (i : Nat))), some (.int dw), some (.int dn)] = [some (.ref p), some (.ref D), some (.bl (decide (d1 = 0))), some (.int op), some (.int mk), a, b, e] ∧ 0 ≤ L' ∧ t ≤ t' ∧ t' ≤ t + 8 + 8 * ((i + 1 : Nat) : Int) ∧ (∀ b o, H b = some o → b ≠ p → H' b = some o) ∧ H' p = some (.dK (stK L' c t')) ∧ H' D = some (.lst vs) ∧ Paired (TR Ev.xs H') vs es ∧ (∀ e ∈ es, e.ok) ∧ es.length = i + 1 ∧ 0 ≤ op ∧ op ≤ ((i + 1 : Nat) : Int) ∧ 0 ≤ mk ∧ mk ≤ ((i + 1 : Nat) : Int)) → C .non H') →
        rAppend (.ref D) [.ref G] H8 C := fun G ev H8 op' mk' C s8 hG okE p0 p1 q0 q1 hC => by
      refine app_TR (f := Ev.xs) (e := ev) (s8 _ _ kD7) ((firm_TR _).all (sT s8) pr7) (by omega) hG fun H9 h9 p9 u9 => hC H9 ⟨L7, t7, _, _, op', mk', _, _, _, rfl, f3, by omega, by omega, fun b o e nb => ?_, (u9 p (Ne.symm nDp)).trans (s8 _ _ k7), h9, p9, fun e he => ?_, by simp [l5], p0, p1, q0, q1⟩
      · have n9 : b ≠ D := ne_of_none e nD
        exact (u9 b n9).trans (s8 _ _ (off77 b o e nb))
      · rcases List.mem_append.mp he with h | h
        · exact ok5 e h
        · rw [List.mem_singleton.mp h]
          exact okE
    walk_at "y"
    by_cases w2 : dw < 2
    · walk_at "y"
      refine ⟨tyL kD7, ?_⟩
      walk_at "y"
      by_cases hr : d1 = 0
      · walk_at "y"
        refine ⟨sz4 (by simp), fun G nG => ?_⟩
        have sH8 := same_upd (H := H7) (o := .tup [.str "open", .int op]) nG
        have eG := upd_same (H := H7) (a := G) (o := .tup [.str "open", .int op])
        generalize upd H7 G (.tup [.str "open", .int op]) = H8 at sH8 eG ⊢
        walk_at "y"
        refine fin G (.op op) H8 (op + 1) (mk) _ sH8 eG ⟨(by omega : (0 : Int) ≤ op), (by omega : op ≤ (1000 : Int))⟩ (by omega) (by omega) (by omega) (by omega) fun H' h => ?_
        walk_at "y"
        exact h
      · walk_at "y"
        refine ⟨sz4 (by simp), fun G nG => ?_⟩
        have sH8 := same_upd (H := H7) (o := .tup [.str "open", .int dn]) nG
        have eG := upd_same (H := H7) (a := G) (o := .tup [.str "open", .int dn])
        generalize upd H7 G (.tup [.str "open", .int dn]) = H8 at sH8 eG ⊢
        walk_at "y"
        refine fin G (.op dn) H8 (op + 1) (mk) _ sH8 eG ⟨(by omega : (0 : Int) ≤ dn), (by omega : dn ≤ (1000 : Int))⟩ (by omega) (by omega) (by omega) (by omega) fun H' h => ?_
        walk_at "y"
        exact h
    by_cases w4 : dw < 4
    · walk_at "y"
      refine ⟨tyL kD7, ?_⟩
      walk_at "y"
      by_cases hr : d1 = 0
      · walk_at "y"
        refine ⟨_, _, rfl, ?_⟩
        walk_at "y"
        have mp : (0 : Int) < (if (1 : Int) > op then 1 else op) := by split <;> omega
        refine rI_i mp ?_
        have mq := Int.emod_nonneg dn (show (if (1 : Int) > op then 1 else op) ≠ 0 by omega)
        have mr := Int.emod_lt_of_pos dn mp
        have ms : (if (1 : Int) > op then 1 else op) ≤ 17 := by split <;> omega
        walk_at "y"
        refine ⟨sz4 (by simp), fun G nG => ?_⟩
        have sH8 := same_upd (H := H7) (o := .tup [.str "shut", .int (dn % (if (1 : Int) > op then 1 else op))]) nG
        have eG := upd_same (H := H7) (a := G) (o := .tup [.str "shut", .int (dn % (if (1 : Int) > op then 1 else op))])
        generalize upd H7 G (.tup [.str "shut", .int (dn % (if (1 : Int) > op then 1 else op))]) = H8 at sH8 eG ⊢
        walk_at "y"
        refine fin G (.sh (dn % (if (1 : Int) > op then 1 else op))) H8 (op) (mk) _ sH8 eG ⟨(by omega : (0 : Int) ≤ (dn % (if (1 : Int) > op then 1 else op))), (by omega : (dn % (if (1 : Int) > op then 1 else op)) ≤ (1000 : Int))⟩ (by omega) (by omega) (by omega) (by omega) fun H' h => ?_
        walk_at "y"
        exact h
      · walk_at "y"
        refine ⟨sz4 (by simp), fun G nG => ?_⟩
        have sH8 := same_upd (H := H7) (o := .tup [.str "shut", .int dn]) nG
        have eG := upd_same (H := H7) (a := G) (o := .tup [.str "shut", .int dn])
        generalize upd H7 G (.tup [.str "shut", .int dn]) = H8 at sH8 eG ⊢
        walk_at "y"
        refine fin G (.sh dn) H8 (op) (mk) _ sH8 eG ⟨(by omega : (0 : Int) ≤ dn), (by omega : dn ≤ (1000 : Int))⟩ (by omega) (by omega) (by omega) (by omega) fun H' h => ?_
        walk_at "y"
        exact h
    by_cases w5 : dw = 4
    · walk_at "y"
      refine ⟨tyL kD7, ?_⟩
      walk_at "y"
      by_cases hr : d1 = 0
      · walk_at "y"
        refine ⟨sz4 (by simp), fun G nG => ?_⟩
        have sH8 := same_upd (H := H7) (o := .tup [.str "fault", .int mk, .str "Error", .str "x"]) nG
        have eG := upd_same (H := H7) (a := G) (o := .tup [.str "fault", .int mk, .str "Error", .str "x"])
        generalize upd H7 G (.tup [.str "fault", .int mk, .str "Error", .str "x"]) = H8 at sH8 eG ⊢
        walk_at "y"
        refine fin G (.fa mk) H8 (op) (mk + 1) _ sH8 eG ⟨(by omega : (0 : Int) ≤ mk), (by omega : mk ≤ (1000 : Int))⟩ (by omega) (by omega) (by omega) (by omega) fun H' h => ?_
        walk_at "y"
        exact h
      · walk_at "y"
        refine ⟨sz4 (by simp), fun G nG => ?_⟩
        have sH8 := same_upd (H := H7) (o := .tup [.str "fault", .int dn, .str "Error", .str "x"]) nG
        have eG := upd_same (H := H7) (a := G) (o := .tup [.str "fault", .int dn, .str "Error", .str "x"])
        generalize upd H7 G (.tup [.str "fault", .int dn, .str "Error", .str "x"]) = H8 at sH8 eG ⊢
        walk_at "y"
        refine fin G (.fa dn) H8 (op) (mk + 1) _ sH8 eG ⟨(by omega : (0 : Int) ≤ dn), (by omega : dn ≤ (1000 : Int))⟩ (by omega) (by omega) (by omega) (by omega) fun H' h => ?_
        walk_at "y"
        exact h
    walk_at "y"
    refine ⟨tyL kD7, ?_⟩
    walk_at "y"
    refine ⟨sz4 (by simp), fun G1 nG1 => ?_⟩
    have sH8 := same_upd (H := H7) (o := .tup [.str "note", .int (0 + (i : Nat))]) nG1
    have eG1 := upd_same (H := H7) (a := G1) (o := .tup [.str "note", .int (0 + (i : Nat))])
    generalize upd H7 G1 (.tup [.str "note", .int (0 + (i : Nat))]) = H8 at sH8 eG1 ⊢
    walk_at "y"
    refine ⟨sz4 (by simp), fun G2 nG2 => ?_⟩
    have sH9 := same_upd (H := H8) (o := .tup [.str "show", .str "a", .non]) nG2
    have eG2 := upd_same (H := H8) (a := G2) (o := .tup [.str "show", .str "a", .non])
    generalize upd H8 G2 (.tup [.str "show", .str "a", .non]) = H9 at sH9 eG2 ⊢
    walk_at "y"
    refine ⟨sz4 (by simp), fun G3 nG3 => ?_⟩
    have sHA := same_upd (H := H9) (o := .lst [.ref G1, .ref G2]) nG3
    have eG3 := upd_same (H := H9) (a := G3) (o := .lst [.ref G1, .ref G2])
    generalize upd H9 G3 (.lst [.ref G1, .ref G2]) = HA at sHA eG3 ⊢
    walk_at "y"
    have s7A := (sH8.trans sH9).trans sHA
    rcases (show dw = 5 ∨ dw = 6 by omega) with e | e <;> subst e
    · refine rGet_l (n := 0) (SqL.of eG3) rfl ?_
      walk_at "y"
      refine fin G1 (.no (0 + (i : Nat))) HA op mk _ s7A (sHA _ _ (sH9 _ _ eG1)) ⟨(by omega : (0 : Int) ≤ (0 + (i : Nat))), (by omega : (0 + (i : Nat)) ≤ (1000 : Int))⟩ (by omega) (by omega) (by omega) (by omega) fun H' h => ?_
      walk_at "y"
      exact h
    · refine rGet_l (n := 1) (SqL.of eG3) rfl ?_
      walk_at "y"
      refine fin G2 .sw HA op mk _ s7A (sHA _ _ eG2) ⟨by decide, by decide⟩ (by omega) (by omega) (by omega) (by omega) fun H' h => ?_
      walk_at "y"
      exact h
  · obtain ⟨L5, t5, vs, es, op, mk, s1, s2, s3, rfl, c1, c2, c3, off5, k5, kD5, pr5, ok5, l5, o0, o1, m0, m1⟩ := hp'
    walk_at "y"
    exact q D vs es L5 t5 H' off5 k5 c1 c2 (by omega) nD kD5 pr5 ok5 (by omega)
end
end L76
namespace L76
open PySem PySem.Spec PyProof.Rows L2
variable {gd : Bool}
local macro_rules | `(tactic| walk_at "y1") => `(tactic| with_reducible first
  | refine tSeq_i ?_ | refine tAsg_i ?_ | refine tCons_i ?_ | refine tNil_i ?_ | refine tC_i ?_ | refine tOp_i ?_ | refine tIfS_i ?_ | refine tTest_i ?_ | refine exBl_i ?_ | refine tRet_i ?_ | refine tCall_i ?_
  | refine tCB_i ?_ | refine tLst_i ?_ | refine tTup_i ?_ | refine rI0_i ?_ | refine tDrop_i ?_ | refine tNext_i ?_ | refine tB_i ?_ | refine tAnd_i ?_ | refine tOr_i ?_ | refine tNot_i ?_ | refine tAndV_i ?_ | refine tOrV_i ?_ | refine tNotV_i ?_
  | refine tYes_i ?_ | refine tTM_i ?_ | refine tPar_i ?_ | refine tSl_i ?_ | refine tNoPart_i ?_ | refine tPart_i ?_ | refine part_i ?_ | refine tMake_i ?_ | refine tProp_i ?_ | refine tCallOG_i ?_ | refine tVeI_i ?_ | refine tOst_i ?_ | refine tMkO_i ?_ | refine sFld_i ?_ | refine fldaug_i ?_ | refine gCons_i ?_ | refine gNil_i ?_ | refine tChain_i ?_ | refine tBM_i ?_ | refine rAdd2_i ?_ | refine rLe2_i ?_ | refine rEq2_i ?_ | refine rEq2_ss ?_ | refine rNe2_i ?_ | refine rNe2_ss ?_ | refine rIsN_i ?_ | refine rNotN_i ?_ | refine tTup_i2 ?_ | refine tIf_i ?_ | refine tUn_i ?_ | refine tDGet_i ?_ | refine sDPut_i ?_ | refine tFld_i ?_ | refine tRetN_i ?_ | refine tBreak_i ?_ | refine tCont_i ?_ | refine rU_i ?_)
local macro_rules | `(tactic| walk_at "yhead") => `(tactic| dsimp only [L2.start, List.map, List.length_cons, List.length_nil, Nat.reduceAdd, Nat.reduceSub, List.replicate, List.cons_append, List.nil_append])
local macro_rules | `(tactic| walk_at "y2") => `(tactic| first
  | walk_at "y1"
  | ((with_reducible refine tVar_i (v := ?v) ?h ?q); (case h => rfl))
  | ((with_reducible refine gName_i ?_); (dsimp only [L2.wipe, List.set]))
  | with_reducible refine iteT ?_ | with_reducible refine iteF ?_ | with_reducible refine iteNT ?_ | with_reducible refine iteNF ?_
  | ((with_reducible refine iteDT ?h ?q); (case h => first | decide +kernel | omega | assumption | exact nv1 | exact nv2 | exact nv3 | exact nv4)) | ((with_reducible refine iteDF ?h ?q); (case h => first | decide +kernel | omega | assumption | exact nv1 | exact nv2 | exact nv3 | exact nv4))
  | ((with_reducible refine iteNDT ?h ?q); (case h => first | decide +kernel | omega | assumption | exact nv1 | exact nv2 | exact nv3 | exact nv4)) | ((with_reducible refine iteNDF ?h ?q); (case h => first | decide +kernel | omega | assumption | exact nv1 | exact nv2 | exact nv3 | exact nv4))
  | ((with_reducible refine rIsi2_1 (T := ?T) (b := true) ?ty ?h ?q); (case ty => first | exact ty_str | exact ty_int | exact ty_bl | exact ty_non); (case h => decide +kernel))
  | ((with_reducible refine rIsi2_1 (T := ?T) (b := false) ?ty ?h ?q); (case ty => first | exact ty_str | exact ty_int | exact ty_bl | exact ty_non); (case h => decide +kernel))
  | ((with_reducible refine rEq2_s ?h ?q); (case h => rfl)) | ((with_reducible refine rNe2_s ?h ?q); (case h => rfl))
  | ((with_reducible refine rEq_i ?h ?q); (case h => rfl)) | ((with_reducible refine rNe_i ?h ?q); (case h => rfl)))
local macro_rules | `(tactic| walk_at "y") => `(tactic| repeat walk_at "y2")
section
variable {P : Program} {w : World} {K : PySem.W.Frag} {mg : Str → Option Value} {base : Heap}
theorem step_nodup (s : WSt) (e : Ev) (h : s.opn.Nodup) : (s.step e).opn.Nodup := by
  cases e with
  | op n =>
    show (if n ∈ s.opn then s.opn else s.opn ++ [n]).Nodup
    split
    · exact h
    · rename_i hn
      rw [List.nodup_append]
      exact ⟨h, by simp, fun a ha b hb => by rw [List.mem_singleton.mp hb]; exact fun z => hn (z ▸ ha)⟩
  | sh n => exact h.filter _
  | _ => exact h
theorem stAt_nodup (es : List Ev) : ∀ i, (stAt es i).opn.Nodup
  | 0 => List.nodup_nil
  | i + 1 => by
    cases h : es[i]? with
    | some e => rw [stAt_succ h]; exact step_nodup _ _ (stAt_nodup es i)
    | none =>
      have hl := List.getElem?_eq_none_iff.mp h
      have e1 : stAt es (i + 1) = stAt es i := by unfold stAt; rw [List.take_of_length_le (by omega), List.take_of_length_le (by omega)]
      rw [e1]
      exact stAt_nodup es i
theorem nodup_erase {l : List Int} {n : Int} : ∀ {j : Nat}, l.Nodup → l[j]? = some n → l.eraseIdx j = l.filter fun m => decide (m ≠ n) := by
  induction l with
  | nil => intro j _ h; simp at h
  | cons a l ih =>
    intro j hd hj
    rw [List.nodup_cons] at hd
    cases j with
    | zero =>
      simp at hj
      subst hj
      rw [List.eraseIdx_cons_zero, List.filter_cons]
      rw [if_neg (by simp)]
      exact (List.filter_eq_self.mpr fun b hb => decide_eq_true (p := b ≠ a) (fun z => hd.1 (z ▸ hb))).symm
    | succ j =>
      simp at hj
      rw [List.eraseIdx_cons_succ, List.filter_cons, ih hd.2 (by simpa using hj)]
      have : a ≠ n := fun z => hd.1 (z ▸ List.mem_of_getElem? (by simpa using hj))
      rw [if_pos (decide_eq_true this)]
theorem idx_first {n : Int} : ∀ {l : List Int} {m : Nat}, m < l.idxOf n → l[m]? ≠ some n
  | [], m, h => by simp
  | a :: l, m, h => by
    rw [List.idxOf_cons] at h
    by_cases e : a = n
    · rw [show (a == n) = true by simpa using e, cond_true] at h
      exact absurd h (Nat.not_lt_zero _)
    · cases m with
      | zero => simpa using e
      | succ m =>
        rw [show (a == n) = false by simpa using e, cond_false] at h
        simpa using idx_first (l := l) (m := m) (by omega)
/-- a list of ints that stands -/
def LR (H0 : Hp) : Hp → V → List Int → Prop := fun H v ns => ∃ a, v = .ref a ∧ H0 a = none ∧ H a = some (.lst (ns.map V.int))
def statesOf (es : List Ev) : List (List Int) := (List.range (es.length + 1)).map fun i => (stAt es i).opn
def spStates : Sp := sp1 fun x H Q _ => ∃ b p es, x = .ref p ∧ LogAt b H p es ∧ ∀ D us H', H D = none → Same H H' → H' D = some (.lst us) → Paired (LR H H') us (statesOf es) → Q (.ref D) H'
theorem sc__law_states : FnScope ["_law_log_here", "_law_found", "_law_event", "_law_now"] ["_law_log_here"] (defScope (top 33)) := ⟨rfl, rfl, rfl, by decide +kernel, rfl, by decide +kernel, by decide +kernel⟩
theorem c__law_states (T : Sy K mg) : Cal gd P w K mg base CX0 1 "_law_states" spStates := by
  refine T.cal (F_law_states T) sc__law_states sp1_len (fun cdv f A outer s H vs Q E z h => ?_) (fun _ _ _ _ _ _ us hl => match us, hl with | [_], _ => rfl)
  have hu1 := hu_1 z; have hu2 := hu_2 z; have hu3 := hu_3 z
  obtain ⟨x0, rfl, h⟩ := h
  obtain ⟨b, p, es, rfl, lg, q⟩ := h
  refine ⟨_, (pss_cons (ps_set (i := 1) sc__law_states.nd rfl (by first | exact Or.inl rfl | exact Or.inr rfl) (pe_lst (pa_cons (pe_lst pa_nil) pa_nil))) (pss_cons (ps_for PassesOwn.never (by rfl) (pi_anyK (K := K) rfl (pv 0)) (pg_name (i := 2) sc__law_states.nd rfl (by first | exact Or.inl rfl | exact Or.inr rfl)) (pss_cons (ps_set (i := 3) sc__law_states.nd rfl (by first | exact Or.inl rfl | exact Or.inr rfl) (pe_callTy (r := rListOf K) call_listOf (by rfl) (T.free "list") (by decide +kernel) (pa_cons (pe_ix (r := rGet K) (ix_get hu3) (pv 1) (pe_un un_neg pe_int) (fun _ _ => rfl)) pa_nil))) (pss_cons (ps_if (PW.pt (pw_and (pt_cmpR (r := rEq2 K) (op_eq2 hu1) (pe_ix (r := rGet K) (ix_get hu3) (pv 2) pe_int (fun _ _ => rfl)) pe_str (nomark _)) (pw_and1 (pt_cmpR (r := rNotIn2 K) (op_notIn2 hu2) (pe_ix (r := rGet K) (ix_get hu3) (pv 2) pe_int (fun _ _ => rfl)) (pv 3) rfl)))) (pss_one (ps_expr (pe_bmK (K := K) rfl PySem.F.plainAttrs_list PySem.F.slot_list_append PySem.F.type_list_append mt_append2 (pv 3) (pa_cons (pe_ix (r := rGet K) (ix_get hu3) (pv 2) pe_int (fun _ _ => rfl)) pa_nil)))) pss_nil) (pss_cons (ps_if (PW.pt (pw_and (pt_cmpR (r := rEq2 K) (op_eq2 hu1) (pe_ix (r := rGet K) (ix_get hu3) (pv 2) pe_int (fun _ _ => rfl)) pe_str (nomark _)) (pw_and1 (pt_cmpR (r := rIn2 K) (op_in2 hu2) (pe_ix (r := rGet K) (ix_get hu3) (pv 2) pe_int (fun _ _ => rfl)) (pv 3) rfl)))) (pss_one (ps_expr (pe_bmK (K := K) rfl PySem.F.plainAttrs_list PySem.F.slot_list_remove PySem.F.type_list_remove mt_remove2 (pv 3) (pa_cons (pe_ix (r := rGet K) (ix_get hu3) (pv 2) pe_int (fun _ _ => rfl)) pa_nil)))) pss_nil) (pss_one (ps_expr (pe_bmK (K := K) rfl PySem.F.plainAttrs_list PySem.F.slot_list_append PySem.F.type_list_append mt_append2 (pv 1) (pa_cons (pv 3) pa_nil)))))))) (pss_one (ps_ret (pv 1))))), ?_⟩
  obtain ⟨vs, h1, h2, ok, hl⟩ := id lg
  have ll : vs.length = es.length := h2.length
  walk_at "yhead"; walk_at "y"
  refine ⟨sz4 (by simp), fun E0' nE0' => ?_⟩
  have sH1 := same_upd (H := H) (o := .lst []) nE0'
  have eE0' := upd_same (H := H) (a := E0') (o := .lst [])
  generalize upd H E0' (.lst []) = H1 at sH1 eE0' ⊢
  walk_at "y"
  refine ⟨sz4 (by simp), fun D nD => ?_⟩
  have sH2 := same_upd (H := H1) (o := .lst [.ref E0']) nD
  have eD := upd_same (H := H1) (a := D) (o := .lst [.ref E0'])
  generalize upd H1 D (.lst [.ref E0']) = H2 at sH2 eD ⊢
  walk_at "y"
  have s2 := sH1.trans sH2
  have nD0 : H D = none := sH1.free nD
  refine for_b b ?_
  walk_at "y"
  refine ⟨p, rfl, ⟨vs, SqB.of (s2 _ _ h1)⟩, for_it walk_b (Pv := fun i σ H' => ∃ us a e, σ = [some (.ref p), some (.ref D), a, e] ∧ Same H H' ∧ H' D = some (.lst us) ∧ Paired (fun v ns => ∃ a, v = .ref a ∧ a ≠ D ∧ H a = none ∧ H' a = some (.lst (ns.map V.int))) us ((List.range (i + 1)).map fun j => (stAt es j).opn)) ⟨[.ref E0'], none, none, rfl, s2, eD, .cons ⟨E0', rfl, ne_of_none eE0' nD, nE0', sH2 _ _ eE0'⟩ .nil⟩ (fun i σ H' _ hp => let ⟨_, _, _, _, s, _⟩ := hp; s _ _ h1) (fun i v σ H30 H3 hi hp y => ?_) fun σ H' hp => ?_⟩
  · obtain ⟨us, s1, s2', rfl, s3, hD3, pr⟩ := hp
    obtain ⟨rfl, e2⟩ := y
    obtain ⟨t, ev, rfl, e3, e4⟩ := LogAt.get (b := b) (p := p) ((firm_TR _).all (sT s3) h2) e2
    have lus : us.length = i + 1 := by rw [pr.length]; simp
    obtain ⟨u, hu, a0, rfl, na0, _, ha0⟩ := paired_at pr (i := i) (y := (stAt es i).opn) (by simp)
    walk_at "y"
    refine rGet_at (v := .ref a0) (SqL.of hD3) (by
      unfold atI ixN
      rw [if_neg (by decide), if_pos (by omega), lus]
      show us[((-1 : Int) + ((i + 1 : Nat) : Int)).toNat]? = _
      rw [show ((-1 : Int) + ((i + 1 : Nat) : Int)).toNat = i by omega]
      exact hu) ?_
    walk_at "y"
    refine ⟨a0, _, rfl, .inl (SqL.of ha0), fun N nN => ?_⟩
    have sH4 := same_upd (H := H3) (o := .lst ((stAt es i).opn.map V.int)) nN
    have eN := upd_same (H := H3) (a := N) (o := .lst ((stAt es i).opn.map V.int))
    generalize upd H3 N (.lst ((stAt es i).opn.map V.int)) = H4 at sH4 eN ⊢
    have e44 := sH4 _ _ e4
    have hD4 := sH4 _ _ hD3
    have nND : N ≠ D := Ne.symm (ne_of_none hD3 nN)
    have nNt : t ≠ N := ne_of_none e4 nN
    have fin : ∀ (H5 : Hp) (ns : List Int) (C : VK), H5 N = some (.lst (ns.map V.int)) → ns = (stAt es (i + 1)).opn → (∀ b, b ≠ N → H5 b = H4 b) → (∀ H', Same H H' ∧ H' D = some (.lst (us ++ [.ref N])) ∧ Paired (fun v ns => ∃ a, v = .ref a ∧ a ≠ D ∧ H a = none ∧ H' a = some (.lst (ns.map V.int))) (us ++ [.ref N]) ((List.range (i + 1 + 1)).map fun j => (stAt es j).opn) → C .non H') → rAppend (.ref D) [.ref N] H5 C := fun H5 ns C hN en u5 hC => by
      have hD5 := (u5 D (Ne.symm nND)).trans hD4
      refine app_i hD5 (Nat.lt_of_lt_of_le (show us.length < 18 by omega) (sz4 (n := 18))) (hC _ ⟨fun b o e => ?_, upd_same, ?_⟩)
      · have n1 := ne_of_none e nD0
        have n2 := ne_of_none (s3 _ _ e) nN
        rw [upd_ne n1, u5 b n2]
        exact sH4 _ _ (s3 _ _ e)
      · rw [List.range_succ, List.map_append]
        refine paired_append (pr.mono fun v ns h => ?_) (.cons ⟨N, rfl, nND, s3.free nN, by rw [upd_ne nND, hN, en]⟩ .nil)
        obtain ⟨a, ea, na, n0, ha⟩ := h
        exact ⟨a, ea, na, n0, by rw [upd_ne na, u5 a (ne_of_none ha nN)]; exact sH4 _ _ ha⟩
    walk_at "y"
    cases ev with
    | op n =>
      refine rGet_t (n := 0) (SqT.of e44) rfl ?_
      walk_at "y"
      refine rGet_t (n := 1) (SqT.of e44) rfl ?_
      walk_at "y"
      refine rNotIn2_f (b := true) (SqL.of eN) rfl (flat_ints _) ?_
      rw [inV_ints]
      by_cases c : n ∈ (stAt es i).opn
      · walk_at "y"
        refine rGet_t (n := 0) (SqT.of e44) rfl ?_
        walk_at "y"
        refine ⟨tyL hD4, ?_⟩
        walk_at "y"
        exact fin H4 _ _ eN (by rw [stAt_succ e3]; exact (if_pos c).symm) (fun _ _ => rfl) fun H' h => ⟨_, _, _, rfl, h⟩
      · walk_at "y"
        refine ⟨tyL eN, ?_⟩
        walk_at "y"
        refine rGet_t (n := 1) (SqT.of e44) rfl ?_
        walk_at "y"
        have ho := stAt_opn es i
        refine appU_i eN (by rw [List.length_map]; exact Nat.lt_of_lt_of_le (show _ < 18 by omega) (sz4 (n := 18))) fun H5 hN5 u5 => ?_
        rw [show (stAt es i).opn.map V.int ++ [V.int n] = ((stAt es i).opn ++ [n]).map V.int by simp] at hN5
        have e45 := (u5 t nNt).trans e44
        walk_at "y"
        refine rGet_t (n := 0) (SqT.of e45) rfl ?_
        walk_at "y"
        refine ⟨tyL ((u5 D (Ne.symm nND)).trans hD4), ?_⟩
        walk_at "y"
        exact fin H5 _ _ hN5 (by rw [stAt_succ e3]; exact (if_neg c).symm) u5 fun H' h => ⟨_, _, _, rfl, h⟩
    | sh n =>
      refine rGet_t (n := 0) (SqT.of e44) rfl ?_
      walk_at "y"
      refine rGet_t (n := 0) (SqT.of e44) rfl ?_
      walk_at "y"
      refine rGet_t (n := 1) (SqT.of e44) rfl ?_
      walk_at "y"
      refine rIn2_f (b := true) (SqL.of eN) rfl (flat_ints _) ?_
      rw [inV_ints]
      by_cases c : n ∈ (stAt es i).opn
      · walk_at "y"
        refine ⟨tyL eN, ?_⟩
        walk_at "y"
        refine rGet_t (n := 1) (SqT.of e44) rfl ?_
        walk_at "y"
        have hj : (stAt es i).opn[(stAt es i).opn.idxOf n]? = some n := by
          rw [List.getElem?_eq_getElem (List.idxOf_lt_length_iff.mpr c), List.getElem_idxOf]
        refine ⟨N, _, n, (stAt es i).opn.idxOf n, rfl, rfl, eN, hj, fun m hm z => ?_, ?_⟩
        · exact idx_first hm z
        · rw [nodup_erase (stAt_nodup es i) hj]
          have u5 : ∀ b, b ≠ N → upd H4 N (.lst (((stAt es i).opn.filter fun m => decide (m ≠ n)).map V.int)) b = H4 b := fun b nb => upd_ne nb
          walk_at "y"
          refine ⟨tyL ((u5 D (Ne.symm nND)).trans hD4), ?_⟩
          walk_at "y"
          exact fin _ _ _ upd_same (by rw [stAt_succ e3]; rfl) u5 fun H' h => ⟨_, _, _, rfl, h⟩
      · walk_at "y"
        refine ⟨tyL hD4, ?_⟩
        walk_at "y"
        refine fin H4 _ _ eN ?_ (fun _ _ => rfl) fun H' h => ⟨_, _, _, rfl, h⟩
        rw [stAt_succ e3]
        exact (List.filter_eq_self.mpr fun b hb => decide_eq_true (p := b ≠ n) (fun z => c (z ▸ hb))).symm
    | fa n =>
      refine rGet_t (n := 0) (SqT.of e44) rfl ?_
      walk_at "y"
      refine rGet_t (n := 0) (SqT.of e44) rfl ?_
      walk_at "y"
      refine ⟨tyL hD4, ?_⟩
      walk_at "y"
      exact fin H4 _ _ eN (by rw [stAt_succ e3]; rfl) (fun _ _ => rfl) fun H' h => ⟨_, _, _, rfl, h⟩
    | no n =>
      refine rGet_t (n := 0) (SqT.of e44) rfl ?_
      walk_at "y"
      refine rGet_t (n := 0) (SqT.of e44) rfl ?_
      walk_at "y"
      refine ⟨tyL hD4, ?_⟩
      walk_at "y"
      exact fin H4 _ _ eN (by rw [stAt_succ e3]; rfl) (fun _ _ => rfl) fun H' h => ⟨_, _, _, rfl, h⟩
    | sw =>
      refine rGet_t (n := 0) (SqT.of e44) rfl ?_
      walk_at "y"
      refine rGet_t (n := 0) (SqT.of e44) rfl ?_
      walk_at "y"
      refine ⟨tyL hD4, ?_⟩
      walk_at "y"
      exact fin H4 _ _ eN (by rw [stAt_succ e3]; rfl) (fun _ _ => rfl) fun H' h => ⟨_, _, _, rfl, h⟩
  · obtain ⟨us, s1, s2', rfl, s3, hD3, pr⟩ := hp
    walk_at "y"
    rw [ll] at pr
    exact q D us H' nD0 s3 hD3 (pr.mono fun v ns h => let ⟨a, e, _, n0, k⟩ := h; ⟨a, e, n0, k⟩)
end
end L76
namespace L76
open PySem PySem.Spec PyProof.Rows L2
variable {gd : Bool}
local macro_rules | `(tactic| walk_at "y1") => `(tactic| with_reducible first
  | refine tSeq_i ?_ | refine tAsg_i ?_ | refine tCons_i ?_ | refine tNil_i ?_ | refine tC_i ?_ | refine tOp_i ?_ | refine tIfS_i ?_ | refine tTest_i ?_ | refine exBl_i ?_ | refine tRet_i ?_ | refine tCall_i ?_
  | refine tCB_i ?_ | refine tLst_i ?_ | refine tTup_i ?_ | refine rI0_i ?_ | refine tDrop_i ?_ | refine tNext_i ?_ | refine tB_i ?_ | refine tAnd_i ?_ | refine tOr_i ?_ | refine tNot_i ?_ | refine tAndV_i ?_ | refine tOrV_i ?_ | refine tNotV_i ?_
  | refine tYes_i ?_ | refine tTM_i ?_ | refine tPar_i ?_ | refine tSl_i ?_ | refine tNoPart_i ?_ | refine tPart_i ?_ | refine part_i ?_ | refine tMake_i ?_ | refine tProp_i ?_ | refine tCallOG_i ?_ | refine tVeI_i ?_ | refine tOst_i ?_ | refine tMkO_i ?_ | refine sFld_i ?_ | refine fldaug_i ?_ | refine gCons_i ?_ | refine gNil_i ?_ | refine tChain_i ?_ | refine tBM_i ?_ | refine rAdd2_i ?_ | refine rLe2_i ?_ | refine rEq2_i ?_ | refine rEq2_ss ?_ | refine rNe2_i ?_ | refine rNe2_ss ?_ | refine rIsN_i ?_ | refine rNotN_i ?_ | refine tTup_i2 ?_ | refine tIf_i ?_ | refine tUn_i ?_ | refine tDGet_i ?_ | refine sDPut_i ?_ | refine tFld_i ?_ | refine tRetN_i ?_ | refine tBreak_i ?_ | refine tCont_i ?_ | refine rU_i ?_)
local macro_rules | `(tactic| walk_at "yhead") => `(tactic| dsimp only [L2.start, List.map, List.length_cons, List.length_nil, Nat.reduceAdd, Nat.reduceSub, List.replicate, List.cons_append, List.nil_append])
local macro_rules | `(tactic| walk_at "y2") => `(tactic| first
  | walk_at "y1"
  | ((with_reducible refine tVar_i (v := ?v) ?h ?q); (case h => rfl))
  | ((with_reducible refine gName_i ?_); (dsimp only [L2.wipe, List.set]))
  | with_reducible refine iteT ?_ | with_reducible refine iteF ?_ | with_reducible refine iteNT ?_ | with_reducible refine iteNF ?_
  | ((with_reducible refine iteDT ?h ?q); (case h => first | decide +kernel | omega | assumption | exact nv1 | exact nv2 | exact nv3 | exact nv4)) | ((with_reducible refine iteDF ?h ?q); (case h => first | decide +kernel | omega | assumption | exact nv1 | exact nv2 | exact nv3 | exact nv4))
  | ((with_reducible refine iteNDT ?h ?q); (case h => first | decide +kernel | omega | assumption | exact nv1 | exact nv2 | exact nv3 | exact nv4)) | ((with_reducible refine iteNDF ?h ?q); (case h => first | decide +kernel | omega | assumption | exact nv1 | exact nv2 | exact nv3 | exact nv4))
  | ((with_reducible refine rIsi2_1 (T := ?T) (b := true) ?ty ?h ?q); (case ty => first | exact ty_str | exact ty_int | exact ty_bl | exact ty_non); (case h => decide +kernel))
  | ((with_reducible refine rIsi2_1 (T := ?T) (b := false) ?ty ?h ?q); (case ty => first | exact ty_str | exact ty_int | exact ty_bl | exact ty_non); (case h => decide +kernel))
  | ((with_reducible refine rEq2_s ?h ?q); (case h => rfl)) | ((with_reducible refine rNe2_s ?h ?q); (case h => rfl))
  | ((with_reducible refine rEq_i ?h ?q); (case h => rfl)) | ((with_reducible refine rNe_i ?h ?q); (case h => rfl)))
local macro_rules | `(tactic| walk_at "y") => `(tactic| repeat walk_at "y2")
section
variable {P : Program} {w : World} {K : PySem.W.Frag} {mg : Str → Option Value} {base : Heap}
def Ev.tag : Ev → Str | .op _ => "open" | .sh _ => "shut" | .fa _ => "fault" | .no _ => "note" | .sw => "show"
theorem Ev.head (e : Ev) : e.xs[0]? = some (.str e.tag) := by cases e <;> rfl
def cnt (es : List Ev) (t : Str) (i : Nat) : Nat := ((es.take i).filter fun e => decide (e.tag = t)).length
theorem cnt_succ {es : List Ev} {i : Nat} {e : Ev} (t : Str) (h : es[i]? = some e) : cnt es t (i + 1) = cnt es t i + if e.tag = t then 1 else 0 := by
  unfold cnt
  rw [List.take_succ, h]
  simp only [Option.toList_some, List.filter_append, List.length_append, List.filter_cons, List.filter_nil]
  by_cases q : e.tag = t <;> simp [q]
theorem tag_op (e : Ev) : (if e.tag = Str.ofString "open" then 1 else 0 : Nat) = (match e with | .op _ => 1 | _ => 0) := by
  cases e <;> simp only [Ev.tag] <;> first | rfl | (rw [if_neg (by decide +kernel)])
theorem tag_fa (e : Ev) : (if e.tag = Str.ofString "fault" then 1 else 0 : Nat) = (match e with | .fa _ => 1 | _ => 0) := by
  cases e <;> simp only [Ev.tag] <;> first | rfl | (rw [if_neg (by decide +kernel)])
theorem opened_cnt (es : List Ev) : ∀ i, i ≤ es.length → (stAt es i).opened = (cnt es "open" i : Nat) ∧ (stAt es i).made = (cnt es "fault" i : Nat)
  | 0, _ => ⟨rfl, rfl⟩
  | i + 1, h => by
    obtain ⟨h1, h2⟩ := opened_cnt es i (by omega)
    have e1 : es[i]? = some es[i] := List.getElem?_eq_getElem (by omega)
    rw [stAt_succ e1, cnt_succ _ e1, cnt_succ _ e1, tag_op, tag_fa]
    cases es[i] <;> simp only [WSt.step] <;> omega
theorem len_ones {α : Type} (p : α → Prop) [DecidablePred p] : ∀ l : List α, (l.filterMap fun e => if p e then some (1 : Int) else none).length = (l.filter fun e => decide (p e)).length
  | [] => rfl
  | a :: l => by
    have ih := len_ones p l
    by_cases h : p a <;> simp [h, ih]
theorem rSl2_b {lo hi : Option Int} {H : Hp} {a : Addr} {xs : List V} {Q : VK} : ∀ {b : Bool}, SqB K b H a xs → (∀ p H', SqB K b H' p (cutV xs lo hi) → Same H H' → Q (.ref p) H') → rSl2 K (.ref a) lo hi H Q
  | true, h, q => rSl2_l (N := fun _ _ => True) h fun p hp => q p _ (SqL.of upd_same) (same_upd hp)
  | false, h, q => rSl2_t h q
theorem walk_sb {a : Addr} {xs : List V} : ∀ {b : Bool}, Walk (itB K b a) xs.length (fun H => SqB K b H a xs) (YAt xs)
  | true => walk_list
  | false => walk_tup
theorem inOF {n : Str} : inV (.str n) [.str "open", .str "fault"] = (decide (Str.ofString "open" = n) || decide (Str.ofString "fault" = n)) := by
  unfold inV
  simp only [List.any_cons, List.any_nil, Bool.or_false]
  show (decide _ || decide _) = _
  rfl
theorem inOF_t (e : Ev) : inV (.str e.tag) [.str "open", .str "fault"] = (match e with | .op _ => true | .fa _ => true | _ => false) := by
  rw [inOF]
  cases e with
  | op n => show (decide (Str.ofString "open" = Str.ofString "open") || decide (Str.ofString "fault" = Str.ofString "open")) = true; decide +kernel
  | sh n => show (decide (Str.ofString "open" = Str.ofString "shut") || decide (Str.ofString "fault" = Str.ofString "shut")) = false; decide +kernel
  | fa n => show (decide (Str.ofString "open" = Str.ofString "fault") || decide (Str.ofString "fault" = Str.ofString "fault")) = true; decide +kernel
  | no n => show (decide (Str.ofString "open" = Str.ofString "note") || decide (Str.ofString "fault" = Str.ofString "note")) = false; decide +kernel
  | sw => decide +kernel
theorem sc__law_flaws : FnScope ["_law_log_here", "_law_found", "_law_states_here", "_law_at", "_law_event", "_law_one", "_law_before"] ["_law_log_here"] (defScope (top 34)) := ⟨rfl, rfl, rfl, by decide +kernel, rfl, by decide +kernel, by decide +kernel⟩
theorem c__law_flaws (T : Sy K mg) : Cal gd P w K mg base CX0 2 "_law_flaws" spFlaws := by
  refine T.cal (F_law_flaws T) sc__law_flaws sp1_len (fun cdv f A outer s H vs Q E z h => ?_) (fun _ _ _ _ _ _ us hl => match us, hl with | [_], _ => rfl)
  have hu1 := hu_1 z; have hu2 := hu_2 z; have hu3 := hu_3 z
  obtain ⟨x0, rfl, h⟩ := h
  obtain ⟨b, p, es, rfl, lg, q⟩ := h
  refine ⟨_, (pss_cons (ps_par (i := 1) (j := 2) (by rfl) sc__law_flaws.nd rfl rfl (by decide) rfl rfl (pa_cons (pe_lst pa_nil) (pa_cons (pe_c (c__law_states T) z (pa_cons (pv 0) pa_nil)) pa_nil)) (by rfl)) (pss_cons (ps_for PassesOwn.never (by rfl) (pi_enum2K (K := K) rfl (by rfl) (T.free "enumerate") (pv 0)) (pg_tupK (K := K) rfl (by rfl) (pgs_cons (pg_name (i := 3) sc__law_flaws.nd rfl (by first | exact Or.inl rfl | exact Or.inr rfl)) (pgs_cons (pg_name (i := 4) sc__law_flaws.nd rfl (by first | exact Or.inl rfl | exact Or.inr rfl)) pgs_nil))) (pss_cons (ps_set (i := 6) sc__law_flaws.nd rfl (by first | exact Or.inl rfl | exact Or.inr rfl) (pe_callB (r := rLen2 K) call_len2 (by rfl) (T.free "len") (by decide +kernel) (pa_cons (pe_lc (own := [("_law_one", 5)]) (g := gName 5) (by rfl) sc__law_flaws.nd (pi_anyK (K := K) rfl (pe_slice (r := rSl2 K) sl_2 (pv 0) po_none (po_some (pv 3)))) (blkOk_by (own := [("_law_one", 5)]) (N := ["_law_log_here", "_law_found", "_law_states_here", "_law_at", "_law_event", "_law_one", "_law_before"]) (sc := (defScope (top 34))) (by decide +kernel)) (fun _ _ _ _ _ => (pg_name (i := 5) sc__law_flaws.nd rfl (by first | exact Or.inl rfl | exact Or.inr rfl))) (fun _ _ _ _ _ => pts_one (pt_cmpR (r := rEq2 K) (op_eq2 hu1) (pe_ix (r := rGet K) (ix_get hu3) (pv 5) pe_int (fun _ _ => rfl)) (pe_ix (r := rGet K) (ix_get hu3) (pv 4) pe_int (fun _ _ => rfl)) (nomark _))) (fun _ _ _ _ _ => pe_int)) pa_nil))) (pss_cons (ps_if (PW.pt (pw_and (pt_cmpR (r := rIn2 K) (op_in2 hu2) (pe_ix (r := rGet K) (ix_get hu3) (pv 4) pe_int (fun _ _ => rfl)) (pe_tup (pa_cons pe_str (pa_cons pe_str pa_nil))) rfl) (pw_and1 (pt_cmpR (r := rNe2 K) (op_ne2 hu1) (pe_ix (r := rGet K) (ix_get hu3) (pv 4) pe_int (fun _ _ => rfl)) (pv 6) (nomark _))))) (pss_one (ps_expr (pe_bmK (K := K) rfl PySem.F.plainAttrs_list PySem.F.slot_list_append PySem.F.type_list_append mt_append2 (pv 1) (pa_cons (pv 3) pa_nil)))) pss_nil) (pss_one (ps_if (PW.pt (pw_and (pt_cmpR (r := rEq2 K) (op_eq2 hu1) (pe_ix (r := rGet K) (ix_get hu3) (pv 4) pe_int (fun _ _ => rfl)) pe_str (nomark _)) (pw_and1 (pt_cmpR (r := rNotIn2 K) (op_notIn2 hu2) (pe_ix (r := rGet K) (ix_get hu3) (pv 4) pe_int (fun _ _ => rfl)) (pe_ix (r := rGet K) (ix_get hu3) (pv 2) (pv 3) (fun _ _ => rfl)) rfl)))) (pss_one (ps_expr (pe_bmK (K := K) rfl PySem.F.plainAttrs_list PySem.F.slot_list_append PySem.F.type_list_append mt_append2 (pv 1) (pa_cons (pv 3) pa_nil)))) pss_nil))))) (pss_one (ps_ret (pv 1))))), ?_⟩
  obtain ⟨vs, h1, h2, ok, hl⟩ := id lg
  have ll : vs.length = es.length := h2.length
  walk_at "yhead"; walk_at "y"
  refine ⟨sz4 (by simp), fun D nD => ?_⟩
  have sH1 := same_upd (H := H) (o := .lst []) nD
  have eD := upd_same (H := H) (a := D) (o := .lst [])
  generalize upd H D (.lst []) = H1 at sH1 eD ⊢
  walk_at "y"
  refine ⟨_, rfl, b, p, es, rfl, lg.same sH1, fun S us H2 nS s2 eS prS => ?_⟩
  walk_at "y"
  refine ⟨_, _, rfl, ?_⟩
  have nDS : D ≠ S := ne_of_none eD nS
  have s02 := sH1.trans s2
  walk_at "y"
  refine for_eb b ?_
  walk_at "y"
  refine ⟨p, vs, rfl, SqB.of (s02 _ _ h1), for_it walk_eb (Pv := fun i σ H' => ∃ ns a c d e, σ = [some (.ref p), some (.ref D), some (.ref S), a, c, d, e] ∧ (∀ b o, H2 b = some o → b ≠ D → H' b = some o) ∧ H' D = some (.lst (ns.map V.int)) ∧ ns = (List.range i).filterMap (fun i => (es[i]?).bind fun e => if (stAt es i).ret e then none else some ((i : Nat) : Int))) ⟨[], _, _, _, _, rfl, fun b o e _ => e, s2 _ _ eD, rfl⟩ (fun i σ H' _ hp => let ⟨_, _, _, _, _, _, off, _⟩ := hp; off _ _ (s02 _ _ h1) (ne_of_none h1 nD)) (fun i x σ H3 H4 hi hp y => ?_) fun σ H' hp => ?_⟩
  · obtain ⟨ns, a, c, d, e, rfl, off, hD3, ens⟩ := hp
    obtain ⟨tt, v1, v2, rfl, ht, rfl, e1, e2⟩ := y
    cases e1
    have sY := same_upd (o := .tup [.int i, v2]) ht
    have off4 : ∀ b o, H2 b = some o → b ≠ D → upd H3 tt (.tup [.int i, v2]) b = some o := fun b o e n => sY _ _ (off b o e n)
    have h2' : Paired (TR Ev.xs (upd H3 tt (.tup [.int i, v2]))) vs es := h2.mono fun v a h => by
      obtain ⟨g, eg, hg⟩ := h
      exact ⟨g, eg, off4 _ _ (s02 _ _ hg) (ne_of_none hg nD)⟩
    obtain ⟨t, ev, rfl, e3, e4⟩ := LogAt.get (b := b) (p := p) h2' e2
    refine gTup_i (SqT.of upd_same) ?_
    have hD4 := sY _ _ hD3
    generalize upd H3 tt (.tup [.int i, .ref t]) = H4 at *
    walk_at "y"
    refine lc_b b ?_
    walk_at "y"
    refine ⟨_, rfl, ?_⟩
    refine rSl2_b (b := b) (SqB.of (off4 _ _ (s02 _ _ h1) (ne_of_none h1 nD))) fun g H5 hg s5 => ?_
    rw [cut_to] at hg
    refine ⟨g, rfl, ⟨_, hg⟩, lc_pure (walk_sb (b := b) (xs := vs.take i)) (sz4 (by rw [List.length_take]; omega)) (fun j => ((es.take i)[j]?).bind fun e => if e.tag = ev.tag then some (1 : Int) else none) (firm_FR V.int) (fun H' s => hg.same s) (fun i H0 x H1 y => by obtain ⟨rfl, _⟩ := y; exact Same.refl _) (fun j v H0 H6 hj s0 s6 y N C hC hN => ?_) fun F H6 ws hF s6 h6 pr => ?_⟩
    · obtain ⟨rfl, e5⟩ := y
      rw [List.length_take] at hj
      have hji : j < i := by omega
      rw [List.getElem?_take, if_pos hji] at e5
      obtain ⟨g2, ev2, rfl, e6, e7⟩ := LogAt.get (b := b) (p := p) ((firm_TR _).all (sT (s5.trans s6)) h2') e5
      have e8 : (es.take i)[j]? = some ev2 := by rw [List.getElem?_take, if_pos hji]; exact e6
      walk_at "y"
      refine ⟨rfl, ?_⟩
      walk_at "y"
      refine rGet_t (n := 0) (SqT.of e7) (Ev.head ev2) ?_
      walk_at "y"
      refine rGet_t (n := 0) (SqT.of ((s5.trans s6) _ _ e4)) (Ev.head ev) ?_
      walk_at "y"
      by_cases ct : ev2.tag = ev.tag
      · walk_at "y"
        exact hC _ _ 1 (Same.refl _) (by rw [e8]; simp [ct]) rfl
      · walk_at "y"
        exact hN (by rw [e8]; simp [ct]) _ (Same.refl _)
    · have lt : (vs.take i).length = (es.take i).length := by rw [List.length_take, List.length_take, ll]
      rw [paired_FR pr, lt, filterMap_ix] at h6
      walk_at "y"
      refine rLen2_l (n := cnt es ev.tag i) (SqL.of h6) ?_ (by rw [List.length_map, len_ones]; rfl)
      have s46 := s5.trans s6
      have hDx := s46 _ _ hD4
      have e46 := s46 _ _ e4
      have off6 : ∀ b o, H2 b = some o → b ≠ D → H6 b = some o := fun b o e n => s46 _ _ (off4 b o e n)
      obtain ⟨oc1, oc2⟩ := opened_cnt es i (by omega)
      have lns : ns.length ≤ i := by rw [ens]; exact Nat.le_trans (List.length_filterMap_le ..) (by simp)
      have snoc : ∀ r : Bool, (stAt es i).ret ev = r → (List.range (i + 1)).filterMap (fun i => (es[i]?).bind fun e => if (stAt es i).ret e then none else some ((i : Nat) : Int)) = ns ++ (if r then [] else [((i : Nat) : Int)]) := fun r hr => by
        rw [filterMap_snoc, ← ens, e3, Option.bind_some, hr]
        cases r <;> rfl
      have ho := stAt_opn es i
      walk_at "y"
      cases ev with
      | op n =>
        refine rGet_t (n := 0) (SqT.of e46) (Ev.head _) ?_
        walk_at "y"
        refine ⟨sz4 (by simp), fun G nG => ?_⟩
        have sH7 := same_upd (H := H6) (o := .tup [.str "open", .str "fault"]) nG
        have eG := upd_same (H := H6) (a := G) (o := .tup [.str "open", .str "fault"])
        generalize upd H6 G (.tup [.str "open", .str "fault"]) = H7 at sH7 eG ⊢
        have hD7 := sH7 _ _ hDx
        have e47 := sH7 _ _ e46
        have off7 : ∀ b o, H2 b = some o → b ≠ D → H7 b = some o := fun b o e n => sH7 _ _ (off6 b o e n)
        refine rIn2_f (b := false) (SqT.of eG) rfl rfl ?_
        rw [inOF_t]
        dsimp only [Ev.tag]
        walk_at "y"
        refine rGet_t (n := 1) (SqT.of e47) rfl ?_
        walk_at "y"
        by_cases c : n = ((cnt es (Str.ofString "open") i : Nat) : Int)
        · refine iteNDT c ?_
          walk_at "y"
          refine rGet_t (n := 0) (SqT.of e47) rfl ?_
          walk_at "y"
          exact ⟨ns, _, _, _, _, rfl, off7, hD7, by rw [snoc true (by show decide (n = (stAt es i).opened) = true; rw [oc1]; exact decide_eq_true c)]; simp⟩
        · refine iteNDF c ?_
          walk_at "y"
          refine ⟨tyL hD7, ?_⟩
          walk_at "y"
          refine appU_i hD7 (by rw [List.length_map]; exact Nat.lt_of_lt_of_le (show ns.length < 18 by omega) (sz4 (n := 18))) fun H8 k8 u8 => ?_
          rw [show ns.map V.int ++ [V.int i] = (ns ++ [((i : Nat) : Int)]).map V.int by simp] at k8
          have e48 := (u8 t (ne_of e47 hD7 (by intro z; cases z))).trans e47
          have off8 : ∀ b o, H2 b = some o → b ≠ D → H8 b = some o := fun b o e n => (u8 b n).trans (off7 b o e n)
          walk_at "y"
          refine rGet_t (n := 0) (SqT.of e48) rfl ?_
          walk_at "y"
          exact ⟨_, _, _, _, _, rfl, off8, k8, by rw [snoc false (by show decide (n = (stAt es i).opened) = false; rw [oc1]; exact decide_eq_false c)]; simp⟩
      | fa n =>
        refine rGet_t (n := 0) (SqT.of e46) (Ev.head _) ?_
        walk_at "y"
        refine ⟨sz4 (by simp), fun G nG => ?_⟩
        have sH7 := same_upd (H := H6) (o := .tup [.str "open", .str "fault"]) nG
        have eG := upd_same (H := H6) (a := G) (o := .tup [.str "open", .str "fault"])
        generalize upd H6 G (.tup [.str "open", .str "fault"]) = H7 at sH7 eG ⊢
        have hD7 := sH7 _ _ hDx
        have e47 := sH7 _ _ e46
        have off7 : ∀ b o, H2 b = some o → b ≠ D → H7 b = some o := fun b o e n => sH7 _ _ (off6 b o e n)
        refine rIn2_f (b := false) (SqT.of eG) rfl rfl ?_
        rw [inOF_t]
        dsimp only [Ev.tag]
        walk_at "y"
        refine rGet_t (n := 1) (SqT.of e47) rfl ?_
        walk_at "y"
        by_cases c : n = ((cnt es (Str.ofString "fault") i : Nat) : Int)
        · refine iteNDT c ?_
          walk_at "y"
          refine rGet_t (n := 0) (SqT.of e47) rfl ?_
          walk_at "y"
          exact ⟨ns, _, _, _, _, rfl, off7, hD7, by rw [snoc true (by show decide (n = (stAt es i).made) = true; rw [oc2]; exact decide_eq_true c)]; simp⟩
        · refine iteNDF c ?_
          walk_at "y"
          refine ⟨tyL hD7, ?_⟩
          walk_at "y"
          refine appU_i hD7 (by rw [List.length_map]; exact Nat.lt_of_lt_of_le (show ns.length < 18 by omega) (sz4 (n := 18))) fun H8 k8 u8 => ?_
          rw [show ns.map V.int ++ [V.int i] = (ns ++ [((i : Nat) : Int)]).map V.int by simp] at k8
          have e48 := (u8 t (ne_of e47 hD7 (by intro z; cases z))).trans e47
          have off8 : ∀ b o, H2 b = some o → b ≠ D → H8 b = some o := fun b o e n => (u8 b n).trans (off7 b o e n)
          walk_at "y"
          refine rGet_t (n := 0) (SqT.of e48) rfl ?_
          walk_at "y"
          exact ⟨_, _, _, _, _, rfl, off8, k8, by rw [snoc false (by show decide (n = (stAt es i).made) = false; rw [oc2]; exact decide_eq_false c)]; simp⟩
      | sh n =>
        refine rGet_t (n := 0) (SqT.of e46) (Ev.head _) ?_
        walk_at "y"
        refine ⟨sz4 (by simp), fun G nG => ?_⟩
        have sH7 := same_upd (H := H6) (o := .tup [.str "open", .str "fault"]) nG
        have eG := upd_same (H := H6) (a := G) (o := .tup [.str "open", .str "fault"])
        generalize upd H6 G (.tup [.str "open", .str "fault"]) = H7 at sH7 eG ⊢
        have hD7 := sH7 _ _ hDx
        have e47 := sH7 _ _ e46
        have off7 : ∀ b o, H2 b = some o → b ≠ D → H7 b = some o := fun b o e n => sH7 _ _ (off6 b o e n)
        refine rIn2_f (b := false) (SqT.of eG) rfl rfl ?_
        rw [inOF_t]
        dsimp only [Ev.tag]
        walk_at "y"
        refine rGet_t (n := 0) (SqT.of e47) rfl ?_
        walk_at "y"
        refine rGet_t (n := 1) (SqT.of e47) rfl ?_
        walk_at "y"
        obtain ⟨u, hu, a0, rfl, n0, ha0⟩ := paired_at prS (i := i) (y := (stAt es i).opn) (by unfold statesOf; rw [List.getElem?_map, List.getElem?_range (by omega)]; rfl)
        have nSD : S ≠ D := Ne.symm nDS
        refine rGet_l (n := i) (SqL.of (off7 _ _ eS nSD)) hu ?_
        have na0 : a0 ≠ D := fun z => by rw [z, eD] at n0; cases n0
        refine rNotIn2_f (b := true) (SqL.of (off7 _ _ ha0 na0)) rfl (flat_ints _) ?_
        rw [inV_ints]
        by_cases c : n ∈ (stAt es i).opn
        · walk_at "y"
          exact ⟨ns, _, _, _, _, rfl, off7, hD7, by rw [snoc true (by show decide (n ∈ (stAt es i).opn) = true; exact decide_eq_true c)]; simp⟩
        · walk_at "y"
          refine ⟨tyL hD7, ?_⟩
          walk_at "y"
          refine appU_i hD7 (by rw [List.length_map]; exact Nat.lt_of_lt_of_le (show ns.length < 18 by omega) (sz4 (n := 18))) fun H8 k8 u8 => ?_
          rw [show ns.map V.int ++ [V.int i] = (ns ++ [((i : Nat) : Int)]).map V.int by simp] at k8
          have e48 := (u8 t (ne_of e47 hD7 (by intro z; cases z))).trans e47
          have off8 : ∀ b o, H2 b = some o → b ≠ D → H8 b = some o := fun b o e n => (u8 b n).trans (off7 b o e n)
          walk_at "y"
          exact ⟨_, _, _, _, _, rfl, off8, k8, by rw [snoc false (by show decide (n ∈ (stAt es i).opn) = false; exact decide_eq_false c)]; simp⟩
      | no n =>
        refine rGet_t (n := 0) (SqT.of e46) (Ev.head _) ?_
        walk_at "y"
        refine ⟨sz4 (by simp), fun G nG => ?_⟩
        have sH7 := same_upd (H := H6) (o := .tup [.str "open", .str "fault"]) nG
        have eG := upd_same (H := H6) (a := G) (o := .tup [.str "open", .str "fault"])
        generalize upd H6 G (.tup [.str "open", .str "fault"]) = H7 at sH7 eG ⊢
        have hD7 := sH7 _ _ hDx
        have e47 := sH7 _ _ e46
        have off7 : ∀ b o, H2 b = some o → b ≠ D → H7 b = some o := fun b o e n => sH7 _ _ (off6 b o e n)
        refine rIn2_f (b := false) (SqT.of eG) rfl rfl ?_
        rw [inOF_t]
        dsimp only [Ev.tag]
        walk_at "y"
        refine rGet_t (n := 0) (SqT.of e47) rfl ?_
        walk_at "y"
        exact ⟨ns, _, _, _, _, rfl, off7, hD7, by rw [snoc true rfl]; simp⟩
      | sw =>
        refine rGet_t (n := 0) (SqT.of e46) (Ev.head _) ?_
        walk_at "y"
        refine ⟨sz4 (by simp), fun G nG => ?_⟩
        have sH7 := same_upd (H := H6) (o := .tup [.str "open", .str "fault"]) nG
        have eG := upd_same (H := H6) (a := G) (o := .tup [.str "open", .str "fault"])
        generalize upd H6 G (.tup [.str "open", .str "fault"]) = H7 at sH7 eG ⊢
        have hD7 := sH7 _ _ hDx
        have e47 := sH7 _ _ e46
        have off7 : ∀ b o, H2 b = some o → b ≠ D → H7 b = some o := fun b o e n => sH7 _ _ (off6 b o e n)
        refine rIn2_f (b := false) (SqT.of eG) rfl rfl ?_
        rw [inOF_t]
        dsimp only [Ev.tag]
        walk_at "y"
        refine rGet_t (n := 0) (SqT.of e47) rfl ?_
        walk_at "y"
        exact ⟨ns, _, _, _, _, rfl, off7, hD7, by rw [snoc true rfl]; simp⟩
  · obtain ⟨ns, a, c, d, e, rfl, off, hD3, ens⟩ := hp
    walk_at "y"
    rw [ll] at ens
    refine q D H' nD (fun b o e => off _ _ (s02 _ _ e) (ne_of_none e nD)) ?_
    rw [hD3, ens]
    rfl
end
end L76
namespace L76
open PySem PySem.Spec PyProof.Rows L2
variable {gd : Bool}
local macro_rules | `(tactic| walk_at "y1") => `(tactic| with_reducible first
  | refine tSeq_i ?_ | refine tAsg_i ?_ | refine tCons_i ?_ | refine tNil_i ?_ | refine tC_i ?_ | refine tOp_i ?_ | refine tIfS_i ?_ | refine tTest_i ?_ | refine exBl_i ?_ | refine tRet_i ?_ | refine tCall_i ?_
  | refine tCB_i ?_ | refine tLst_i ?_ | refine tTup_i ?_ | refine rI0_i ?_ | refine tDrop_i ?_ | refine tNext_i ?_ | refine tB_i ?_ | refine tAnd_i ?_ | refine tOr_i ?_ | refine tNot_i ?_ | refine tAndV_i ?_ | refine tOrV_i ?_ | refine tNotV_i ?_
  | refine tYes_i ?_ | refine tTM_i ?_ | refine tPar_i ?_ | refine tSl_i ?_ | refine tNoPart_i ?_ | refine tPart_i ?_ | refine part_i ?_ | refine tMake_i ?_ | refine tProp_i ?_ | refine tCallOG_i ?_ | refine tVeI_i ?_ | refine tOst_i ?_ | refine tMkO_i ?_ | refine sFld_i ?_ | refine fldaug_i ?_ | refine gCons_i ?_ | refine gNil_i ?_ | refine tChain_i ?_ | refine tBM_i ?_ | refine rAdd2_i ?_ | refine rLe2_i ?_ | refine rEq2_i ?_ | refine rEq2_ss ?_ | refine rNe2_i ?_ | refine rNe2_ss ?_ | refine rIsN_i ?_ | refine rNotN_i ?_ | refine tTup_i2 ?_ | refine tIf_i ?_ | refine tUn_i ?_ | refine tDGet_i ?_ | refine sDPut_i ?_ | refine tFld_i ?_ | refine tRetN_i ?_ | refine tBreak_i ?_ | refine tCont_i ?_ | refine rU_i ?_)
local macro_rules | `(tactic| walk_at "yhead") => `(tactic| dsimp only [L2.start, List.map, List.length_cons, List.length_nil, Nat.reduceAdd, Nat.reduceSub, List.replicate, List.cons_append, List.nil_append])
local macro_rules | `(tactic| walk_at "y2") => `(tactic| first
  | walk_at "y1"
  | ((with_reducible refine tVar_i (v := ?v) ?h ?q); (case h => rfl))
  | ((with_reducible refine gName_i ?_); (dsimp only [L2.wipe, List.set]))
  | with_reducible refine iteT ?_ | with_reducible refine iteF ?_ | with_reducible refine iteNT ?_ | with_reducible refine iteNF ?_
  | ((with_reducible refine iteDT ?h ?q); (case h => first | decide +kernel | omega | assumption | exact nv1 | exact nv2 | exact nv3 | exact nv4)) | ((with_reducible refine iteDF ?h ?q); (case h => first | decide +kernel | omega | assumption | exact nv1 | exact nv2 | exact nv3 | exact nv4))
  | ((with_reducible refine iteNDT ?h ?q); (case h => first | decide +kernel | omega | assumption | exact nv1 | exact nv2 | exact nv3 | exact nv4)) | ((with_reducible refine iteNDF ?h ?q); (case h => first | decide +kernel | omega | assumption | exact nv1 | exact nv2 | exact nv3 | exact nv4))
  | ((with_reducible refine rIsi2_1 (T := ?T) (b := true) ?ty ?h ?q); (case ty => first | exact ty_str | exact ty_int | exact ty_bl | exact ty_non); (case h => decide +kernel))
  | ((with_reducible refine rIsi2_1 (T := ?T) (b := false) ?ty ?h ?q); (case ty => first | exact ty_str | exact ty_int | exact ty_bl | exact ty_non); (case h => decide +kernel))
  | ((with_reducible refine rEq2_s ?h ?q); (case h => rfl)) | ((with_reducible refine rNe2_s ?h ?q); (case h => rfl))
  | ((with_reducible refine rEq_i ?h ?q); (case h => rfl)) | ((with_reducible refine rNe_i ?h ?q); (case h => rfl)))
local macro_rules | `(tactic| walk_at "y") => `(tactic| repeat walk_at "y2")
section
variable {P : Program} {w : World} {K : PySem.W.Frag} {mg : Str → Option Value} {base : Heap}
theorem ends_op {es : List Ev} {i : Nat} {n : Int} (h : es[i]? = some (.op n)) : endsOf es n i = (List.range (es.length - (i + 1))).filterMap fun j => if es[i + 1 + j]? = some (.sh n) then some (i + 1 + j) else none := by
  have hi : i < es.length := (List.getElem?_eq_some_iff.mp h).1
  unfold endsOf
  rw [show es.length - i = (es.length - (i + 1)) + 1 by omega, List.range_succ_eq_map, List.filterMap_cons]
  rw [show (if es[i + 0]? = some (Ev.sh n) then some (i + 0) else none) = none by rw [Nat.add_zero, h]; simp]
  rw [List.filterMap_map]
  have e : ((fun j => if es[i + j]? = some (Ev.sh n) then some (i + j) else none) ∘ Nat.succ) = fun j => if es[i + 1 + j]? = some (Ev.sh n) then some (i + 1 + j) else none := by
    funext j
    show (if es[i + (j + 1)]? = some (Ev.sh n) then some (i + (j + 1)) else none) = _
    rw [show i + (j + 1) = i + 1 + j by omega]
  rw [e]
theorem ends_head {es : List Ev} {n : Int} {i k : Nat} {ks : List Nat} (h : endsOf es n i = k :: ks) : ∀ y ∈ endsOf es n i, k ≤ y := by
  have p : (endsOf es n i).Pairwise (· < ·) := by
    unfold endsOf
    rw [List.pairwise_filterMap]
    refine List.pairwise_lt_range.imp fun {a b} hab x hx y hy => ?_
    split at hx <;> cases hx
    split at hy <;> cases hy
    omega
  rw [h] at p ⊢
  intro y hy
  rcases List.mem_cons.mp hy with rfl | hm
  · exact Nat.le_refl _
  · exact Nat.le_of_lt ((List.pairwise_cons.mp p).1 y hm)
theorem sc__law_spans : FnScope ["_law_log_here", "_law_found", "_law_at", "_law_event", "_law_k", "_law_later"] ["_law_log_here"] (defScope (top 35)) := ⟨rfl, rfl, rfl, by decide +kernel, rfl, by decide +kernel, by decide +kernel⟩
theorem c__law_spans (T : Sy K mg) : Cal gd P w K mg base CX0 1 "_law_spans" spSpans := by
  refine T.cal (F_law_spans T) sc__law_spans sp1_len (fun cdv f A outer s H vs Q E z h => ?_) (fun _ _ _ _ _ _ us hl => match us, hl with | [_], _ => rfl)
  have hu1 := hu_1 z; have hu2 := hu_2 z; have hu3 := hu_3 z
  obtain ⟨x0, rfl, h⟩ := h
  obtain ⟨b, p, es, rfl, lg, q⟩ := h
  refine ⟨_, (pss_cons (ps_set (i := 1) sc__law_spans.nd rfl (by first | exact Or.inl rfl | exact Or.inr rfl) (pe_lst pa_nil)) (pss_cons (ps_for PassesOwn.never (by rfl) (pi_enum2K (K := K) rfl (by rfl) (T.free "enumerate") (pv 0)) (pg_tupK (K := K) rfl (by rfl) (pgs_cons (pg_name (i := 2) sc__law_spans.nd rfl (by first | exact Or.inl rfl | exact Or.inr rfl)) (pgs_cons (pg_name (i := 3) sc__law_spans.nd rfl (by first | exact Or.inl rfl | exact Or.inr rfl)) pgs_nil))) (pss_one (ps_if (pt_cmpR (r := rEq2 K) (op_eq2 hu1) (pe_ix (r := rGet K) (ix_get hu3) (pv 3) pe_int (fun _ _ => rfl)) pe_str (nomark _)) (pss_cons (ps_setLc (i := 5) (own := [("_law_k", 4)]) (g := gName 4) (by rfl) sc__law_spans.nd rfl rfl (sw_true rfl rfl rfl (by decide +kernel)) (pi_range2 (by rfl) (T.free "range") (pa_cons (pe_op (r := rAdd2 K) op_add2 (pv 2) pe_int) (pa_cons (pe_callB (r := rLen2 K) call_len2 (by rfl) (T.free "len") (by decide +kernel) (pa_cons (pv 0) pa_nil)) pa_nil))) (blkOk_by (own := [("_law_k", 4)]) (N := ["_law_log_here", "_law_found", "_law_at", "_law_event", "_law_k", "_law_later"]) (sc := (defScope (top 35))) (by decide +kernel)) (fun _ _ _ _ _ => (pg_name (i := 4) sc__law_spans.nd rfl (by first | exact Or.inl rfl | exact Or.inr rfl))) (fun _ _ _ _ _ => pts_one (pt_cmpR (r := rEq2 K) (op_eq2 hu1) (pe_ix (r := rGet K) (ix_get hu3) (pv 0) (pv 4) (fun _ _ => rfl)) (pe_tup (pa_cons pe_str (pa_cons (pe_ix (r := rGet K) (ix_get hu3) (pv 3) pe_int (fun _ _ => rfl)) pa_nil))) (nomark _))) (fun _ _ _ _ _ => (pv 4))) (pss_one (ps_expr (pe_bmK (K := K) rfl PySem.F.plainAttrs_list PySem.F.slot_list_append PySem.F.type_list_append mt_append2 (pv 1) (pa_cons (pe_tup (pa_cons (pe_ix (r := rGet K) (ix_get hu3) (pv 3) pe_int (fun _ _ => rfl)) (pa_cons (pv 2) (pa_cons (pe_ifExp (pt_cmpR (r := rNe2 K) (op_ne2 hu1) (pv 5) (pe_lst pa_nil) (nomark _)) (pe_callB (r := rMin K) (cr_min rfl) (by rfl) (T.free "min") (by decide +kernel) (pa_cons (pv 5) pa_nil)) pe_non) pa_nil)))) pa_nil))))) pss_nil))) (pss_one (ps_ret (pv 1))))), ?_⟩
  obtain ⟨vs, h1, h2, ok, hl⟩ := id lg
  have ll : vs.length = es.length := h2.length
  walk_at "yhead"; walk_at "y"
  have s1 := Same.refl H
  refine ⟨sz4 (by simp), fun D nD => ?_⟩
  have sH2 := same_upd (H := H) (o := .lst []) nD
  have eD := upd_same (H := H) (a := D) (o := .lst [])
  generalize upd H D (.lst []) = H2 at sH2 eD ⊢
  walk_at "y"
  refine for_eb b ?_
  walk_at "y"
  have s12 := s1.trans sH2
  refine ⟨p, vs, rfl, SqB.of (s12 _ _ h1), for_it walk_eb (Pv := fun i σ H' => (Same H H' ∧ ∃ us, H' D = some (.lst us) ∧ us.length ≤ i ∧ Paired (TR spanV H') us ((List.range i).filterMap (spanAt es))) ∧ ∃ a c d e, σ = [some (.ref p), some (.ref D), a, c, d, e]) ⟨⟨sH2, [], eD, Nat.le_refl _, .nil⟩, _, _, _, _, rfl⟩ (fun i σ H' _ hp => hp.1.1 _ _ (s1 _ _ h1)) (fun i x σ H3 H4 hi hp y => ?_) fun σ H' hp => ?_⟩
  · obtain ⟨⟨s3, us, hus, lus, pus⟩, a, c, d, e, rfl⟩ := hp
    obtain ⟨tt, v1, v2, rfl, ht, rfl, e1, e2⟩ := y
    cases e1
    have sY := same_upd (o := .tup [.int i, v2]) ht
    have s4 := (s1.trans s3).trans sY
    obtain ⟨t, ev, rfl, e3, e4⟩ := LogAt.get (b := b) (p := p) ((firm_TR _).all (sT s4) h2) e2
    have hus4 := sY _ _ hus
    have okE := ok _ (List.mem_of_getElem? e3)
    refine gTup_i (SqT.of upd_same) ?_
    generalize upd H3 tt (.tup [.int i, .ref t]) = H4 at *
    have nf : ∀ {H5 : Hp}, Same H4 H5 → spanAt es i = none → Same H H5 ∧ ∃ us, H5 D = some (.lst us) ∧ us.length ≤ i + 1 ∧ Paired (TR spanV H5) us ((List.range (i + 1)).filterMap (spanAt es)) := fun s5 e => by
      refine ⟨(s3.trans sY).trans s5, us, s5 _ _ hus4, by omega, ?_⟩
      rw [filterMap_snoc, e]
      simpa using (firm_TR _).all (sT (sY.trans s5)) pus
    walk_at "y"
    cases ev with
    | op n =>
      refine rGet_t (n := 0) (SqT.of e4) rfl ?_
      walk_at "y"
      refine lc_r2 ?_
      walk_at "y"
      refine rLen2_b (SqB.of (s4 _ _ h1)) ?_
      rw [ll]
      refine ⟨(i : Nat) + 1, es.length, rfl, by omega, lc_pure walk_range (Nat.le_trans (show _ ≤ 16 by omega) sz4) (fun j => if es[i + 1 + j]? = some (.sh n) then some (i + 1 + j) else none) (firm_FR fun j : Nat => V.int (j : Nat)) (fun _ _ => trivial) (fun i H0 x H1 y => by obtain ⟨rfl, _⟩ := y; exact Same.refl _) (fun j x H0 H5 hj s0 s5 y N C hC hN => ?_) fun E H5 ws hE s5 h5 pr => ?_⟩
      · obtain ⟨rfl, rfl⟩ := y
        walk_at "y"
        refine ⟨rfl, ?_⟩
        have hj2 : i + 1 + j < es.length := by omega
        obtain ⟨v5, e5, t5, rfl, e6⟩ := paired_at h2 (i := i + 1 + j) (y := es[i + 1 + j]) (List.getElem?_eq_getElem hj2)
        have s6 := s4.trans s5
        walk_at "y"
        refine rGet_b (n := i + 1 + j) (SqB.of (s6 _ _ h1)) e5 ?_ (by omega)
        walk_at "y"
        refine rGet_t (n := 1) (SqT.of (s5 _ _ e4)) rfl ?_
        walk_at "y"
        refine ⟨sz4 (by simp), fun G nG => ?_⟩
        have sH6 := same_upd (H := H5) (o := .tup [.str "shut", .int n]) nG
        have eG := upd_same (H := H5) (a := G) (o := .tup [.str "shut", .int n])
        generalize upd H5 G (.tup [.str "shut", .int n]) = H6 at sH6 eG ⊢
        refine rEq2_d (dp_tup (SqT.of ((s6.trans sH6) _ _ e6)) (Ev.pl _)) (dp_tup (SqT.of eG) rfl) (sm_tup (Ev.sm (ok _ (List.getElem_mem hj2)))).shaped (sm_tup (by rw [List.all_cons, smStr, Bool.true_and, List.all_cons, sm_int (by have := okE.1; have := okE.2; simp only [Ev.num] at *; omega)]; rfl)).shaped ?_
        rw [ev_eqv]
        by_cases ce : es[i + 1 + j] = .sh n
        · walk_at "y"
          rw [show (i : Int) + 1 + (j : Nat) = ((i + 1 + j : Nat) : Int) by omega]
          exact hC _ _ (i + 1 + j) sH6 (by rw [List.getElem?_eq_getElem hj2, ce, if_pos rfl]) rfl
        · walk_at "y"
          exact hN (by rw [List.getElem?_eq_getElem hj2, if_neg (fun z => ce (Option.some.inj z))]) _ sH6
      · rw [paired_FR pr, show ((es.length : Int) - ((i : Int) + 1)).toNat = es.length - (i + 1) by omega] at h5
        rw [show (List.filterMap (fun j => if es[i + 1 + j]? = some (Ev.sh n) then some (i + 1 + j) else none) (List.range (es.length - (i + 1)))) = endsOf es n i from (ends_op e3).symm] at h5
        walk_at "y"
        have hus5 := s5 _ _ hus4
        refine ⟨tyL hus5, ?_⟩
        walk_at "y"
        refine rGet_t (n := 1) (SqT.of (s5 _ _ e4)) rfl ?_
        walk_at "y"
        refine ⟨sz4 (by simp), fun G nG => ?_⟩
        have sH6 := same_upd (H := H5) (o := .lst []) nG
        have eG := upd_same (H := H5) (a := G) (o := .lst [])
        generalize upd H5 G (.lst []) = H6 at sH6 eG ⊢
        have fin : ∀ (G : Addr) (H7 : Hp) (o : V), Same H5 H7 → H7 G = some (.tup [.int n, .int i, o]) → (o = match (endsOf es n i).head? with | none => V.non | some j => .int (j : Nat)) → ∀ C : VK, (∀ H8, (Same H H8 ∧ ∃ us, H8 D = some (.lst us) ∧ us.length ≤ i + 1 ∧ Paired (TR spanV H8) us ((List.range (i + 1)).filterMap (spanAt es))) → C .non H8) → rAppend (.ref D) [.ref G] H7 C := fun G H7 o s7 hG eo C hC => by
          have hus7 := s7 _ _ hus5
          refine app_i hus7 (Nat.lt_of_le_of_lt (show us.length ≤ 16 by omega) (Nat.lt_of_lt_of_le (by decide) (sz4 (n := 17)))) ?_
          refine hC _ ⟨fun c o' e => ?_, us ++ [.ref G], upd_same, by simp; omega, ?_⟩
          · have n1 : c ≠ D := fun z => by rw [z, nD] at e; cases e
            rw [upd_ne n1]
            exact (((s3.trans sY).trans s5).trans s7) c o' e
          · rw [filterMap_snoc, show spanAt es i = some (n, i, (endsOf es n i).head?) by unfold spanAt; rw [e3]]
            refine paired_append ((firm_TR _).all (sameT_upd hus7) ((firm_TR _).all (sT ((sY.trans s5).trans s7)) pus)) (.cons ⟨G, rfl, ?_⟩ .nil)
            rw [upd_ne (ne_of hG hus7 (by intro z; cases z)), hG, eo]
            rfl
        have smE : ∀ v ∈ (endsOf es n i).map fun j : Nat => V.int (j : Nat), smV v = true := fun v hv => by
          obtain ⟨j, hj, rfl⟩ := List.mem_map.mp hv
          obtain ⟨k, hk, ek⟩ := List.mem_filterMap.mp hj
          split at ek
          · have hk2 := List.mem_range.mp hk
            cases ek
            exact sm_int (by omega)
          · cases ek
        have smA : ((endsOf es n i).map fun j : Nat => V.int (j : Nat)).all smV = true := List.all_eq_true.mpr smE
        have lnE : (endsOf es n i).length ≤ 16 := Nat.le_trans (List.length_filterMap_le ..) (by simp; omega)
        refine rNe2_d (dp_lst (SqL.of (sH6 _ _ h5)) (all_pl smA)) (dp_lst (SqL.of eG) rfl) (sm_lst smA).shaped (by decide +kernel) ?_
        rw [show PyData.eqv (.list (((endsOf es n i).map fun j : Nat => V.int (j : Nat)).map vD)) (.list (([] : List V).map vD)) = ((endsOf es n i).map fun j : Nat => V.int (j : Nat)).isEmpty by
          cases endsOf es n i <;> rfl]
        cases hE : endsOf es n i with
        | nil =>
          dsimp only [List.map_nil, List.isEmpty_nil]
          walk_at "y"
          refine ⟨sz4 (by simp), fun F nF => ?_⟩
          have sH7 := same_upd (H := H6) (o := .tup [.int n, .int i, .non]) nF
          have eF := upd_same (H := H6) (a := F) (o := .tup [.int n, .int i, .non])
          generalize upd H6 F (.tup [.int n, .int i, .non]) = H7 at sH7 eF ⊢
          walk_at "y"
          exact fin F H7 .non (sH6.trans sH7) eF (by rw [hE]; rfl) _ fun H8 h8 => ⟨h8, _, _, _, _, rfl⟩
        | cons k ks =>
          rw [show ((k :: ks).map fun j : Nat => V.int (j : Nat)).isEmpty = false from rfl]
          walk_at "y"
          refine ⟨E, (endsOf es n i).map fun j : Nat => (j : Int), rfl, SqL.of (by rw [List.map_map]; exact sH6 _ _ h5), by rw [hE]; exact Nat.succ_pos _, fun m hm hmin => ?_⟩
          obtain rfl : m = (k : Int) := by
            have hk : ((k : Nat) : Int) ∈ (endsOf es n i).map fun j : Nat => (j : Int) := by rw [hE]; exact List.mem_cons_self ..
            have h1 := hmin _ hk
            obtain ⟨j, hj, rfl⟩ := List.mem_map.mp hm
            have h2 := ends_head hE j hj
            omega
          walk_at "y"
          refine ⟨sz4 (by simp), fun F nF => ?_⟩
          have sH7 := same_upd (H := H6) (o := .tup [.int n, .int i, .int (k : Nat)]) nF
          have eF := upd_same (H := H6) (a := F) (o := .tup [.int n, .int i, .int (k : Nat)])
          generalize upd H6 F (.tup [.int n, .int i, .int (k : Nat)]) = H7 at sH7 eF ⊢
          walk_at "y"
          exact fin F H7 (.int (k : Nat)) (sH6.trans sH7) eF (by rw [hE]; rfl) _ fun H8 h8 => ⟨h8, _, _, _, _, rfl⟩
    | sh n =>
      refine rGet_t (n := 0) (SqT.of e4) rfl ?_
      walk_at "y"
      exact ⟨nf (Same.refl _) (by unfold spanAt; rw [e3]), _, _, _, _, rfl⟩
    | fa n =>
      refine rGet_t (n := 0) (SqT.of e4) rfl ?_
      walk_at "y"
      exact ⟨nf (Same.refl _) (by unfold spanAt; rw [e3]), _, _, _, _, rfl⟩
    | no n =>
      refine rGet_t (n := 0) (SqT.of e4) rfl ?_
      walk_at "y"
      exact ⟨nf (Same.refl _) (by unfold spanAt; rw [e3]), _, _, _, _, rfl⟩
    | sw =>
      refine rGet_t (n := 0) (SqT.of e4) rfl ?_
      walk_at "y"
      exact ⟨nf (Same.refl _) (by unfold spanAt; rw [e3]), _, _, _, _, rfl⟩
  · obtain ⟨⟨s3, us, hus, lus, pus⟩, a, c, d, e, rfl⟩ := hp
    walk_at "y"
    rw [ll] at pus
    exact q D H' us (s1.free nD) (s1.trans s3) hus pus
end
end L76
namespace L76
open PySem PySem.Spec PyProof.Rows L2
variable {gd : Bool}
local macro_rules | `(tactic| walk_at "y1") => `(tactic| with_reducible first
  | refine tSeq_i ?_ | refine tAsg_i ?_ | refine tCons_i ?_ | refine tNil_i ?_ | refine tC_i ?_ | refine tOp_i ?_ | refine tIfS_i ?_ | refine tTest_i ?_ | refine exBl_i ?_ | refine tRet_i ?_ | refine tCall_i ?_
  | refine tCB_i ?_ | refine tLst_i ?_ | refine tTup_i ?_ | refine rI0_i ?_ | refine tDrop_i ?_ | refine tNext_i ?_ | refine tB_i ?_ | refine tAnd_i ?_ | refine tOr_i ?_ | refine tNot_i ?_ | refine tAndV_i ?_ | refine tOrV_i ?_ | refine tNotV_i ?_
  | refine tYes_i ?_ | refine tTM_i ?_ | refine tPar_i ?_ | refine tSl_i ?_ | refine tNoPart_i ?_ | refine tPart_i ?_ | refine part_i ?_ | refine tMake_i ?_ | refine tProp_i ?_ | refine tCallOG_i ?_ | refine tVeI_i ?_ | refine tOst_i ?_ | refine tMkO_i ?_ | refine sFld_i ?_ | refine fldaug_i ?_ | refine gCons_i ?_ | refine gNil_i ?_ | refine tChain_i ?_ | refine tBM_i ?_ | refine rAdd2_i ?_ | refine rLe2_i ?_ | refine rEq2_i ?_ | refine rEq2_ss ?_ | refine rNe2_i ?_ | refine rNe2_ss ?_ | refine rIsN_i ?_ | refine rNotN_i ?_ | refine tTup_i2 ?_ | refine tIf_i ?_ | refine tUn_i ?_ | refine tDGet_i ?_ | refine sDPut_i ?_ | refine tFld_i ?_ | refine tRetN_i ?_ | refine tBreak_i ?_ | refine tCont_i ?_ | refine rU_i ?_)
local macro_rules | `(tactic| walk_at "yhead") => `(tactic| dsimp only [L2.start, List.map, List.length_cons, List.length_nil, Nat.reduceAdd, Nat.reduceSub, List.replicate, List.cons_append, List.nil_append])
local macro_rules | `(tactic| walk_at "y2") => `(tactic| first
  | walk_at "y1"
  | ((with_reducible refine tVar_i (v := ?v) ?h ?q); (case h => rfl))
  | ((with_reducible refine gName_i ?_); (dsimp only [L2.wipe, List.set]))
  | with_reducible refine iteT ?_ | with_reducible refine iteF ?_ | with_reducible refine iteNT ?_ | with_reducible refine iteNF ?_
  | ((with_reducible refine iteDT ?h ?q); (case h => first | decide +kernel | omega | assumption | exact nv1 | exact nv2 | exact nv3 | exact nv4)) | ((with_reducible refine iteDF ?h ?q); (case h => first | decide +kernel | omega | assumption | exact nv1 | exact nv2 | exact nv3 | exact nv4))
  | ((with_reducible refine iteNDT ?h ?q); (case h => first | decide +kernel | omega | assumption | exact nv1 | exact nv2 | exact nv3 | exact nv4)) | ((with_reducible refine iteNDF ?h ?q); (case h => first | decide +kernel | omega | assumption | exact nv1 | exact nv2 | exact nv3 | exact nv4))
  | ((with_reducible refine rIsi2_1 (T := ?T) (b := true) ?ty ?h ?q); (case ty => first | exact ty_str | exact ty_int | exact ty_bl | exact ty_non); (case h => decide +kernel))
  | ((with_reducible refine rIsi2_1 (T := ?T) (b := false) ?ty ?h ?q); (case ty => first | exact ty_str | exact ty_int | exact ty_bl | exact ty_non); (case h => decide +kernel))
  | ((with_reducible refine rEq2_s ?h ?q); (case h => rfl)) | ((with_reducible refine rNe2_s ?h ?q); (case h => rfl))
  | ((with_reducible refine rEq_i ?h ?q); (case h => rfl)) | ((with_reducible refine rNe_i ?h ?q); (case h => rfl)))
local macro_rules | `(tactic| walk_at "y") => `(tactic| repeat walk_at "y2")
section
variable {P : Program} {w : World} {K : PySem.W.Frag} {mg : Str → Option Value} {base : Heap}
def lexLe (p q : Int × Int) : Prop := SrtO.lexB q p = false
theorem lexLe_iff {p q : Int × Int} : lexLe p q ↔ p.1 < q.1 ∨ (p.1 = q.1 ∧ p.2 ≤ q.2) := by
  unfold lexLe SrtO.lexB
  by_cases h : q.1 = p.1
  · rw [if_pos h, decide_eq_false_iff_not]; omega
  · rw [if_neg h, decide_eq_false_iff_not]; omega
theorem lexLe_anti (p q : Int × Int) (h1 : lexLe p q) (h2 : lexLe q p) : p = q := by
  rw [lexLe_iff] at h1 h2
  obtain ⟨a, b⟩ := p
  obtain ⟨c, d⟩ := q
  simp only at h1 h2
  rw [show a = c by omega, show b = d by omega]
def rawAt (es : List Ev) (i : Nat) : List (Int × Int) := match es[i]? with
  | some (.sh n) => if n ∈ (stAt es i).opn then ((stAt es i).opn.drop ((stAt es i).opn.idxOf n + 1)).map fun m => (((i : Nat) : Int), m) else []
  | _ => []
def rawOf (es : List Ev) (i : Nat) : List (Int × Int) := (List.range i).flatMap (rawAt es)
theorem rawOf_succ (es : List Ev) (i : Nat) : rawOf es (i + 1) = rawOf es i ++ rawAt es i := by
  unfold rawOf
  rw [List.range_succ, List.flatMap_append]
  simp
theorem cross_raw_at (es : List Ev) (i : Nat) : (crossAt es i).Perm (rawAt es i) := by
  unfold crossAt rawAt
  cases es[i]? with
  | none => exact List.Perm.refl _
  | some e =>
    cases e with
    | sh n =>
      dsimp only
      by_cases c : n ∈ (stAt es i).opn
      · rw [if_pos c, if_pos c]
        exact (srt_perm _).map _
      · rw [if_neg c, if_neg c]
    | _ => exact List.Perm.refl _
theorem cross_raw (es : List Ev) : ∀ i, (crossOf es i).Perm (rawOf es i)
  | 0 => List.Perm.refl _
  | i + 1 => by rw [crossOf_succ, rawOf_succ]; exact (cross_raw es i).append (cross_raw_at es i)
theorem cross_fst (es : List Ev) (i : Nat) : ∀ p ∈ crossAt es i, p.1 = ((i : Nat) : Int) := by
  intro p hp
  unfold crossAt at hp
  split at hp
  · split at hp
    · obtain ⟨m, _, rfl⟩ := List.mem_map.mp hp
      rfl
    · cases hp
  · cases hp
theorem cross_srt (es : List Ev) : ∀ i, (crossOf es i).Pairwise lexLe ∧ ∀ p ∈ crossOf es i, p.1 < ((i : Nat) : Int)
  | 0 => ⟨List.Pairwise.nil, fun p hp => nomatch hp⟩
  | i + 1 => by
    obtain ⟨h1, h2⟩ := cross_srt es i
    rw [crossOf_succ]
    refine ⟨List.pairwise_append.mpr ⟨h1, ?_, fun p hp q hq => ?_⟩, fun p hp => ?_⟩
    · unfold crossAt
      split
      · split
        · rw [List.pairwise_map]
          exact List.Pairwise.imp (R := fun a b : Int => a ≤ b) (S := fun a b => lexLe (((i : Nat) : Int), a) (((i : Nat) : Int), b)) (fun {a b} h => lexLe_iff.mpr (.inr ⟨rfl, h⟩)) (srt_le _)
        · exact List.Pairwise.nil
      · exact List.Pairwise.nil
    · have := h2 p hp
      have := cross_fst es i q hq
      exact lexLe_iff.mpr (.inl (by omega))
    · rcases List.mem_append.mp hp with h | h
      · have := h2 p h; omega
      · have := cross_fst es i p h; omega
/-- the pair that stands at a value -/
def pairAt (H : Hp) : V → Int × Int
  | .ref t => (match H t with | some (.tup [.int a, .int b]) => (a, b) | _ => (0, 0))
  | _ => (0, 0)
theorem pairAt_TR {H : Hp} : ∀ {vs : List V} {as : List (Int × Int)}, Paired (TR pairV H) vs as → vs.map (pairAt H) = as ∧ ∀ v ∈ vs, ∃ t, v = .ref t ∧ H t = some (.tup [.int (pairAt H v).1, .int (pairAt H v).2])
  | _, _, .nil => ⟨rfl, fun v hv => nomatch hv⟩
  | _, _, .cons (a := v) (b := a) ⟨t, e, h⟩ r => by
    obtain ⟨h1, h2⟩ := pairAt_TR r
    have e1 : pairAt H v = a := by
      subst e
      show (match H t with | some (.tup [.int a, .int b]) => (a, b) | _ => (0, 0)) = a
      rw [h]
      rfl
    refine ⟨by rw [List.map_cons, h1, e1], fun x hx => ?_⟩
    rcases List.mem_cons.mp hx with rfl | hx
    · exact ⟨t, e, by rw [e1, h]; rfl⟩
    · exact h2 x hx
theorem TR_pairAt {H : Hp} : ∀ {vs : List V}, (∀ v ∈ vs, ∃ t, v = .ref t ∧ H t = some (.tup [.int (pairAt H v).1, .int (pairAt H v).2])) → Paired (TR pairV H) vs (vs.map (pairAt H))
  | [], _ => .nil
  | v :: vs, h => by
    obtain ⟨t, e, k⟩ := h v (List.mem_cons_self ..)
    exact .cons ⟨t, e, k⟩ (TR_pairAt fun x hx => h x (List.mem_cons_of_mem _ hx))
theorem sc__law_crossings : FnScope ["_law_log_here", "_law_found", "_law_states_here", "_law_at", "_law_event", "_law_now", "_law_one"] ["_law_log_here"] (defScope (top 36)) := ⟨rfl, rfl, rfl, by decide +kernel, rfl, by decide +kernel, by decide +kernel⟩
theorem c__law_crossings (T : Sy K mg) : Cal gd P w K mg base CX0 2 "_law_crossings" spCross := by
  refine T.cal (F_law_crossings T) sc__law_crossings sp1_len (fun cdv f A outer s H vs Q E z h => ?_) (fun _ _ _ _ _ _ us hl => match us, hl with | [_], _ => rfl)
  have hu1 := hu_1 z; have hu2 := hu_2 z; have hu3 := hu_3 z
  obtain ⟨x0, rfl, h⟩ := h
  obtain ⟨b, p, es, rfl, lg, q⟩ := h
  refine ⟨_, (pss_cons (ps_par (i := 1) (j := 2) (by rfl) sc__law_crossings.nd rfl rfl (by decide) rfl rfl (pa_cons (pe_lst pa_nil) (pa_cons (pe_c (c__law_states T) z (pa_cons (pv 0) pa_nil)) pa_nil)) (by rfl)) (pss_cons (ps_for PassesOwn.never (by rfl) (pi_enum2K (K := K) rfl (by rfl) (T.free "enumerate") (pv 0)) (pg_tupK (K := K) rfl (by rfl) (pgs_cons (pg_name (i := 3) sc__law_crossings.nd rfl (by first | exact Or.inl rfl | exact Or.inr rfl)) (pgs_cons (pg_name (i := 4) sc__law_crossings.nd rfl (by first | exact Or.inl rfl | exact Or.inr rfl)) pgs_nil))) (pss_cons (ps_set (i := 5) sc__law_crossings.nd rfl (by first | exact Or.inl rfl | exact Or.inr rfl) (pe_ix (r := rGet K) (ix_get hu3) (pv 2) (pv 3) (fun _ _ => rfl))) (pss_one (ps_if (PW.pt (pw_and (pt_cmpR (r := rEq2 K) (op_eq2 hu1) (pe_ix (r := rGet K) (ix_get hu3) (pv 4) pe_int (fun _ _ => rfl)) pe_str (nomark _)) (pw_and1 (pt_cmpR (r := rIn2 K) (op_in2 hu2) (pe_ix (r := rGet K) (ix_get hu3) (pv 4) pe_int (fun _ _ => rfl)) (pv 5) rfl)))) (pss_one (ps_set (i := 1) sc__law_crossings.nd rfl (by first | exact Or.inl rfl | exact Or.inr rfl) (pe_op (r := rAdd2 K) op_add2 (pv 1) (pe_lc (own := [("_law_one", 6)]) (g := gName 6) (by rfl) sc__law_crossings.nd (pi_anyK (K := K) rfl (pe_slice (r := rSl2 K) sl_2 (pv 5) (po_some (pe_op (r := rAdd2 K) op_add2 (pe_bmK (K := K) (r := rIndex K) rfl PySem.F.plainAttrs_list PySem.F.slot_list_index PySem.F.type_list_index mt_index2 (pv 5) (pa_cons (pe_ix (r := rGet K) (ix_get hu3) (pv 4) pe_int (fun _ _ => rfl)) pa_nil)) pe_int)) po_none)) (blkOk_by (own := [("_law_one", 6)]) (N := ["_law_log_here", "_law_found", "_law_states_here", "_law_at", "_law_event", "_law_now", "_law_one"]) (sc := (defScope (top 36))) (by decide +kernel)) (fun _ _ _ _ _ => (pg_name (i := 6) sc__law_crossings.nd rfl (by first | exact Or.inl rfl | exact Or.inr rfl))) (fun _ _ _ _ _ => pts_nil) (fun _ _ _ _ _ => (pe_tup (pa_cons (pv 3) (pa_cons (pv 6) pa_nil)))))))) pss_nil)))) (pss_one (ps_ret (pe_callB (r := rSorted2 K) call_sorted2 (by rfl) (T.free "sorted") (by decide +kernel) (pa_cons (pv 1) pa_nil)))))), ?_⟩
  obtain ⟨vs, h1, h2, ok, hl⟩ := id lg
  have ll : vs.length = es.length := h2.length
  walk_at "yhead"; walk_at "y"
  refine ⟨sz4 (by simp), fun D nD => ?_⟩
  have sH1 := same_upd (H := H) (o := .lst []) nD
  have eD := upd_same (H := H) (a := D) (o := .lst [])
  generalize upd H D (.lst []) = H1 at sH1 eD ⊢
  walk_at "y"
  refine ⟨_, rfl, b, p, es, rfl, lg.same sH1, fun S us H2 nS s2 eS prS => ?_⟩
  walk_at "y"
  refine ⟨_, _, rfl, ?_⟩
  have s02 := sH1.trans s2
  walk_at "y"
  refine for_eb b ?_
  walk_at "y"
  refine ⟨p, vs, rfl, SqB.of (s02 _ _ h1), for_it walk_eb (Pv := fun i σ H' => ∃ F ws a c d e, σ = [some (.ref p), some (.ref F), some (.ref S), a, c, d, e] ∧ Same H2 H' ∧ H' F = some (.lst ws) ∧ Paired (TR pairV H') ws (rawOf es i)) ⟨D, [], _, _, _, _, rfl, Same.refl _, s2 _ _ eD, .nil⟩ (fun i σ H' _ hp => let ⟨_, _, _, _, _, _, _, s, _⟩ := hp; s _ _ (s02 _ _ h1)) (fun i x σ H3 H4 hi hp y => ?_) fun σ H' hp => ?_⟩
  · obtain ⟨F, ws, a, c, d, e, rfl, s3, hF, prF⟩ := hp
    obtain ⟨tt, v1, v2, rfl, ht, rfl, e1, e2⟩ := y
    cases e1
    have sY := same_upd (o := .tup [.int i, v2]) ht
    have s24 := s3.trans sY
    obtain ⟨t, ev, rfl, e3, e4⟩ := LogAt.get (b := b) (p := p) ((firm_TR _).all (sT (s02.trans s24)) h2) e2
    refine gTup_i (SqT.of upd_same) ?_
    have hF4 := sY _ _ hF
    have prF4 := (firm_TR _).all (sT sY) prF
    generalize upd H3 tt (.tup [.int i, .ref t]) = H4 at *
    obtain ⟨u, hu, a0, rfl, n0, ha0⟩ := paired_at prS (i := i) (y := (stAt es i).opn) (by unfold statesOf; rw [List.getElem?_map, List.getElem?_range (by omega)]; rfl)
    have lws : ws.length = (rawOf es i).length := prF.length
    have lraw : (rawOf es i).length ≤ 16 * i := by rw [← (cross_raw es i).length_eq]; exact crossOf_len es i (by omega)
    have nf : (∀ n, ev ≠ .sh n) → rawOf es (i + 1) = rawOf es i := fun hn => by
      rw [rawOf_succ, show rawAt es i = [] by
        unfold rawAt
        rw [e3]
        cases ev with
        | sh n => exact absurd rfl (hn n)
        | _ => rfl, List.append_nil]
    walk_at "y"
    refine rGet_l (n := i) (SqL.of (s24 _ _ eS)) hu ?_
    walk_at "y"
    cases ev with
    | op n =>
      refine rGet_t (n := 0) (SqT.of e4) rfl ?_
      walk_at "y"
      exact ⟨F, ws, _, _, _, _, rfl, s24, hF4, by rw [nf (by intro n; exact nofun)]; exact prF4⟩
    | sh n =>
      refine rGet_t (n := 0) (SqT.of e4) rfl ?_
      walk_at "y"
      refine rGet_t (n := 1) (SqT.of e4) rfl ?_
      walk_at "y"
      refine rIn2_f (b := true) (SqL.of (s24 _ _ ha0)) rfl (flat_ints _) ?_
      rw [inV_ints]
      by_cases c : n ∈ (stAt es i).opn
      · walk_at "y"
        refine lc_b true ?_
        walk_at "y"
        have hj : (stAt es i).opn[(stAt es i).opn.idxOf n]? = some n := by
          rw [List.getElem?_eq_getElem (List.idxOf_lt_length_iff.mpr c), List.getElem_idxOf]
        refine ⟨tyL (s24 _ _ ha0), ?_⟩
        walk_at "y"
        refine rGet_t (n := 1) (SqT.of e4) rfl ?_
        walk_at "y"
        refine ⟨a0, (stAt es i).opn.map V.int, .int n, (stAt es i).opn.idxOf n, .int n, rfl, rfl, SqL.of (s24 _ _ ha0), rfl, flat_ints _, by rw [List.getElem?_map, hj]; rfl, by show decide (n = n) = true; simp, fun m z hm hz => ?_, ?_⟩
        · rw [List.getElem?_map] at hz
          cases e5 : (stAt es i).opn[m]? with
          | none => rw [e5] at hz; cases hz
          | some k =>
            rw [e5] at hz
            cases hz
            show decide (k = n) = false
            exact decide_eq_false fun z => idx_first hm (by rw [e5, z])
        walk_at "y"
        rw [show ((((stAt es i).opn.idxOf n : Nat) : Int) + 1) = (((stAt es i).opn.idxOf n + 1 : Nat) : Int) by omega]
        refine ⟨_, rfl, ?_⟩
        walk_at "y"
        refine rSl2_b (b := true) (SqL.of (s24 _ _ ha0)) fun g H5 hg s5 => ?_
        rw [cut_from, ← List.map_drop] at hg
        have ho := stAt_opn es i
        refine ⟨g, rfl, ⟨_, hg⟩, lc_pure (walk_sb (b := true) (xs := ((stAt es i).opn.drop ((stAt es i).opn.idxOf n + 1)).map V.int)) (by rw [List.length_map, List.length_drop]; exact sz4 (by omega)) (fun j => (((stAt es i).opn.drop ((stAt es i).opn.idxOf n + 1))[j]?).bind fun m => some (((i : Nat) : Int), m)) (firm_TR pairV) (fun H' s => SqB.same (b := true) hg s) (fun i H0 x H1 y => by obtain ⟨rfl, _⟩ := y; exact Same.refl _) (fun j v H0 HB hj s0 sB y N C hC hN => ?_) fun G H6 ws' hG s6 hB pr => ?_⟩
        · obtain ⟨rfl, e5⟩ := y
          rw [List.getElem?_map] at e5
          cases e6 : ((stAt es i).opn.drop ((stAt es i).opn.idxOf n + 1))[j]? with
          | none => rw [e6] at e5; cases e5
          | some m =>
            rw [e6] at e5
            cases e5
            walk_at "y"
            refine ⟨rfl, ?_⟩
            walk_at "y"
            refine ⟨sz4 (by simp), fun G nG => ?_⟩
            have sHC := same_upd (H := HB) (o := .tup [.int i, .int m]) nG
            have eG := upd_same (H := HB) (a := G) (o := .tup [.int i, .int m])
            generalize upd HB G (.tup [.int i, .int m]) = HC at sHC eG ⊢
            exact hC _ _ (((i : Nat) : Int), m) sHC (by rw [e6]; rfl) ⟨G, rfl, eG⟩
        · rw [List.length_map, filterMap_ix] at pr
          have e7 : ((stAt es i).opn.drop ((stAt es i).opn.idxOf n + 1)).filterMap (fun m => some (((i : Nat) : Int), m)) = rawAt es i := by
            unfold rawAt
            rw [e3]
            dsimp only
            rw [if_pos c]
            exact congrFun (List.filterMap_eq_map (f := fun m : Int => (((i : Nat) : Int), m))) _
          rw [e7] at pr
          have s46 := s5.trans s6
          have lp := pr.length
          have lr : (rawAt es i).length ≤ 16 := by rw [← (cross_raw_at es i).length_eq]; exact crossAt_len es i (by omega)
          refine rAdd2_l (s46 _ _ hF4) hB (sz4 (by omega)) fun R hR => ?_
          have sR := same_upd (o := .lst (ws ++ ws')) hR
          walk_at "y"
          refine ⟨R, ws ++ ws', _, _, _, _, rfl, (s24.trans s46).trans sR, upd_same, ?_⟩
          rw [rawOf_succ]
          exact (firm_TR _).all (sT sR) (paired_append ((firm_TR _).all (sT s46) prF4) pr)
      · walk_at "y"
        refine ⟨F, ws, _, _, _, _, rfl, s24, hF4, ?_⟩
        rw [rawOf_succ, show rawAt es i = [] by
          unfold rawAt
          rw [e3]
          exact if_neg c, List.append_nil]
        exact prF4
    | fa n =>
      refine rGet_t (n := 0) (SqT.of e4) rfl ?_
      walk_at "y"
      exact ⟨F, ws, _, _, _, _, rfl, s24, hF4, by rw [nf (by intro n; exact nofun)]; exact prF4⟩
    | no n =>
      refine rGet_t (n := 0) (SqT.of e4) rfl ?_
      walk_at "y"
      exact ⟨F, ws, _, _, _, _, rfl, s24, hF4, by rw [nf (by intro n; exact nofun)]; exact prF4⟩
    | sw =>
      refine rGet_t (n := 0) (SqT.of e4) rfl ?_
      walk_at "y"
      exact ⟨F, ws, _, _, _, _, rfl, s24, hF4, by rw [nf (by intro n; exact nofun)]; exact prF4⟩
  · obtain ⟨F, ws, a, c, d, e, rfl, s3, hF, prF⟩ := hp
    walk_at "y"
    obtain ⟨k1, k2⟩ := pairAt_TR prF
    refine .inr ⟨F, ws, pairAt H', rfl, SqL.of hF, k2, fun ys R m1 m2 hR => ?_⟩
    have sR := same_upd (o := .lst ys) hR
    have s0R := (s02.trans s3).trans sR
    have ey : ys.map (pairAt H') = crossOf es es.length := by
      refine sorted_uniq (le := lexLe) lexLe_anti ?_ (cross_srt es es.length).1 ?_
      · rw [List.pairwise_map]
        exact m1
      · refine (m2.perm.map _).trans ?_
        rw [k1, ll]
        exact (cross_raw es es.length).symm
    refine q R _ ys ((s02.trans s3).free hR) s0R upd_same ?_
    rw [← ey]
    exact (firm_TR _).all (sT sR) (TR_pairAt fun v hv => k2 v (m2.perm.mem_iff.mp hv))
end
end L76
namespace L76
open PySem PySem.Spec PyProof.Rows L2
variable {gd : Bool}
local macro_rules | `(tactic| walk_at "y1") => `(tactic| with_reducible first
  | refine tSeq_i ?_ | refine tAsg_i ?_ | refine tCons_i ?_ | refine tNil_i ?_ | refine tC_i ?_ | refine tOp_i ?_ | refine tIfS_i ?_ | refine tTest_i ?_ | refine exBl_i ?_ | refine tRet_i ?_ | refine tCall_i ?_
  | refine tCB_i ?_ | refine tLst_i ?_ | refine tTup_i ?_ | refine rI0_i ?_ | refine tDrop_i ?_ | refine tNext_i ?_ | refine tB_i ?_ | refine tAnd_i ?_ | refine tOr_i ?_ | refine tNot_i ?_ | refine tAndV_i ?_ | refine tOrV_i ?_ | refine tNotV_i ?_
  | refine tIf_i ?_ | refine tUn_i ?_ | refine tDGet_i ?_ | refine sDPut_i ?_ | refine tFld_i ?_ | refine tRetN_i ?_ | refine tBreak_i ?_ | refine tCont_i ?_ | refine rU_i ?_)
local macro_rules | `(tactic| walk_at "yhead") => `(tactic| dsimp only [L2.start, List.map, List.length_cons, List.length_nil, Nat.reduceAdd, Nat.reduceSub, List.replicate, List.cons_append, List.nil_append])
local macro_rules | `(tactic| walk_at "y2") => `(tactic| first
  | walk_at "y1"
  | ((with_reducible refine tVar_i (v := ?v) ?h ?q); (case h => rfl))
  | ((with_reducible refine gName_i ?_); (dsimp only [List.set]))
  | ((with_reducible refine rEq_i ?h ?q); (case h => rfl)) | ((with_reducible refine rNe_i ?h ?q); (case h => rfl)))
local macro_rules | `(tactic| walk_at "y") => `(tactic| repeat walk_at "y2")
/-! a caught exception kept by a name behind the try -/
/-- at a: an exception of the class at C, its dict at dd -/
def exk (a C dd : Addr) : HO := .ext fun h => ∃ (oe : Obj) (vs : Array Value), h.get? a = some oe ∧ oe.cls = .ref C ∧ oe.dict = some dd ∧ oe.data = .fields vs
theorem exk_ok {P : Program} {w : World} {H : Hp} {h : Heap} {a C dd : Addr} {oe : Obj} {vs : Array Value} (e : h.get? a = some oe) (c : oe.cls = .ref C) (d : oe.dict = some dd) (f : oe.data = .fields vs) : ObjOk P w H h a (exk a C dd) :=
  ⟨⟨oe, vs, e, c, d, f⟩, ⟨oe, e⟩, fun h1 h2 ⟨u, us, k1, k2, k3, k4⟩ k => ⟨u, us, k u k1, k2, k3, k4⟩⟩
theorem exk_at {P : Program} {w : World} {H : Hp} {h : Heap} {a C dd : Addr} (hok : HOk P w H h) (e : H a = some (exk a C dd)) : ∃ (oe : Obj) (vs : Array Value), h.get? a = some oe ∧ oe.cls = .ref C ∧ oe.dict = some dd ∧ oe.data = .fields vs :=
  (show ObjOk P w H h a (exk a C dd) from hok a _ e).1
section
variable {X : Cx} {pins : List (Addr × Obj)} {σ : L2.St} {H : Hp} {s : Shared}
/-- an object that nobody follows is followed from here on -/
theorem inv_adopt {a : Addr} {oe : Obj} {vs : Array Value} {o : HO} (I : Inv X pins σ H s) (hn : H a = none) (he : s.heap.get? a = some oe) (hd : oe.data = .fields vs) (h0 : X.s_0.heap.get? a = none) (nL : a ≠ X.env.locals) (np : ∀ p ∈ X.pn ++ pins, p.1 ≠ a)
    (new : ObjOk X.prog X.w (upd H a o) s.heap a o) : Inv X pins σ (upd H a o) s where
  ok := I.ok
  os := I.os
  bare := I.bare
  base := ⟨I.base.keep, I.base.slot, fun b u e n x => by
      rw [upd_ne (show b ≠ a from fun z => by rw [z, h0] at e; cases e)]
      exact I.base.free b u e n x, I.base.there, fun b xs e => by rw [upd_ne (ne_of_none (I.base.tups b xs e) hn)]; exact I.base.tups b xs e,
      fun b u v e => by rw [upd_ne (ne_of_none (I.base.frzs b u v e) hn)]; exact I.base.frzs b u v e, fun b ps e => by
        obtain ⟨m, k⟩ := I.base.tbls b ps e
        exact ⟨m, by rw [upd_ne (ne_of_none k hn)]; exact k⟩⟩
  loc := I.loc
  cell := I.cell
  free := by rw [upd_ne (Ne.symm nL)]; exact I.free
  freeC := fun x c e => by
    have n : c ≠ a := fun z => by
      obtain ⟨v, u, k1, k2⟩ := I.cell x c e
      rw [z, he] at k1
      cases k1
      rw [hd] at k2
      cases k2
    rw [upd_ne n]
    exact I.freeC x c e
  pin := fun p hp => by
    obtain ⟨k1, k2, k3⟩ := I.pin p hp
    exact ⟨k1, by rw [upd_ne (np p hp)]; exact k2, k3⟩
  hok := fun b u e => by
    by_cases hb : b = a
    · subst hb
      rw [upd_same] at e
      cases e
      exact new
    · rw [upd_ne hb] at e
      exact (I.hok b u e).stay (fun c v _ z => z) (fun c k => by rw [upd_ne (ne_of_none k hn)]; exact k) fun c xs k => by rw [upd_ne (ne_of_none k hn)]; exact k
  len := I.len
end
/-- what such a try wishes of an exception -/
def wKeep (K : PySem.W.Frag) (c : Value) (i j : Nat) (D : Ends) : WX := fun cls d σ H => ∃ C dd : Addr, cls = .ref C ∧ d = some dd ∧ PySem.W.exmOne K cls c = some true ∧ ∀ a, H a = none → D.nx (((σ.set i (some (.ref a))).set j (some (.ref a))).set i none) (upd H a (exk a C dd))
section
variable {X : Cx} {i j : Nat} {x n y : Str} {c : Value} {body : List Stmt} {np p1 p2 p3 pos pos' : Pos} {tb : WX → TS}
theorem ps_try_keep (hs : X.stack = X.env :: X.outer) (hf : X.env.frame = some X.env.locals) (hex : X.ex = []) (hN : X.N.Nodup) (hi : X.N[i]? = some n) (hj : X.N[j]? = some y) (hln : X.env.kindOf n = some .local) (hly : X.env.scope.names.lookup y = some .local) (hc : Names X x c)
    (hb : ∀ (W : WX) (pn : List (Addr × Obj)) (xe : Value → Shared → Prop), Takes (X.tr pn xe) W → PassesOwn (model X.prog X.w) X.A X.env xe → PSs (X.tr pn xe) body (tb W))
    (hnd : (n == ("__debug__" : Str)) = false := by decide) (hnc : (n == ("__classdict__" : Str)) = false := by decide) :
    PS X (.Try body [.ExceptHandler (some (.Name x np)) (some n) [.Assign [.Name y p1] (.Name n p2) p3] pos'] [] [] pos) (fun D σ H => tb (wKeep X.K c i j D) D σ H) := by
  refine ⟨fun pins s σ H D I h => ?_⟩
  have ok := I.ok
  have frE : X.A.frames = some (X.env :: X.outer) := by rw [ok.frames, hs]
  refine wpAny_Try_except ?_
  refine wpAny_mono ((hb (wKeep X.K c i j D) (X.pn ++ pins) (fun e t1 => wpAny (model X.prog X.w) X.A (noteFrame e X.env) (fun _ t2 => wpAny (model X.prog X.w) X.A (setFlight e none) (fun _ t3 =>
    wpAny (model X.prog X.w) X.A (handleBy e X.env [.ExceptHandler (some (.Name x np)) (some n) [.Assign [.Name y p1] (.Name n p2) p3] pos']) (SP X pins D) X.xe t3) X.xe t2) X.xe t1) (fun u s' xx => ?_) PassesOwn.looking).run [] s σ H D (I.toTry _) h) (fun f s1 hsp => ?_) (fun e s1 he => he)
  · obtain ⟨a, B, sI, pins', σ', H', cls, d, rfl, J0, nb, up, sky, na, os, ag, C, dd, rfl, rfl, hm, hyes⟩ := xx
    have J : Inv X pins σ' H' sI := J0.ofTry ok
    have sky' : Sky B (X.env :: X.outer) a (Zc (.ref C) (some dd)) X.env.locals s'.heap := by rw [← hs]; exact sky
    show wpAny (model X.prog X.w) X.A (noteFrame (.ref a) X.env) _ _ _
    refine Sky.land Zc.steady frE hf sky' fun h3 fl3 up3 => ?_
    have J3 : Inv X pins σ' H' { s' with heap := h3 } := J.landed nb fl3.1 (up.trans up3) os ag
    obtain ⟨oe3, vs3, he3, hz3, hd3⟩ := fl3.there
    have nfr : a ∉ frs (X.env :: X.outer) := fun hm => by
      obtain ⟨_, o', e', hnf⟩ := fl3.2.2.1.mem hm
      rw [he3] at e'
      cases e'
      exact hnf _ hd3
    have nL : a ≠ X.env.locals := fun z => nfr (List.mem_filterMap.mpr ⟨X.env, List.mem_cons_self, by rw [hf, z]⟩)
    have nF : a ∉ X.fs := fun hm => by
      obtain ⟨e, he, q⟩ := List.mem_filterMap.mp hm
      exact nfr (List.mem_filterMap.mpr ⟨e, List.mem_cons_of_mem _ he, q⟩)
    -- it is newer than all that stood
    have newer : ∀ {b : Addr} {o : Obj}, sI.heap.get? b = some o → b ≠ a := fun {b o} e z => by
      subst z
      have k := nb b o e (by rw [hs]; exact nfr)
      rw [fl3.2.1] at k
      cases k
    have h0 : X.s_0.heap.get? a = none := by
      cases q : X.s_0.heap.get? a with
      | none => rfl
      | some o =>
        obtain ⟨o', k⟩ := J.base.there a o q (by rw [hex]; exact List.not_mem_nil)
        exact absurd rfl (newer k)
    have npA : ∀ p ∈ X.pn ++ pins, p.1 ≠ a := fun p hp => newer (J.pin p hp).1
    have S3 := J3.suite he3 hd3 na nL nF
    refine wpAny_handleBy_cons (codeAny_handlers_test ?_) (by intro q; cases q)
    have LT : PySem.W.Looks (model X.prog X.w) h3 (typeOf (.ref a)) (.ref C) := fun A Q E s k q => wpAny_typeOf_ref (k _ _ he3) (by rw [hz3.1]; exact q)
    have LM := PySem.W.exm_one (M := model X.prog X.w) (J3.kIn) LT hm
    have test : ∀ {Q : Value → Shared → Prop} {E : Value → Shared → Prop}, Q c { s' with heap := h3 } → wpAny (model X.prog X.w) (X.A.mark (some (.ref a))) (eval (.Name x np) X.env) Q E { s' with heap := h3 } := fun {Q E} q => by
      obtain ⟨hg, hdbg, hm | ⟨hm, hv, hnn⟩⟩ := hc
      · exact ld_glob (X := X.suite a ((a, oe3) :: (X.pn ++ pins))) S3 hg hm q hdbg
      · exact ld_blt (X := X.suite a ((a, oe3) :: (X.pn ++ pins))) S3 hg hm hv q hnn hdbg
    refine test (LM.here ?_)
    refine codeAny_handlers_suite_as ?_
    refine HandSPX.lands_againZ fl3 fun h4 fl4 up4 => ?_
    have J4 : Inv X pins σ' H' { s' with heap := h4 } := J.landed nb fl4.1 ((up.trans up3).trans up4) os ag
    obtain ⟨oe4, vs4, he4, hz4, hd4⟩ := fl4.there
    have S4 := J4.suite he4 hd4 na nL nF
    refine store_ok (X := X.suite a ((a, oe4) :: (X.pn ++ pins))) (v := .ref a) S4 hN hi (.inl hln) rfl (fun s5 S5 => ?_) (.inr hln)
    have su : PSs (X.suite a ((a, oe4) :: (X.pn ++ pins))) [.Assign [.Name y p1] (.Name n p2) p3] (tAsg (tVar i) (gName j)) :=
      pss_one (ps_asg (pe_var hi (.inl hln) hnd hnc) (pg_name hN hj (.inl hly) (.inr hly)))
    refine wpAny_mono (su.run [] s5 _ H' { nx := fun σ6 H6 => σ6 = (σ'.set i (some (.ref a))).set j (some (.ref a)) ∧ H6 = H', rt := fun _ _ => False } S5 ⟨.ref a, ?_, rfl, rfl⟩) (fun f s6 hsp => ?_) (fun _ _ z => False.elim z)
    · rw [List.getElem?_set_self (by rw [J.len]; exact (List.getElem?_eq_some_iff.mp hi).1)]
    · cases f with
      | next =>
        obtain ⟨σ6, H6, S6, rfl, rfl⟩ := hsp
        have pinA := S6.pin (a, oe4) (List.mem_append_left _ List.mem_cons_self)
        have J6 : Inv X pins _ H6 s6 := S6.unsuite ok
        have J7 := inv_adopt (o := exk a C dd) J6 na pinA.1 hd4 h0 nL npA (exk_ok pinA.1 hz4.1 hz4.2 hd4)
        exact gone_ok J7 hN hi hln fun s7 J8 => ⟨_, _, J8, hyes a na⟩
      | brk => exact (let ⟨_, _, _, q⟩ := hsp; False.elim q)
      | cont => exact (let ⟨_, _, _, q⟩ := hsp; False.elim q)
      | ret u => exact (let ⟨_, _, _, _, _, q⟩ := hsp; False.elim q)
  · cases f with
    | next =>
      obtain ⟨σ', H', J', q⟩ := hsp
      exact wpAny_execs_nil ⟨σ', H', J'.ofTry ok, q⟩
    | brk =>
      obtain ⟨σ', H', J', q⟩ := hsp
      exact ⟨σ', H', J'.ofTry ok, q⟩
    | cont =>
      obtain ⟨σ', H', J', q⟩ := hsp
      exact ⟨σ', H', J'.ofTry ok, q⟩
    | ret u =>
      obtain ⟨v, σ', H', J', r, q⟩ := hsp
      exact ⟨v, σ', H', J'.ofTry ok, r, q⟩
end
section
open PySem.W
theorem is_exact {prog : Program} {w : World} {A : Around} {E : Value → Shared → Prop} {s : Shared} {a C : Addr} {oe : Obj} {Q : Value → Shared → Prop} (he : s.heap.get? a = some oe) (hc : oe.cls = .ref C) (h : ∀ tk, Q (.bool true) { s with toks := tk }) :
    wpAny (model prog w) A (call (.builtin "isinstance") [.ref a, .ref C]) Q E s := by
  refine call_isinstance (S := fun _ R s => s.heap.get? a = some oe ∧ ∀ tk, R (.ok (.ret (.bool true))) { s with toks := tk }) (fun prog w A R s hs => isinstance_outer ?_ (by intro z; cases z)) ⟨he, h⟩
  obtain ⟨h0, g, d, tt, os⟩ := s
  obtain ⟨k, hq⟩ := hs
  have LT : Looks (model prog w) h0 (typeOf (.ref a)) (.ref C) := hc ▸ (Looks.ld k).andThen .now
  unfold Builtin.«isinstance.nested»
  refine wpAny_bind (LT.at ?_)
  rw [if_pos (show (Value.ref C == Value.ref C) = true by simp)]
  first
    | exact wpAny_bind (wpAny_rule (hq tt))
    | exact wpAny_bind (wpAny_rule (wpAny_pure (hq tt)))
    | exact wpAny_pure (hq tt)
end
/-- isinstance(e, its own class) -/
def rIsK : List V → Hp → VK → Prop := fun xs H Q => ∃ a C dd : Addr, xs = [.ref a, .ref C] ∧ H a = some (exk a C dd) ∧ Q (.bl true) H
theorem call_isK {X : Cx} : CallR X (.builtin "isinstance") rIsK := by
  intro pins s σ H xs us Q I r h
  obtain ⟨a, C, dd, rfl, ha, q⟩ := h
  obtain ⟨u1, u2, rfl, r1, r2⟩ := Vals.two r
  cases (show u1 = Value.ref a from r1)
  cases (show u2 = Value.ref C from r2)
  obtain ⟨oe, vs, e, c, _⟩ := exk_at I.hok ha
  exact is_exact e c fun tk => ⟨.bl true, H, I.tok tk, rfl, q⟩
/-- e.f of a kept exception -/
def tXk (K : PySem.W.Frag) (f : Str) (te : TE) : TE := fun σ H Q => te σ H fun x H1 => ∃ (a C dd : Addr) (fs : List (Str × V)) (v : V), x = .ref a ∧ H1 a = some (exk a C dd) ∧ XfC K C ∧ PySem.W.findIn K (.ref C) f = some none ∧ H1 dd = some (.xd fs) ∧ fs.lookup f = some v ∧ Q v H1
theorem tXk_i {K : PySem.W.Frag} {f : Str} {te : TE} {σ : L2.St} {H : Hp} {Q : VK} (q : te σ H fun x H1 => ∃ (a C dd : Addr) (fs : List (Str × V)) (v : V), x = .ref a ∧ H1 a = some (exk a C dd) ∧ XfC K C ∧ PySem.W.findIn K (.ref C) f = some none ∧ H1 dd = some (.xd fs) ∧ fs.lookup f = some v ∧ Q v H1) : tXk K f te σ H Q := q
theorem pe_xk {X : Cx} {K : PySem.W.Frag} {e : Expr} {te : TE} {pos : Pos} {n : Str} (hK : X.K = K) (he : PE X e te) (hb : attributeBase e n X.env (eval e X.env) = eval e X.env := by rfl) : PE X (.Attribute e n pos) (tXk K n te) := by
  subst hK
  refine ⟨fun pins s σ H Q I h => ?_⟩
  refine attr_of hb (thn (he.run pins s σ H _ I h) fun u s1 hh => ?_)
  obtain ⟨x, H1, I1, rx, a, C, dd, fs, v, rfl, ha, T, hno, ea, l, q⟩ := hh
  cases (show u = Value.ref a from rx)
  obtain ⟨oe, vs, e1, e2, e3, e4⟩ := exk_at I1.hok ha
  obtain ⟨mA, hns, hr⟩ := (show ObjOk X.prog X.w H1 s1.heap dd (.xd fs) from I1.hok dd _ ea)
  obtain ⟨od, ho, hl⟩ := lookIn_ns hns
  obtain ⟨u, hu, ru⟩ := RelO.some_of (v := v) (o := mA n) (by rw [← l]; exact hr n)
  have J : PySem.W.InstAt s1.heap a oe C (some od) := ⟨e1, e2, by unfold PySem.W.notCls; rw [e4] <;> rfl, by rw [e3]; exact ho⟩
  exact HandSPX.exc_get I1.kIn J T.ga T.gg T.exC (PySem.W.findObj_own T.hdC hno rfl (by rw [hl, hu])) (handed_of ru) ⟨v, H1, I1.tok _, ru, q⟩
end L76
namespace L76
open PySem PySem.Spec PyProof.Rows L2
variable {gd : Bool}
local macro_rules | `(tactic| walk_at "y1") => `(tactic| with_reducible first
  | refine tSeq_i ?_ | refine tAsg_i ?_ | refine tCons_i ?_ | refine tNil_i ?_ | refine tC_i ?_ | refine tOp_i ?_ | refine tIfS_i ?_ | refine tTest_i ?_ | refine exBl_i ?_ | refine tRet_i ?_ | refine tCall_i ?_
  | refine tCB_i ?_ | refine tLst_i ?_ | refine tTup_i ?_ | refine rI0_i ?_ | refine tDrop_i ?_ | refine tNext_i ?_ | refine tB_i ?_ | refine tAnd_i ?_ | refine tOr_i ?_ | refine tNot_i ?_ | refine tAndV_i ?_ | refine tOrV_i ?_ | refine tNotV_i ?_
  | refine tYes_i ?_ | refine tTM_i ?_ | refine tPar_i ?_ | refine tSl_i ?_ | refine tNoPart_i ?_ | refine tPart_i ?_ | refine part_i ?_ | refine tMake_i ?_ | refine tProp_i ?_ | refine tCallOG_i ?_ | refine tVeI_i ?_ | refine tOst_i ?_ | refine tMkO_i ?_ | refine sFld_i ?_ | refine fldaug_i ?_ | refine gCons_i ?_ | refine gNil_i ?_ | refine tChain_i ?_ | refine tBM_i ?_ | refine rAdd2_i ?_ | refine rLe2_i ?_ | refine rEq2_i ?_ | refine rEq2_ss ?_ | refine rNe2_i ?_ | refine rNe2_ss ?_ | refine rIsN_i ?_ | refine rNotN_i ?_ | refine tTup_i2 ?_ | refine tIf_i ?_ | refine tUn_i ?_ | refine tDGet_i ?_ | refine sDPut_i ?_ | refine tFld_i ?_ | refine tRetN_i ?_ | refine tBreak_i ?_ | refine tCont_i ?_ | refine rU_i ?_)
local macro_rules | `(tactic| walk_at "yhead") => `(tactic| dsimp only [L2.start, List.map, List.length_cons, List.length_nil, Nat.reduceAdd, Nat.reduceSub, List.replicate, List.cons_append, List.nil_append])
local macro_rules | `(tactic| walk_at "y2") => `(tactic| first
  | walk_at "y1"
  | ((with_reducible refine tVar_i (v := ?v) ?h ?q); (case h => rfl))
  | ((with_reducible refine gName_i ?_); (dsimp only [L2.wipe, List.set]))
  | with_reducible refine iteT ?_ | with_reducible refine iteF ?_ | with_reducible refine iteNT ?_ | with_reducible refine iteNF ?_
  | ((with_reducible refine iteDT ?h ?q); (case h => first | decide +kernel | omega | assumption | exact nv1 | exact nv2 | exact nv3 | exact nv4)) | ((with_reducible refine iteDF ?h ?q); (case h => first | decide +kernel | omega | assumption | exact nv1 | exact nv2 | exact nv3 | exact nv4))
  | ((with_reducible refine iteNDT ?h ?q); (case h => first | decide +kernel | omega | assumption | exact nv1 | exact nv2 | exact nv3 | exact nv4)) | ((with_reducible refine iteNDF ?h ?q); (case h => first | decide +kernel | omega | assumption | exact nv1 | exact nv2 | exact nv3 | exact nv4))
  | ((with_reducible refine rIsi2_1 (T := ?T) (b := true) ?ty ?h ?q); (case ty => first | exact ty_str | exact ty_int | exact ty_bl | exact ty_non); (case h => decide +kernel))
  | ((with_reducible refine rIsi2_1 (T := ?T) (b := false) ?ty ?h ?q); (case ty => first | exact ty_str | exact ty_int | exact ty_bl | exact ty_non); (case h => decide +kernel))
  | ((with_reducible refine rEq2_s ?h ?q); (case h => rfl)) | ((with_reducible refine rNe2_s ?h ?q); (case h => rfl))
  | ((with_reducible refine rEq_i ?h ?q); (case h => rfl)) | ((with_reducible refine rNe_i ?h ?q); (case h => rfl)))
local macro_rules | `(tactic| walk_at "y") => `(tactic| repeat walk_at "y2")
section
variable {P : Program} {w : World} {K : PySem.W.Frag} {mg : Str → Option Value} {base : Heap}
/-- the facts of BadLog as a caught exception -/
structure XBad (K : PySem.W.Frag) : Prop where
  x : XfC K (He.ga K "BadLog")
  m : PySem.W.exmOne K (.ref (He.ga K "BadLog")) (.ref (He.ga K "ModelError")) = some true
/-- f(e, ..) of an instance, what is raised wished for at the caller's slots -/
def tCallOS (C : Addr) (sp : Sp) (E : L2.St → XK) (tf : TE) (t : TA) : TE := fun σ H Q => tf σ H fun y H1 => ∃ a, y = V.ref a ∧ t σ H1 fun vs H2 => (∃ dx fs, H2 a = some (.ins C dx fs)) ∧ sp (V.ref a :: vs) H2 Q (E σ)
theorem tCallOS_i {σ : L2.St} {H : Hp} {Q : VK} {C : Addr} {sp : Sp} {E : L2.St → XK} {tf : TE} {t : TA} (q : tf σ H fun y H1 => ∃ a, y = V.ref a ∧ t σ H1 fun vs H2 => (∃ dx fs, H2 a = some (.ins C dx fs)) ∧ sp (V.ref a :: vs) H2 Q (E σ)) : tCallOS C sp E tf t σ H Q := q
theorem pe_wqS (T : Sy K mg) {X : Cx} {j : Nat} {e fe : Expr} {es : List Expr} {tf : TE} {t : TA} {pos : Pos} {W : WX} (hK : X.K = K) (hm : X.mg = mg) (z : RG gd j X.A) (tk : Takes X W) (hf : PE X fe tf) (ha : PA X (e :: es) t) (hk : 7 ≤ j := by decide)
    (ht : eval (.Call fe (e :: es) [] pos) X.env = (do callWith pos (← eval fe X.env) [] (backTo pos (starEach (e :: es) X.env)) (backToKw pos (keywordEach [] X.env))) := by rfl)
    (he : starEach (e :: es) X.env = (false, eval e X.env) :: starEach es X.env := by rfl) (hpl : (backTo pos (starEach es X.env)).any (·.1) = false := by rfl) : PE X (.Call fe (e :: es) [] pos) (tCallOS (He.ga K "Watcher") (spWCall K) (fun σ => WE W σ) tf t) := by
  subst hK hm
  obtain ⟨fd, F, b⟩ := f_call (P := X.prog) (w := X.w) (base := X.base) (gd := gd) T
  refine ⟨fun pins s σ H Q I h => ?_⟩
  refine Call_ (thn (hf.run pins s σ H _ I h) fun u s1 ⟨y, H1, I1, ry, a, ey, q⟩ => ?_) ht
  subst ey
  obtain rfl : u = Value.ref a := ry
  refine StX.callO_with (thn (ha.run pos pins s1 σ H1 _ I1 q) fun us s2 ⟨vs, H2, I2, r, hi, q2⟩ => ?_) he hpl
  obtain ⟨ox, od, J, hd⟩ := StX.insC_at I2 (.inr hi)
  refine ⟨⟨_, ox, od, J, hd⟩, wpAny_call (PySem.W.kco_code I2.kIn J hd (cO T).at_ (cO T).fn (cO T).fi ?_)⟩
  have rv : Vals (V.ref a :: vs) (Value.ref a :: us) := .cons rfl r
  have bd0 := b s2 (Value.ref a :: us) I2.kIn (by rw [List.append_nil, ← rv.length]; exact F.len _ _ _ _ q2)
  rw [List.append_nil] at bd0
  refine codeAny_mono (F.run X.A X.stack s2 H2 ⟨Value.ref a :: us, []⟩ _ _ Q _ (z.mono hk) I2.env0 bd0 rv q2) fun r sz hq => ?_
  cases r with
  | error er => exact passAt tk σ pins H2 s2 er sz I2 hq
  | ok fl => cases fl <;> first | exact I2.after hq | exact False.elim hq
end
end L76
namespace L76
open PySem PySem.Spec PyProof.Rows L2
variable {gd : Bool}
local macro_rules | `(tactic| walk_at "y1") => `(tactic| with_reducible first
  | refine tSeq_i ?_ | refine tAsg_i ?_ | refine tCons_i ?_ | refine tNil_i ?_ | refine tC_i ?_ | refine tOp_i ?_ | refine tIfS_i ?_ | refine tTest_i ?_ | refine exBl_i ?_ | refine tRet_i ?_ | refine tCall_i ?_
  | refine tCB_i ?_ | refine tLst_i ?_ | refine tTup_i ?_ | refine rI0_i ?_ | refine tDrop_i ?_ | refine tNext_i ?_ | refine tB_i ?_ | refine tAnd_i ?_ | refine tOr_i ?_ | refine tNot_i ?_ | refine tAndV_i ?_ | refine tOrV_i ?_ | refine tNotV_i ?_
  | refine tYes_i ?_ | refine tTM_i ?_ | refine tPar_i ?_ | refine tSl_i ?_ | refine tNoPart_i ?_ | refine tPart_i ?_ | refine part_i ?_ | refine tMake_i ?_ | refine tProp_i ?_ | refine tCallOG_i ?_ | refine tVeI_i ?_ | refine tOst_i ?_ | refine tMkO_i ?_ | refine sFld_i ?_ | refine fldaug_i ?_ | refine gCons_i ?_ | refine gNil_i ?_ | refine tChain_i ?_ | refine tBM_i ?_ | refine rAdd2_i ?_ | refine rLe2_i ?_ | refine rEq2_i ?_ | refine rEq2_ss ?_ | refine rNe2_i ?_ | refine rNe2_ss ?_ | refine rIsN_i ?_ | refine rNotN_i ?_ | refine tTup_i2 ?_ | refine tIf_i ?_ | refine tUn_i ?_ | refine tDGet_i ?_ | refine sDPut_i ?_ | refine tFld_i ?_ | refine tRetN_i ?_ | refine tBreak_i ?_ | refine tCont_i ?_ | refine rU_i ?_)
local macro_rules | `(tactic| walk_at "yhead") => `(tactic| dsimp only [L2.start, List.map, List.length_cons, List.length_nil, Nat.reduceAdd, Nat.reduceSub, List.replicate, List.cons_append, List.nil_append])
local macro_rules | `(tactic| walk_at "y2") => `(tactic| first
  | walk_at "y1"
  | ((with_reducible refine tVar_i (v := ?v) ?h ?q); (case h => rfl))
  | ((with_reducible refine gName_i ?_); (dsimp only [L2.wipe, List.set]))
  | with_reducible refine iteT ?_ | with_reducible refine iteF ?_ | with_reducible refine iteNT ?_ | with_reducible refine iteNF ?_
  | ((with_reducible refine iteDT ?h ?q); (case h => first | decide +kernel | omega | assumption | exact nv1 | exact nv2 | exact nv3 | exact nv4)) | ((with_reducible refine iteDF ?h ?q); (case h => first | decide +kernel | omega | assumption | exact nv1 | exact nv2 | exact nv3 | exact nv4))
  | ((with_reducible refine iteNDT ?h ?q); (case h => first | decide +kernel | omega | assumption | exact nv1 | exact nv2 | exact nv3 | exact nv4)) | ((with_reducible refine iteNDF ?h ?q); (case h => first | decide +kernel | omega | assumption | exact nv1 | exact nv2 | exact nv3 | exact nv4))
  | ((with_reducible refine rIsi2_1 (T := ?T) (b := true) ?ty ?h ?q); (case ty => first | exact ty_str | exact ty_int | exact ty_bl | exact ty_non); (case h => decide +kernel))
  | ((with_reducible refine rIsi2_1 (T := ?T) (b := false) ?ty ?h ?q); (case ty => first | exact ty_str | exact ty_int | exact ty_bl | exact ty_non); (case h => decide +kernel))
  | ((with_reducible refine rEq2_s ?h ?q); (case h => rfl)) | ((with_reducible refine rNe2_s ?h ?q); (case h => rfl))
  | ((with_reducible refine rEq_i ?h ?q); (case h => rfl)) | ((with_reducible refine rNe_i ?h ?q); (case h => rfl)))
local macro_rules | `(tactic| walk_at "y") => `(tactic| repeat walk_at "y2")
section
variable {P : Program} {w : World} {K : PySem.W.Frag} {mg : Str → Option Value} {base : Heap}
theorem most_max (es : List Ev) : ∀ i, i ≤ es.length → (∀ j, j ≤ i → ((stAt es j).opn.length : Int) ≤ (stAt es i).most) ∧ ∃ j, j ≤ i ∧ (stAt es i).most = ((stAt es j).opn.length : Int)
  | 0, _ => ⟨fun j hj => by rw [Nat.le_zero.mp hj]; exact Int.le_refl _, 0, Nat.le_refl _, rfl⟩
  | i + 1, h => by
    obtain ⟨h1, j0, hj0, e0⟩ := most_max es i (by omega)
    have e1 : es[i]? = some es[i] := List.getElem?_eq_getElem (by omega)
    have st := stAt_succ e1
    have hi := h1 i (Nat.le_refl _)
    have key : (∀ j, j ≤ i → ((stAt es j).opn.length : Int) ≤ (stAt es (i + 1)).most) ∧ ((stAt es (i + 1)).opn.length : Int) ≤ (stAt es (i + 1)).most ∧ ((stAt es (i + 1)).most = (stAt es i).most ∨ (stAt es (i + 1)).most = ((stAt es (i + 1)).opn.length : Int)) := by
      rw [st]
      cases es[i] with
      | op n =>
        simp only [WSt.step]
        refine ⟨fun j hj => ?_, by omega, by omega⟩
        have := h1 j hj
        omega
      | sh n =>
        simp only [WSt.step]
        have := List.length_filter_le (fun m => decide (m ≠ n)) (stAt es i).opn
        exact ⟨h1, by omega, by first | exact .inl rfl | exact .inl trivial⟩
      | _ => simp only [WSt.step]; exact ⟨h1, hi, by first | exact .inl rfl | exact .inl trivial⟩
    refine ⟨fun j hj => ?_, ?_⟩
    · rcases Nat.lt_or_ge j (i + 1) with q | q
      · exact key.1 j (by omega)
      · rw [show j = i + 1 by omega]; exact key.2.1
    · rcases key.2.2 with q | q
      · exact ⟨j0, by omega, by rw [q, e0]⟩
      · exact ⟨i + 1, Nat.le_refl _, q⟩
theorem mem_flaws {es : List Ev} {i : Nat} {e : Ev} (h : es[i]? = some e) : (((i : Nat) : Int) ∈ flawsOf es) ↔ (stAt es i).ret e = false := by
  unfold flawsOf
  rw [List.mem_filterMap]
  constructor
  · rintro ⟨j, _, hj⟩
    cases e1 : es[j]? with
    | none => rw [e1] at hj; cases hj
    | some e2 =>
      rw [e1, Option.bind_some] at hj
      by_cases q : (stAt es j).ret e2 = true
      · rw [if_pos q] at hj; cases hj
      · rw [if_neg q] at hj
        have e3 : (j : Int) = (i : Int) := Option.some.inj hj
        have e4 : j = i := by omega
        subst e4
        rw [h] at e1
        cases e1
        simpa using q
  · intro q
    refine ⟨i, List.mem_range.mpr (List.getElem?_eq_some_iff.mp h).1, ?_⟩
    rw [h, Option.bind_some, q]
    rfl
theorem stAt_seen (es : List Ev) : ∀ i, i ≤ es.length → (stAt es i).seen = (i : Nat)
  | 0, _ => rfl
  | i + 1, h => by
    have e1 : es[i]? = some es[i] := List.getElem?_eq_getElem (by omega)
    have ih := stAt_seen es i (by omega)
    rw [stAt_succ e1]
    cases es[i] <;> simp only [WSt.step] <;> omega
theorem opn_ok {es : List Ev} (ok : ∀ e ∈ es, e.ok) : ∀ i, ∀ n ∈ (stAt es i).opn, 0 ≤ n ∧ n ≤ 1000
  | 0, n, hn => nomatch hn
  | i + 1, n, hn => by
    cases h : es[i]? with
    | some e =>
      rw [stAt_succ h] at hn
      have oe := ok e (List.mem_of_getElem? h)
      cases e with
      | op m =>
        have hn2 : n ∈ (if m ∈ (stAt es i).opn then (stAt es i).opn else (stAt es i).opn ++ [m]) := hn
        split at hn2
        · exact opn_ok ok i n hn2
        · rcases List.mem_append.mp hn2 with q | q
          · exact opn_ok ok i n q
          · rw [List.mem_singleton.mp q]; exact oe
      | sh m => exact opn_ok ok i n (List.mem_filter.mp hn).1
      | _ => exact opn_ok ok i n hn
    | none =>
      have hl := List.getElem?_eq_none_iff.mp h
      have e1 : stAt es (i + 1) = stAt es i := by unfold stAt; rw [List.take_of_length_le (by omega), List.take_of_length_le (by omega)]
      rw [e1] at hn
      exact opn_ok ok i n hn
theorem sm_ints {ns : List Int} (h : ∀ n ∈ ns, 0 ≤ n ∧ n ≤ 1000) : (ns.map V.int).all smV = true := List.all_eq_true.mpr fun v hv => by
  obtain ⟨n, hn, rfl⟩ := List.mem_map.mp hv
  have := h n hn
  exact sm_int (by omega)
/-- a heap without two addresses -/
def hwo (H : Hp) (x l : Addr) : Hp := fun b => if b = x then none else if b = l then none else H b
theorem hwo_of {H : Hp} {x l b : Addr} {o : HO} (e : H b = some o) (n1 : b ≠ x) (n2 : b ≠ l) : hwo H x l b = some o := by
  unfold hwo
  rw [if_neg n1, if_neg n2]
  exact e
theorem hwo_same {H H' : Hp} {x l : Addr} (s : Same H H') : Same (hwo H x l) H' := fun b o e => by
  unfold hwo at e
  split at e
  · cases e
  · split at e
    · cases e
    · exact s b o e
def spWatched : Sp := sp1 fun x H Q _ => ∃ p es, x = .ref p ∧ LogAt true H p es ∧ ∀ H', Same H H' → Q (.bl true) H'
theorem sc__law_watched_right : FnScope ["_law_log_here", "_law_one", "_law_other", "_law_states_here", "_law_bad", "_law_at", "_law_event", "_law_now", "_law_caught", "error"] ["_law_log_here"] (defScope (top 38)) := ⟨rfl, rfl, rfl, by decide +kernel, rfl, by decide +kernel, by decide +kernel⟩
theorem c__law_watched_right (T : Sy K mg) (XB : XBad K) : Cal true P w K mg base CX0 9 "_law_watched_right" spWatched := by
  refine T.cal (F_law_watched_right T) sc__law_watched_right sp1_len (fun cdv f A outer s H vs Q E z h => ?_) (fun _ _ _ _ _ _ us hl => match us, hl with | [_], _ => rfl)
  have hu1 := hu_1 z; have hu2 := hu_2 z; have hu3 := hu_3 z
  obtain ⟨_, rfl, p, es, rfl, lg, q⟩ := h
  refine ⟨_, (pss_cons (ps_par (i := 1) (j := 2) (by rfl) sc__law_watched_right.nd rfl rfl (by decide) rfl rfl (pa_cons (pe_mk0 (m_Watcher T) z) (pa_cons (pe_mk0 (m_Watcher T) z) pa_nil)) (by rfl)) (pss_cons (ps_par (i := 3) (j := 4) (by rfl) sc__law_watched_right.nd rfl rfl (by decide) rfl rfl (pa_cons (pe_c (c__law_states T) z (pa_cons (pv 0) pa_nil)) (pa_cons (pe_c (c__law_flaws T) z (pa_cons (pv 0) pa_nil)) pa_nil)) (by rfl)) (pss_cons (ps_for PassesOwn.never (by rfl) (pi_enum2K (K := K) rfl (by rfl) (T.free "enumerate") (pv 0)) (pg_tupK (K := K) rfl (by rfl) (pgs_cons (pg_name (i := 5) sc__law_watched_right.nd rfl (by first | exact Or.inl rfl | exact Or.inr rfl)) (pgs_cons (pg_name (i := 6) sc__law_watched_right.nd rfl (by first | exact Or.inl rfl | exact Or.inr rfl)) pgs_nil))) (pss_cons (ps_if (pt_cmpR (r := rNe2 K) (op_ne2 hu1) (pe_callB (r := rRepr K) (call_repr z) (by rfl) (T.free "repr") (by decide +kernel) (pa_cons (pe_wq T rfl rfl z (pv 1) (pa_cons (pv 6) pa_nil)) pa_nil)) (pe_callB (r := rRepr K) (call_repr z) (by rfl) (T.free "repr") (by decide +kernel) (pa_cons (pe_cmpR (r := rNotIn2 K) (op_notIn2 hu2) (pv 5) (pv 4) rfl) pa_nil)) (nomark _)) (pss_one (ps_ret pe_bl)) pss_nil) (pss_cons (ps_if (pt_cmpR (r := rNe2 K) (op_ne2 hu1) (pe_callB (r := rRepr K) (call_repr z) (by rfl) (T.free "repr") (by decide +kernel) (pa_cons (pe_prK (K := K) rfl (p_now T) z (pv 1)) pa_nil)) (pe_callB (r := rRepr K) (call_repr z) (by rfl) (T.free "repr") (by decide +kernel) (pa_cons (pe_callTy (r := rTupF K) call_tupF (by rfl) (T.free "tuple") (by decide +kernel) (pa_cons (pe_ix (r := rGet K) (ix_get hu3) (pv 3) (pe_op (r := rAdd2 K) op_add2 (pv 5) pe_int) (fun _ _ => rfl)) pa_nil)) pa_nil)) (nomark _)) (pss_one (ps_ret pe_bl)) pss_nil) (pss_cons (ps_if (pt_cmpR (r := rNe2 K) (op_ne2 hu1) (pe_prK (K := K) rfl (p_seen T) z (pv 1)) (pe_op (r := rAdd2 K) op_add2 (pv 5) pe_int) (nomark _)) (pss_one (ps_ret pe_bl)) pss_nil) (pss_one (ps_if (pt_cmpR (r := rNe2 K) (op_ne2 hu1) (pe_prK (K := K) rfl (p_most T) z (pv 1)) (pe_callB (r := rMax K) (cr_max rfl) (by rfl) (T.free "max") (by decide +kernel) (pa_cons (pe_lc (own := [("_law_now", 7)]) (g := gName 7) (by rfl) sc__law_watched_right.nd (pi_anyK (K := K) rfl (pe_slice (r := rSl2 K) sl_2 (pv 3) po_none (po_some (pe_op (r := rAdd2 K) op_add2 (pv 5) pe_int)))) (blkOk_by (own := [("_law_now", 7)]) (N := ["_law_log_here", "_law_one", "_law_other", "_law_states_here", "_law_bad", "_law_at", "_law_event", "_law_now", "_law_caught", "error"]) (sc := (defScope (top 38))) (by decide +kernel)) (fun _ _ _ _ _ => (pg_name (i := 7) sc__law_watched_right.nd rfl (by first | exact Or.inl rfl | exact Or.inr rfl))) (fun _ _ _ _ _ => pts_nil) (fun _ _ _ _ _ => (pe_callB (r := rLen2 K) call_len2 (by rfl) (T.free "len") (by decide +kernel) (pa_cons (pv 7) pa_nil)))) pa_nil)) (nomark _)) (pss_one (ps_ret pe_bl)) pss_nil)))))) (pss_cons (ps_set (i := 8) sc__law_watched_right.nd rfl (by first | exact Or.inl rfl | exact Or.inr rfl) pe_non) (pss_cons (ps_try_keep (i := 9) (j := 8) rfl rfl rfl sc__law_watched_right.nd rfl rfl rfl rfl ⟨rfl, by decide, .inl (T.glo "ModelError")⟩ (fun W pn xe tk _ => pss_one (ps_expr (pe_wqS T rfl rfl z tk (pv 1) (pa_cons (pe_tup (pa_cons pe_str (pa_cons pe_bl pa_nil))) pa_nil))))) (pss_cons (ps_if (PW.pt (pw_or (pt_not (pt_val (pe_callB (r := rIsK) call_isK (by rfl) (T.free "isinstance") (by decide +kernel) (pa_cons (pv 8) (pa_cons (pe_gl (T.glo "BadLog")) pa_nil))))) (pw_or (pt_cmpR (r := rNe2 K) (op_ne2 hu1) (pe_xk (K := K) rfl (pv 8)) (pe_callB (r := rLen2 K) call_len2 (by rfl) (T.free "len") (by decide +kernel) (pa_cons (pv 0) pa_nil)) (nomark _)) (pw_or1 (pt_cmpR (r := rNe2 K) (op_ne2 hu1) (pe_prK (K := K) rfl (p_seen T) z (pv 1)) (pe_callB (r := rLen2 K) call_len2 (by rfl) (T.free "len") (by decide +kernel) (pa_cons (pv 0) pa_nil)) (nomark _)))))) (pss_one (ps_ret pe_bl)) pss_nil) (pss_one (ps_ret (pe_cmpR (r := rEq2 K) (op_eq2 hu1) (pe_tup (pa_cons (pe_prK (K := K) rfl (p_seen T) z (pv 2)) (pa_cons (pe_prK (K := K) rfl (p_now T) z (pv 2)) (pa_cons (pe_prK (K := K) rfl (p_most T) z (pv 2)) pa_nil)))) (pe_tup (pa_cons pe_int (pa_cons (pe_tup pa_nil) (pa_cons pe_int pa_nil)))) (nomark _)))))))))), ?_⟩
  obtain ⟨vs, h1, h2, ok, hl⟩ := id lg
  have ll : vs.length = es.length := h2.length
  walk_at "yhead"; walk_at "y"
  refine wnew_i fun x dx l H1 ws => ?_
  walk_at "y"
  refine wnew_i fun x2 dx2 l2 H2 ws2 => ?_
  walk_at "y"
  refine ⟨_, _, rfl, ?_⟩
  walk_at "y"
  have s02 := ws.sm.trans ws2.sm
  refine ⟨_, rfl, true, p, es, rfl, lg.same s02, fun S us H3 nS s3 eS prS => ?_⟩
  walk_at "y"
  refine ⟨_, rfl, true, p, es, rfl, lg.same (s02.trans s3), fun B H4 nB s4 eB => ?_⟩
  refine ⟨_, _, rfl, ?_⟩
  walk_at "y"
  have s24 := s3.trans s4
  have s14 := ws2.sm.trans s24
  have hx4 := s14 _ _ ws.at_.1
  have hl4 := s14 _ _ ws.at_.2
  -- what stands apart from the first watcher
  have nx0 : ∀ {b : Addr} {o : HO}, H b = some o → hwo H4 x l b = some o := fun e => hwo_of ((s02.trans s24) _ _ e) (ne_of_none e ws.x0) (ne_of_none e ws.l0)
  have new1 : ∀ {b : Addr} {o : HO}, H1 b = none → H4 b = some o → hwo H4 x l b = some o := fun n e => hwo_of e (Ne.symm (ne_of_none ws.at_.1 n)) (Ne.symm (ne_of_none ws.at_.2 n))
  have new2 : ∀ {b : Addr} {o : HO}, H2 b = none → H4 b = some o → hwo H4 x l b = some o := fun n e => new1 (ws2.sm.free n) e
  have kS := new2 nS (s4 _ _ eS)
  have kB := new2 (s3.free nB) eB
  have kx2 := new1 ws2.x0 (s24 _ _ ws2.at_.1)
  have kl2 := new1 ws2.l0 (s24 _ _ ws2.at_.2)
  have kst : ∀ j, j ≤ es.length → ∃ a, us[j]? = some (.ref a) ∧ hwo H4 x l a = some (.lst ((stAt es j).opn.map V.int)) := fun j hj => by
    obtain ⟨u, hu, a0, rfl, n0, ha0⟩ := paired_at prS (i := j) (y := (stAt es j).opn) (by unfold statesOf; rw [List.getElem?_map, List.getElem?_range (by omega)]; rfl)
    exact ⟨a0, hu, new2 n0 (s4 _ _ ha0)⟩
  have lus : us.length = es.length + 1 := by rw [prS.length]; unfold statesOf; simp
  have ws0 : WS K (hwo H4 x l) H4 x dx l .new := ⟨by unfold hwo; rw [if_pos rfl], by unfold hwo; split; rfl; rw [if_pos rfl], hwo_same (Same.refl _), hx4, hl4⟩
  refine for_eb true ?_
  walk_at "y"
  refine ⟨p, vs, rfl, SqL.of ((s02.trans s24) _ _ h1), for_it (walk_eb (b := true)) (Pv := fun i σ H' => ∃ l' a c d e f, σ = [some (.ref p), some (.ref x), some (.ref x2), some (.ref S), some (.ref B), a, c, d, e, f] ∧ WS K (hwo H4 x l) H' x dx l' (stAt es i)) ⟨l, none, none, none, none, none, rfl, ws0⟩ (fun i σ H' _ hp => let ⟨_, _, _, _, _, _, _, ws⟩ := hp; ws.sm _ _ (nx0 h1)) (fun i v σ H5 H6 hi hp y => ?_) fun σ H' hp => ?_⟩
  · obtain ⟨l', a, c, d, e, f', rfl, wsi⟩ := hp
    obtain ⟨tt, v1, v2, rfl, ht, rfl, e1, e2⟩ := y
    cases e1
    have sY := same_upd (o := .tup [.int i, v2]) ht
    have ws6 := wsi.mono sY
    have prE : Paired (TR Ev.xs (upd H5 tt (.tup [.int i, v2]))) vs es := h2.mono fun v a h => let ⟨g, eg, hg⟩ := h; ⟨g, eg, ws6.sm _ _ (nx0 hg)⟩
    obtain ⟨t, ev, rfl, e3, e4⟩ := LogAt.get (b := true) (p := p) prE e2
    refine gTup_i (SqT.of upd_same) ?_
    generalize upd H5 tt (.tup [.int i, .ref t]) = H6 at *
    have okE := ok _ (List.mem_of_getElem? e3)
    have hol : (stAt es i).opn.length ≤ 100 := Nat.le_trans (stAt_opn es i) (by omega)
    walk_at "y"
    refine ⟨x, rfl, ?_⟩
    walk_at "y"
    refine wq_i ws6 hol e4 okE fun l7 H7 ws7 _ _ => ?_
    rw [← stAt_succ e3] at ws7
    walk_at "y"
    refine ⟨.bl _, .bool ((stAt es i).ret ev), rfl, .bl _, (Sm.bl _).mono (by decide) (by decide), ?_⟩
    walk_at "y"
    refine rNotIn2_f (b := true) (SqL.of (ws7.sm _ _ kB)) rfl (flat_ints _) ?_
    rw [inV_ints]
    refine ⟨.bl _, .bool (!decide (((i : Nat) : Int) ∈ flawsOf es)), rfl, .bl _, (Sm.bl _).mono (by decide) (by decide), ?_⟩
    have eret : (stAt es i).ret ev = !decide (((i : Nat) : Int) ∈ flawsOf es) := by
      have m := mem_flaws e3
      cases hr : (stAt es i).ret ev with
      | true => rw [decide_eq_false (fun z => by rw [m.mp z] at hr; cases hr)]; rfl
      | false => rw [decide_eq_true (m.mpr hr)]; rfl
    rw [eret]
    refine rNe2_ss ?_
    refine ⟨_, rfl, iteNDT rfl ?_⟩
    walk_at "y"
    have smO := sm_ints (opn_ok ok (i + 1))
    have lnO := stAt_opn es (i + 1)
    obtain ⟨a1, hu1', k1'⟩ := kst (i + 1) (by omega)
    refine ⟨x, dx, _, rfl, ws7.at_.1, _, rfl, x, dx, l7, _, rfl, ws7.at_, fun t1 o1 H8 n1 s8 k1 _ _ => ?_⟩
    have ws8 := ws7.mono s8
    walk_at "y"
    refine ⟨.ref t1, _, rfl, dp_tup (SqT.frz k1) (all_pl smO), (sm_tup smO).mono (by decide) (by rw [List.length_map]; omega), ?_⟩
    walk_at "y"
    refine rGet_l (n := i + 1) (SqL.of (ws8.sm _ _ kS)) hu1' ?_ (by omega)
    walk_at "y"
    refine ⟨a1, _, rfl, SqL.of (ws8.sm _ _ k1'), fun t2 o2 n2 _ _ => ?_⟩
    have s9 := same_upd (H := H8) (o := .frz o2 (.tup ((stAt es (i + 1)).opn.map V.int))) n2
    have k2 := upd_same (H := H8) (a := t2) (o := .frz o2 (.tup ((stAt es (i + 1)).opn.map V.int)))
    generalize upd H8 t2 (.frz o2 (.tup ((stAt es (i + 1)).opn.map V.int))) = H9 at s9 k2 ⊢
    have ws9 := ws8.mono s9
    walk_at "y"
    refine ⟨.ref t2, _, rfl, dp_tup (SqT.frz k2) (all_pl smO), (sm_tup smO).mono (by decide) (by rw [List.length_map]; omega), ?_⟩
    refine rNe2_ss ?_
    refine ⟨_, rfl, iteNDT rfl ?_⟩
    walk_at "y"
    refine ⟨x, dx, _, rfl, ws9.at_.1, _, rfl, x, dx, l7, _, rfl, ws9.at_, ?_⟩
    rw [stAt_seen es (i + 1) (by omega)]
    walk_at "y"
    refine ⟨x, dx, _, rfl, ws9.at_.1, _, rfl, x, dx, l7, _, rfl, ws9.at_, ?_⟩
    walk_at "y"
    refine lc_b true ?_
    walk_at "y"
    refine ⟨_, rfl, ?_⟩
    refine rSl2_b (b := true) (SqL.of (ws9.sm _ _ kS)) fun g HA hg sA => ?_
    rw [show ((i : Nat) : Int) + 2 = ((i + 2 : Nat) : Int) by omega, cut_to] at hg
    refine ⟨g, rfl, ⟨_, hg⟩, lc_pure (walk_sb (b := true) (xs := us.take (i + 2))) (sz4 (by rw [List.length_take]; omega)) (fun j => some (((stAt es j).opn.length : Nat) : Int)) (firm_FR V.int) (fun H' s => SqB.same (b := true) hg s) (fun i H0 x H1 y => by obtain ⟨rfl, _⟩ := y; exact Same.refl _) (fun j v H0 HB hj s0 sB y N C hC hN => ?_) fun F HB ws' hF sB hB pr => ?_⟩
    · obtain ⟨rfl, e5⟩ := y
      rw [List.length_take] at hj
      rw [List.getElem?_take, if_pos (by omega)] at e5
      obtain ⟨aj, hj1, hj2⟩ := kst j (by omega)
      rw [hj1] at e5
      cases e5
      walk_at "y"
      refine ⟨rfl, ?_⟩
      walk_at "y"
      refine rLen2_l (n := (stAt es j).opn.length) (SqL.of ((sA.trans sB) _ _ (ws9.sm _ _ hj2))) ?_ (List.length_map ..)
      exact hC _ _ _ (Same.refl _) rfl rfl
    · rw [paired_FR pr, List.length_take, show min (i + 2) us.length = i + 2 by omega] at hB
      walk_at "y"
      obtain ⟨mm, j0, hj0, em⟩ := most_max es (i + 1) (by omega)
      refine ⟨F, _, rfl, SqL.of hB, ?_, fun m hm hle => ?_⟩
      · rw [show (List.range (i + 2)).filterMap (fun j => some (((stAt es j).opn.length : Nat) : Int)) = (List.range (i + 2)).map fun j => (((stAt es j).opn.length : Nat) : Int) from congrFun (List.filterMap_eq_map (f := fun j : Nat => (((stAt es j).opn.length : Nat) : Int))) _]
        simp
      · have em2 : m = (stAt es (i + 1)).most := by
          obtain ⟨j, hj, ej⟩ := List.mem_filterMap.mp hm
          cases ej
          have h5 := mm j (by have := List.mem_range.mp hj; omega)
          have h6 := hle (((stAt es j0).opn.length : Nat) : Int) (List.mem_filterMap.mpr ⟨j0, List.mem_range.mpr (by omega), rfl⟩)
          omega
        rw [em2]
        refine rNe2_i ?_
        refine ⟨_, rfl, iteNDT rfl ?_⟩
        walk_at "y"
        exact ⟨l7, _, _, _, _, _, rfl, (ws9.mono sA).mono sB⟩
  · obtain ⟨l', a, c, d, e, f', rfl, wsi⟩ := hp
    walk_at "y"
    refine tCallOS_i ?_
    walk_at "y"
    refine ⟨x, rfl, ?_⟩
    walk_at "y"
    refine ⟨sz4 (by simp), fun T1 nT1 => ?_⟩
    have sH7 := same_upd (H := H') (o := .tup [.str "open", .bl true]) nT1
    have eT1 := upd_same (H := H') (a := T1) (o := .tup [.str "open", .bl true])
    generalize upd H' T1 (.tup [.str "open", .bl true]) = H7 at sH7 eT1 ⊢
    have ws7 := wsi.mono sH7
    walk_at "y"
    refine ⟨⟨_, _, ws7.at_.1⟩, _, _, rfl, x, dx, l', _, rfl, ws7.at_, Nat.le_trans (stAt_opn es _) (by omega), .inr ⟨T1, rfl, eT1, fun d8 H8 nd s8 kd => ?_⟩⟩
    refine ⟨He.ga K "BadLog", d8, rfl, rfl, XB.m, fun a9 na => ?_⟩
    have s9 := same_upd (o := exk a9 (He.ga K "BadLog") d8) na
    have k9 := upd_same (H := H8) (a := a9) (o := exk a9 (He.ga K "BadLog") d8)
    have kd9 := s9 _ _ kd
    generalize upd H8 a9 (exk a9 (He.ga K "BadLog") d8) = H9 at s9 k9 kd9 ⊢
    have ws9 := (ws7.mono s8).mono s9
    have sn : (stAt es vs.length).seen = (vs.length : Nat) := stAt_seen es _ (by omega)
    rw [sn] at kd9
    dsimp only [List.set]
    walk_at "y"
    refine ⟨a9, _, d8, rfl, k9, ?_⟩
    walk_at "y"
    refine tXk_i ?_
    walk_at "y"
    refine ⟨a9, _, d8, [("index", .int (vs.length : Nat))], .int (vs.length : Nat), rfl, k9, XB.x, (exBad T).n, kd9, by kernel_rfl, ?_⟩
    walk_at "y"
    have hp9 := ws9.sm _ _ (nx0 h1)
    refine rLen2_l (n := vs.length) (SqL.of hp9) ?_
    refine rNe2_i ?_
    refine ⟨_, rfl, iteNDT rfl ?_⟩
    walk_at "y"
    refine ⟨x, dx, _, rfl, ws9.at_.1, _, rfl, x, dx, l', _, rfl, ws9.at_, ?_⟩
    rw [sn]
    walk_at "y"
    refine rLen2_l (n := vs.length) (SqL.of hp9) ?_
    refine rNe2_i ?_
    refine ⟨_, rfl, iteNDT rfl ?_⟩
    walk_at "y"
    have w2 : WAt K H9 x2 dx2 l2 .new := ⟨ws9.sm _ _ kx2, ws9.sm _ _ kl2⟩
    refine ⟨x2, dx2, _, rfl, w2.1, _, rfl, x2, dx2, l2, _, rfl, w2, ?_⟩
    walk_at "y"
    refine ⟨x2, dx2, _, rfl, w2.1, _, rfl, x2, dx2, l2, _, rfl, w2, fun t1 o1 HA n1 sA k1 _ _ => ?_⟩
    walk_at "y"
    refine ⟨x2, dx2, _, rfl, sA _ _ w2.1, _, rfl, x2, dx2, l2, _, rfl, ⟨sA _ _ w2.1, sA _ _ w2.2⟩, ?_⟩
    walk_at "y"
    refine ⟨sz4 (by simp), fun T2 nT2 => ?_⟩
    have sHB := same_upd (H := HA) (o := .tup [.int WSt.new.seen, .ref t1, .int WSt.new.most]) nT2
    have eT2 := upd_same (H := HA) (a := T2) (o := .tup [.int WSt.new.seen, .ref t1, .int WSt.new.most])
    generalize upd HA T2 (.tup [.int WSt.new.seen, .ref t1, .int WSt.new.most]) = HB at sHB eT2 ⊢
    walk_at "y"
    refine ⟨sz4 (by simp), fun T3 nT3 => ?_⟩
    have sHC := same_upd (H := HB) (o := .tup []) nT3
    have eT3 := upd_same (H := HB) (a := T3) (o := .tup [])
    generalize upd HB T3 (.tup []) = HC at sHC eT3 ⊢
    walk_at "y"
    refine ⟨sz4 (by simp), fun T4 nT4 => ?_⟩
    have sHD := same_upd (H := HC) (o := .tup [.int 0, .ref T3, .int 0]) nT4
    have eT4 := upd_same (H := HC) (a := T4) (o := .tup [.int 0, .ref T3, .int 0])
    generalize upd HC T4 (.tup [.int 0, .ref T3, .int 0]) = HD at sHD eT4 ⊢
    have sBD := sHC.trans sHD
    refine rEq2_d (d := .tuple [.int 0, .tuple [], .int 0]) (e := .tuple [.int 0, .tuple [], .int 0]) (.tup (SqT.of (sBD _ _ eT2)) (.cons (.int _) (.cons (.tup (SqT.frz (sBD _ _ (sHB _ _ k1))) .nil) (.cons (.int _) .nil)))) (.tup (SqT.of eT4) (.cons (.int _) (.cons (.tup (SqT.of (sHD _ _ eT3)) .nil) (.cons (.int _) .nil)))) (by decide +kernel) (by decide +kernel) ?_
    rw [show PyData.eqv (.tuple [.int 0, .tuple [], .int 0]) (.tuple [.int 0, .tuple [], .int 0]) = true by decide +kernel]
    exact q _ fun b o e => sHD _ _ (sHC _ _ (sHB _ _ (sA _ _ (ws9.sm _ _ (nx0 e)))))
end
end L76
namespace L76
open PySem PySem.Spec PyProof.Rows L2
variable {gd : Bool}
local macro_rules | `(tactic| walk_at "y1") => `(tactic| with_reducible first
  | refine tSeq_i ?_ | refine tAsg_i ?_ | refine tCons_i ?_ | refine tNil_i ?_ | refine tC_i ?_ | refine tOp_i ?_ | refine tIfS_i ?_ | refine tTest_i ?_ | refine exBl_i ?_ | refine tRet_i ?_ | refine tCall_i ?_
  | refine tCB_i ?_ | refine tLst_i ?_ | refine tTup_i ?_ | refine rI0_i ?_ | refine tDrop_i ?_ | refine tNext_i ?_ | refine tB_i ?_ | refine tAnd_i ?_ | refine tOr_i ?_ | refine tNot_i ?_ | refine tAndV_i ?_ | refine tOrV_i ?_ | refine tNotV_i ?_
  | refine tIf_i ?_ | refine tUn_i ?_ | refine tDGet_i ?_ | refine sDPut_i ?_ | refine tFld_i ?_ | refine tRetN_i ?_ | refine tBreak_i ?_ | refine tCont_i ?_ | refine rU_i ?_)
local macro_rules | `(tactic| walk_at "yhead") => `(tactic| dsimp only [L2.start, List.map, List.length_cons, List.length_nil, Nat.reduceAdd, Nat.reduceSub, List.replicate, List.cons_append, List.nil_append])
local macro_rules | `(tactic| walk_at "y2") => `(tactic| first
  | walk_at "y1"
  | ((with_reducible refine tVar_i (v := ?v) ?h ?q); (case h => rfl))
  | ((with_reducible refine gName_i ?_); (dsimp only [List.set]))
  | ((with_reducible refine rEq_i ?h ?q); (case h => rfl)) | ((with_reducible refine rNe_i ?h ?q); (case h => rfl)))
local macro_rules | `(tactic| walk_at "y") => `(tactic| repeat walk_at "y2")
/-! own exceptions over any base: the class's facts, its making, self.f = v -/
open Builtin Builtin.ObjectAttr in
theorem osaT {prog : Program} {w : World} {A : Around} {R : Result → Shared → Prop} {hp : Heap} {g : Array GenState} {d : Drawn} {t : Nat} {os : OsState} {K : PySem.W.Frag} {name : Str} {tk : Tok} {v : Value} {x C : Addr} {fv : Array Value} {B newId initId : String} {bmB : List Value} (T : OexT K C B newId initId bmB)
    (X : K.In hp) (hx : hp.get? x = some { cls := .ref C, data := .fields fv }) (ht : PySem.W.takerIn K C name = some none)
    (hq : ∀ h' tk' dx, (∀ b o, b ≠ x → hp.get? b = some o → h'.get? b = some o) → hp.objs.size ≤ dx → dx ≠ x → h'.get? x = some { cls := .ref C, dict := some dx, data := .fields fv } →
      h'.Ns1 dx (fun y => if y = name then some v else none) → R (.ok (.ret .none)) ⟨h', g, d, tk', os⟩) :
    codeAny (model prog w) A (.call (.builtin "object.__setattr__") ⟨[.ref x, .str name tk, v], []⟩) R ⟨hp, g, d, t, os⟩ := by
  have I : PySem.W.InstAt hp x { cls := .ref C, data := .fields fv } C none := ⟨hx, rfl, rfl, trivial⟩
  have hxs : x ≠ hp.objs.size := Nat.ne_of_lt (Heap.lt_size hx)
  refine PySem.W.osa_openX T.SF X I T.ov ht fun b => ?_
  obtain ⟨cd, hcd, hh⟩ := PySem.W.any_some T.hd
  have hcls : PySem.W.Looks (model prog w) hp (classData C) cd := PySem.W.looks_clsIn X hcd
  obtain ⟨nm, bs, mro, ns, qn, hdc, sn, sb, ab, col, del⟩ := cd
  dsimp only at hh
  subst hh
  show wpAny _ _ (storeInOwnDict (.ref x) (.ref C) (.str name tk) name v b) _ _ _
  unfold storeInOwnDict ownDictForStores
  repeat (first | with_reducible refine PySem.HandSPX.store_in_new ?_ ?_ | with_reducible refine wpAny_loadPart_at hx ?_ | with_reducible refine hcls.at ?_ | wp_step)
  · exact ⟨_, #[], _, (Heap.get?_update_ne _ _ _ _ hxs.symm).trans (Heap.get?_push_at rfl rfl), rfl, fun e he => absurd he (by simp), fun _ => rfl⟩
  · intro h' tk' hn' hs
    have hx₁ : (hp.push { cls := .type "dict", data := .dict #[] }).get? x = some { cls := .ref C, data := .fields fv } := Heap.get?_push_of_some _ hx
    refine hq h' tk' hp.objs.size (fun b o hb ho => ?_) (Nat.le_refl _) hxs.symm ?_ hn'
    · exact (hs.2 b (Nat.ne_of_lt (Heap.lt_size ho))).trans ((Heap.get?_update_ne _ _ _ _ hb).trans (Heap.get?_push_of_some _ ho))
    · exact (hs.2 x hxs).trans (Heap.get?_update_self _ hx₁ rfl)
section
variable {X : Cx} {pins : List (Addr × Obj)} {σ : L2.St} {H : Hp} {s : Shared} {a C : Addr} {B newId initId : String} {bmB : List Value}
theorem ostT {f : Str} {y : V} {u : Value} {Q : Unit → Shared → Prop} {E : Value → Shared → Prop} {A : Around} (T : OexT X.K C B newId initId bmB) (I : Inv X pins σ H s) (e : H a = some (exo a C none)) (ht : PySem.W.takerIn X.K C f = some none) (ry : L2.RelV y u)
    (h : ∀ dx s', H dx = none → dx ≠ a → Inv X pins σ (upd (upd H dx (exd dx [(f, y)])) a (exo a C (some dx))) s' → Q () s') : wpAny (model X.prog X.w) A (setAttr (.ref a) f u) Q E s := by
  obtain ⟨t1, ho⟩ := exo_at I.hok e
  obtain ⟨hp, g, d, t, os⟩ := s
  refine PySem.W.set_plain I.kIn (ox := { cls := .ref C, dict := none, data := .fields #[.ref t1, .none, .none, .none, .bool false, .none] }) (od := none) ⟨ho, rfl, rfl, trivial⟩ T.sa ?_
  refine osaT T I.kIn ho ht fun h' tk' dx k dn dne hx hn => ?_
  have hnd : H dx = none := I.hok.fresh dn
  have nd : ∀ {b : Addr} {o : Obj}, hp.get? b = some o → b ≠ dx := fun {b o} q => Nat.ne_of_lt (Nat.lt_of_lt_of_le (Heap.lt_size q) dn)
  have na : ∀ {b : Addr}, H b = none → b ≠ a := fun {b} n z => by
    rw [z, e] at n
    cases n
  have U : Un X.fs [] H (upd (upd H dx (exd dx [(f, y)])) a (exo a C (some dx))) hp h' :=
    ⟨fun b o q n _ _ => k b o (na n) q, fun b o q n _ _ => ⟨o.slots, k b o (na n) q⟩, fun b o q n _ => by rw [upd_ne (na n), upd_ne (nd q)]; exact n, fun b o q _ => by
      by_cases hb : b = a
      · exact ⟨_, by rw [hb]; exact hx⟩
      · exact ⟨o, k b o hb q⟩, fun b xs q => by rw [upd_ne (at_ne e q exo_tup), upd_ne (ne_of_none q hnd)]; exact q, fun b o v q => by rw [upd_ne (at_ne e q exo_frz), upd_ne (ne_of_none q hnd)]; exact q,
      fun b ps q => ⟨#[], by rw [upd_ne (at_ne e q exo_tbl), upd_ne (ne_of_none q hnd), q]; simp⟩⟩
  refine h dx _ hnd dne (I.un (t' := tk') U fun b o q => ?_)
  by_cases hb : b = a
  · subst hb
    rw [upd_same] at q
    cases q
    exact exo_ok hx
  · rw [upd_ne hb] at q
    by_cases hd : b = dx
    · subst hd
      rw [upd_same] at q
      cases q
      exact exd_ok hn (relO_put (fs := []) ry fun g => True.intro)
    · rw [upd_ne hd] at q
      refine (I.hok b o q).stay (fun c v hc z => k c v ?_ z) (fun c hc => by rw [upd_ne (at_ne e hc exo_own), upd_ne (ne_of_none hc hnd)]; exact hc) fun c xs hc => by rw [upd_ne (at_ne e hc exo_tup), upd_ne (ne_of_none hc hnd)]; exact hc
      rcases hc with hc | hc
      · rw [hc]; exact hb
      · exact at_ne e hc exo_own
/-- the base's __init__(self, ..) -/
theorem oinitT {us : List Value} {Q : Value → Shared → Prop} (T : OexT X.K C B newId initId bmB) (I : Inv X pins σ H s) (e : H a = some (exo a C none)) (hl : us.length ≤ sizeLine) (h : ∀ s', Inv X pins σ H s' → Q .none s') :
    wpAny (model X.prog X.w) X.A (call (.builtin initId) (.ref a :: us)) Q X.xe s := by
  obtain ⟨nm, N, q, bs, bm, hdct, sn, sub, ab, col, dd, k0, k1, k2, k3, k5, hC, hT⟩ := PySem.W.excInit_of I.kIn T.q
  obtain ⟨t1, ho⟩ := exo_at I.hok e
  obtain ⟨hp, g, d, t, os⟩ := s
  refine wpAny_call (PySem.HandSPX.init_base T.F hT hC ho hl fun h' t2 k hx => ?_)
  have J := I.write (t' := t) (x := a) (e := a) (o := exo a C none) (by rw [e]; exact True.intro) (.inl rfl) k ⟨_, hx⟩ (exo_ok hx)
  have eu : upd H a (exo a C none) = H := by
    funext b
    by_cases hb : b = a
    · rw [hb, upd_same, e]
    · rw [upd_ne hb]
  rw [eu] at J
  exact h _ J
end
section
variable {X : Cx} {C : Addr} {B newId initId : String} {bmB : List Value} {k : Nat} {fI : Addr} {fd : FuncData} {ps : List Str} {sp : Sp} {x f m : Str} {e o : Expr} {es : List Expr} {ta : TA} {to te : TE} {p p' p1 p2 pos : Pos}
theorem pmkT {ds : List Value} {dvs : List V} (T : OexT X.K C B newId initId bmB) (iC : PySem.W.findIn X.K (.ref C) "__init__" = some (some (.ref fI))) (tI : PySem.W.typeIn X.K (.ref fI) = some (.type "function"))
    (F1 : FnOk X.prog X.w X.K X.mg X.base CX0 k fI fd ps sp) (hr : Room (k + 1) X.A) (hb : Binds X.K fd ps ds) (hd : Vals dvs ds) (hg : Gl X x) (hm : X.mg x = some (.ref C)) (ha : PA X (e :: es) ta)
    (hdb : (x == ("__debug__" : Str)) = false := by decide) (he : starEach (e :: es) X.env = (false, eval e X.env) :: starEach es X.env := by rfl) (hpl : (backTo pos (starEach es X.env)).any (·.1) = false := by rfl) :
    PMk X (.Call (.Name x p) (e :: es) [] pos) (tMkO C sp dvs ta) := by
  intro pins s σ H Q I h
  refine wpAny_Call_Name_kw (ld_glob I hg hm ?_ hdb)
  refine PySem.W.callWith_K (h₀ := X.base) I.ok.mod.kin T.kC (thn (ha.run pos pins s σ H _ I h) fun us s1 ⟨vs, H1, I1, r1, hz, q1⟩ => ⟨I1.kIn, ?_⟩) he hpl
  show wpAny _ _ (call (.ref C) us) _ _ _
  obtain ⟨nm, N, q, bs, bm, hdct, sn, sub, ab, col, dd, k0, k1, k2, k3, k5, hC, hT⟩ := PySem.W.excInit_of I1.kIn T.q
  obtain ⟨hp, g, dr, tk, os⟩ := s1
  have hsz : hp.objs.size ≤ hp.objs.size + 1 := Nat.le_succ _
  have hn : H1 (hp.objs.size + 1) = none := I1.hok.fresh hsz
  have hq := q1 (hp.objs.size + 1) hn
  have kk : ∀ b o, hp.get? b = some o → ((hp.push (PySem.W.kdv_tup us)).push (PySem.HandSPX.excO C hp.objs.size)).get? b = some o := fun b o e => Heap.get?_push_of_some _ (Heap.get?_push_of_some _ e)
  have hget : ((hp.push (PySem.W.kdv_tup us)).push (PySem.HandSPX.excO C hp.objs.size)).get? (hp.objs.size + 1) = some (PySem.HandSPX.excO C hp.objs.size) := by heap_get
  have I2 : Inv X pins σ (upd H1 (hp.objs.size + 1) (exo (hp.objs.size + 1) C none)) ⟨(hp.push (PySem.W.kdv_tup us)).push (PySem.HandSPX.excO C hp.objs.size), g, dr, tk, os⟩ :=
    I1.laid (t' := tk) (a := hp.objs.size + 1) (o := exo (hp.objs.size + 1) C none) (h' := (hp.push (PySem.W.kdv_tup us)).push (PySem.HandSPX.excO C hp.objs.size)) kk hsz (exo_ok hget)
  have r2 : Vals (V.ref (hp.objs.size + 1) :: (vs ++ dvs)) (Value.ref (hp.objs.size + 1) :: (us ++ ds)) := .cons rfl (r1.append hd)
  have hl : (Value.ref (hp.objs.size + 1) :: us ++ ds).length = ps.length := by
    have e := r2.length
    rw [F1.len _ _ _ _ hq] at e
    exact e.symm
  have hus : us.length ≤ sizeLine := by
    rw [← Paired.length r1, sizeLine_eq]
    omega
  refine wpAny_call (PySem.HandSPX.call_own T.F hT hC (PySem.W.looks_findIn I1.kIn iC) (fun self => PySem.W.bind_fn I1.kIn self tI) hus
    (codeAny_mono (F1.run _ X.stack _ _ ⟨Value.ref (hp.objs.size + 1) :: us, []⟩ (Value.ref (hp.objs.size + 1) :: (us ++ ds)) _ _ (fun _ _ _ => False) (hr.make C us []) (I2.env0.make C us []) (hb _ (Value.ref (hp.objs.size + 1) :: us) I2.kIn hl) r2 hq) fun r s' hq' => ?_))
  cases r with
  | error er => exact False.elim hq'
  | ok fl =>
    cases fl with
    | ret u =>
      obtain ⟨v, H2, os2, bare2, un2, hok2, rv, ev, d, fs, ea, ed, hd1, q2⟩ := hq'
      subst ev
      obtain ⟨h2, g2, d2, t2, os'⟩ := s'
      exact ⟨rv, mk_end (raises_own T.exC T.tyC) I1 hsz kk un2 hok2 os2 bare2 ea ed hd1 q2⟩
    | next => exact False.elim hq'
    | brk => exact False.elim hq'
    | cont => exact False.elim hq'
def tBiT (K : PySem.W.Frag) (C : Addr) (ta : TA) : TE := fun σ H Q => ta σ H fun vs H1 => ∃ (a : Addr) (ws : List V), vs = .ref a :: ws ∧ ws.length ≤ 1000 ∧ H1 a = some (exo a C none) ∧ Q .non H1
theorem pe_binit {pl : Sem Bool} (T : OexT X.K C B newId initId bmB) (V : BiC X.K m initId) (hh : PySem.W.handedIn (.builtin initId) = true) (hg : Gl X m) (hm : X.mg m = some (.ref (He.ga X.K m))) (ha : PA X (e :: es) ta)
    (hc : eval (.Call (.Attribute (.Name m p1) "__init__" p2) (e :: es) [] pos) X.env = (do
      let ov ← eval (.Name m p1) X.env
      standAt p2.atName
      let (f, first) ← holding [ov] (getMethod ov "__init__" pl)
      callWith pos f first (backTo pos (starEach (e :: es) X.env)) (backToKw pos (keywordEach [] X.env))) := by rfl)
    (he : starEach (e :: es) X.env = (false, eval e X.env) :: starEach es X.env := by rfl) (hpl : (backTo pos (starEach es X.env)).any (·.1) = false := by rfl) (hdb : (m == ("__debug__" : Str)) = false := by decide) :
    PE X (.Call (.Attribute (.Name m p1) "__init__" p2) (e :: es) [] pos) (tBiT X.K C ta) := by
  refine ⟨fun pins s σ H Q I h => ?_⟩
  refine PySem.W.methodCall_KW (ld_glob I hg hm ?_ hdb) hc
  refine PySem.W.method_cls I.kIn V.g (PySem.W.cls_value I.kIn V.r V.f hh ?_)
  show wpAny _ _ (callWith pos (Value.builtin initId) [] (backTo pos (starEach (e :: es) X.env)) []) _ _ _
  refine PyProof.Rows.callWith_method1 (thn (ha.run pos pins _ σ H _ (I.tok _) h) fun us s1 ⟨vs, H1, I1, r1, a, ws, ev, hl, ea, q⟩ => ?_) he hpl
  subst ev
  cases r1 with
  | @cons _ u0 _ ur ra rw' =>
    obtain rfl : u0 = Value.ref a := ra
    exact oinitT T I1 ea (by rw [← rw'.length, sizeLine_eq]; omega) fun s' J => ⟨.non, H1, J, rfl, q⟩
/-- self.f = e -/
def tOsT (C : Addr) (f : Str) (to te : TE) : TS := fun D σ H => te σ H fun y H1 => to σ H1 fun x H2 => ∃ a : Addr, x = .ref a ∧ H2 a = some (exo a C none) ∧ ∀ dx, H2 dx = none → dx ≠ a → D.nx σ (upd (upd H2 dx (exd dx [(f, y)])) a (exo a C (some dx)))
theorem ps_ostT (T : OexT X.K C B newId initId bmB) (ht : PySem.W.takerIn X.K C f = some none) (ho : PE X o to) (he : PE X e te) (hs : swapsWith e (some (.Attribute o f p')) pos.line X.env = pure false := by rfl) : PS X (.Assign [.Attribute o f p'] e pos) (tOsT C f to te) := by
  refine ⟨fun pins s σ H D I h => ?_⟩
  refine plainObj_wpAny_Assign_Attribute (thn (he.run pins s σ H _ I h) fun v s1 ⟨y, H1, I1, r1, q1⟩ => thn (ho.run pins s1 σ H1 _ I1 q1) fun u s2 ⟨x, H2, I2, r2, a, ex, ea, q⟩ => ?_) hs
  subst ex
  obtain rfl : u = Value.ref a := r2
  exact ostT T I2 ea ht r1 fun dx s' n ne J => ⟨σ, _, J, q dx n ne⟩
end
end L76
namespace L76
open PySem PySem.Spec PyProof.Rows L2
variable {gd : Bool}
local macro_rules | `(tactic| walk_at "y1") => `(tactic| with_reducible first
  | refine tSeq_i ?_ | refine tAsg_i ?_ | refine tCons_i ?_ | refine tNil_i ?_ | refine tC_i ?_ | refine tOp_i ?_ | refine tIfS_i ?_ | refine tTest_i ?_ | refine exBl_i ?_ | refine tRet_i ?_ | refine tCall_i ?_
  | refine tCB_i ?_ | refine tLst_i ?_ | refine tTup_i ?_ | refine rI0_i ?_ | refine tDrop_i ?_ | refine tNext_i ?_ | refine tB_i ?_ | refine tAnd_i ?_ | refine tOr_i ?_ | refine tNot_i ?_ | refine tAndV_i ?_ | refine tOrV_i ?_ | refine tNotV_i ?_
  | refine tYes_i ?_ | refine tTM_i ?_ | refine tPar_i ?_ | refine tSl_i ?_ | refine tNoPart_i ?_ | refine tPart_i ?_ | refine part_i ?_ | refine tMake_i ?_ | refine tProp_i ?_ | refine tCallOG_i ?_ | refine tVeI_i ?_ | refine tOst_i ?_ | refine tMkO_i ?_ | refine sFld_i ?_ | refine fldaug_i ?_ | refine gCons_i ?_ | refine gNil_i ?_ | refine tChain_i ?_ | refine tBM_i ?_ | refine rAdd2_i ?_ | refine rLe2_i ?_ | refine rEq2_i ?_ | refine rEq2_ss ?_ | refine rNe2_i ?_ | refine rNe2_ss ?_ | refine rIsN_i ?_ | refine rNotN_i ?_ | refine tTup_i2 ?_ | refine tIf_i ?_ | refine tUn_i ?_ | refine tDGet_i ?_ | refine sDPut_i ?_ | refine tFld_i ?_ | refine tRetN_i ?_ | refine tBreak_i ?_ | refine tCont_i ?_ | refine rU_i ?_)
local macro_rules | `(tactic| walk_at "yhead") => `(tactic| dsimp only [L2.start, List.map, List.length_cons, List.length_nil, Nat.reduceAdd, Nat.reduceSub, List.replicate, List.cons_append, List.nil_append])
local macro_rules | `(tactic| walk_at "y2") => `(tactic| first
  | walk_at "y1"
  | ((with_reducible refine tVar_i (v := ?v) ?h ?q); (case h => rfl))
  | ((with_reducible refine gName_i ?_); (dsimp only [L2.wipe, List.set]))
  | with_reducible refine iteT ?_ | with_reducible refine iteF ?_ | with_reducible refine iteNT ?_ | with_reducible refine iteNF ?_
  | ((with_reducible refine iteDT ?h ?q); (case h => first | decide +kernel | omega | assumption | exact nv1 | exact nv2 | exact nv3 | exact nv4)) | ((with_reducible refine iteDF ?h ?q); (case h => first | decide +kernel | omega | assumption | exact nv1 | exact nv2 | exact nv3 | exact nv4))
  | ((with_reducible refine iteNDT ?h ?q); (case h => first | decide +kernel | omega | assumption | exact nv1 | exact nv2 | exact nv3 | exact nv4)) | ((with_reducible refine iteNDF ?h ?q); (case h => first | decide +kernel | omega | assumption | exact nv1 | exact nv2 | exact nv3 | exact nv4))
  | ((with_reducible refine rIsi2_1 (T := ?T) (b := true) ?ty ?h ?q); (case ty => first | exact ty_str | exact ty_int | exact ty_bl | exact ty_non); (case h => decide +kernel))
  | ((with_reducible refine rIsi2_1 (T := ?T) (b := false) ?ty ?h ?q); (case ty => first | exact ty_str | exact ty_int | exact ty_bl | exact ty_non); (case h => decide +kernel))
  | ((with_reducible refine rEq2_s ?h ?q); (case h => rfl)) | ((with_reducible refine rNe2_s ?h ?q); (case h => rfl))
  | ((with_reducible refine rEq_i ?h ?q); (case h => rfl)) | ((with_reducible refine rNe_i ?h ?q); (case h => rfl)))
local macro_rules | `(tactic| walk_at "y") => `(tactic| repeat walk_at "y2")
section
variable {P : Program} {w : World} {K : PySem.W.Frag} {mg : Str → Option Value} {base : Heap}
theorem xBad (T : Sy K mg) : XBad K := ⟨xfB_ok (He.ba (He.ba (He.ba T.b).2).2).1, of_decide_eq_true (He.ba (He.ba (He.ba (He.ba T.b).2).2).2).1⟩
theorem exNo (T : Sy K mg) : ExT K "NoPlace" "index" := exTB_ok (He.ba (He.ba (He.ba (He.ba (He.ba T.b).2).2).2).2).1
theorem biAbs (T : Sy K mg) : BiC K "Absent" "LookupError.__init__" := biB_ok (He.ba (He.ba (He.ba (He.ba (He.ba (He.ba T.b).2).2).2).2).2).1
structure XNo (K : PySem.W.Frag) : Prop where
  x : XfC K (He.ga K "NoPlace")
  m : PySem.W.exmOne K (.ref (He.ga K "NoPlace")) (.ref (He.ga K "Absent")) = some true
theorem xNo (T : Sy K mg) : XNo K := ⟨xfB_ok (He.ba (He.ba (He.ba (He.ba (He.ba (He.ba (He.ba T.b).2).2).2).2).2).2).1, of_decide_eq_true (He.ba (He.ba (He.ba (He.ba (He.ba (He.ba (He.ba T.b).2).2).2).2).2).2).2⟩
section
variable {C : Addr} {σ : L2.St} {H : Hp} {Q : VK} {D : Ends} {ta : TA} {to te : TE} {f : Str}
theorem tBiT_i (q : ta σ H fun vs H1 => ∃ (a : Addr) (ws : List V), vs = .ref a :: ws ∧ ws.length ≤ 1000 ∧ H1 a = some (exo a C none) ∧ Q .non H1) : tBiT K C ta σ H Q := q
theorem tOsT_i (q : te σ H fun y H1 => to σ H1 fun x H2 => ∃ a : Addr, x = .ref a ∧ H2 a = some (exo a C none) ∧ ∀ dx, H2 dx = none → dx ≠ a → D.nx σ (upd (upd H2 dx (exd dx [(f, y)])) a (exo a C (some dx)))) : tOsT C f to te D σ H := q
end
local macro_rules | `(tactic| walk_at "y") => `(tactic| first | refine tBiT_i ?_ | refine tOsT_i ?_)
theorem sc_NoPlace___init__ : FnScope ["self", "index"] ["self", "index"] (defScope (inClass (top 4) 0)) := ⟨rfl, rfl, rfl, by decide +kernel, rfl, by decide +kernel, by decide +kernel⟩
theorem x_NoPlace (T : Sy K mg) : (∃ (fd : FuncData) (ps : List Str), FnOk P w K mg base CX0 1 (He.ma K (He.ga K "NoPlace") "__init__") fd ps (spExI K "NoPlace" "index") ∧ Binds K fd ps []) := by
  obtain ⟨fd, F⟩ := F_NoPlace___init__ T
  refine ⟨fd, _, F.ok sc_NoPlace___init__ sp2_len fun cdv A outer s H vs Q E hr h => ?_, F.bindsN (fun _ _ _ _ _ _ us hl => match us, hl with | [_, _], _ => rfl)⟩
  obtain ⟨_, v, rfl, a, rfl, ha, q⟩ := h
  refine ⟨_, ((pss_cons (ps_expr (pe_binit (exNo T).o (biAbs T) (by decide +kernel) (by rfl) (T.glo "Absent") (pa_cons (pv 0) (pa_cons pe_str pa_nil)))) (pss_one (ps_ostT (exNo T).o (exNo T).tk (pv 0) (pv 1))))).nox, ?_⟩
  walk_at "yhead"; walk_at "y"
  refine tBiT_i ?_
  walk_at "y"
  refine ⟨a, [.str "no item with this index"], rfl, by show 1 ≤ 1000; decide, ha, ?_⟩
  dsimp only [tOsT]
  exact ⟨v, rfl, .ref a, rfl, a, rfl, ha, q⟩
/-- NoPlace(v) under a raise -/
theorem pmk_no (T : Sy K mg) {X : Cx} {j : Nat} {e : Expr} {es : List Expr} {ta : TA} {p pos : Pos} (hK : X.K = K) (hm : X.mg = mg) (hr : Room j X.A) (ha : PA X (e :: es) ta) (hk : 2 ≤ j := by decide) (hg : Gl X "NoPlace" := by rfl)
    (he : starEach (e :: es) X.env = (false, eval e X.env) :: starEach es X.env := by rfl) (hpl : (backTo pos (starEach es X.env)).any (·.1) = false := by rfl) :
    PMk X (.Call (.Name "NoPlace" p) (e :: es) [] pos) (tMkO (He.ga K "NoPlace") (spExI K "NoPlace" "index") [] ta) := by
  subst hK hm
  obtain ⟨fd, ps, F, b⟩ := x_NoPlace (P := X.prog) (w := X.w) (base := X.base) T
  exact pmkT (exNo T).o (exNo T).i (exNo T).t F (hr.mono hk) b .nil hg (T.glo "NoPlace") ha (by decide) he hpl
end
end L76
namespace L76
open PySem PySem.Spec PyProof.Rows L2
variable {gd : Bool}
local macro_rules | `(tactic| walk_at "y1") => `(tactic| with_reducible first
  | refine tSeq_i ?_ | refine tAsg_i ?_ | refine tCons_i ?_ | refine tNil_i ?_ | refine tC_i ?_ | refine tOp_i ?_ | refine tIfS_i ?_ | refine tTest_i ?_ | refine exBl_i ?_ | refine tRet_i ?_ | refine tCall_i ?_
  | refine tCB_i ?_ | refine tLst_i ?_ | refine tTup_i ?_ | refine rI0_i ?_ | refine tDrop_i ?_ | refine tNext_i ?_ | refine tB_i ?_ | refine tAnd_i ?_ | refine tOr_i ?_ | refine tNot_i ?_ | refine tAndV_i ?_ | refine tOrV_i ?_ | refine tNotV_i ?_
  | refine tIf_i ?_ | refine tUn_i ?_ | refine tDGet_i ?_ | refine sDPut_i ?_ | refine tFld_i ?_ | refine tRetN_i ?_ | refine tBreak_i ?_ | refine tCont_i ?_ | refine rU_i ?_)
local macro_rules | `(tactic| walk_at "yhead") => `(tactic| dsimp only [L2.start, List.map, List.length_cons, List.length_nil, Nat.reduceAdd, Nat.reduceSub, List.replicate, List.cons_append, List.nil_append])
local macro_rules | `(tactic| walk_at "y2") => `(tactic| first
  | walk_at "y1"
  | ((with_reducible refine tVar_i (v := ?v) ?h ?q); (case h => rfl))
  | ((with_reducible refine gName_i ?_); (dsimp only [List.set]))
  | ((with_reducible refine rEq_i ?h ?q); (case h => rfl)) | ((with_reducible refine rNe_i ?h ?q); (case h => rfl)))
local macro_rules | `(tactic| walk_at "y") => `(tactic| repeat walk_at "y2")
/-! if and for inside a generator's body -/
section
open GenW
variable {M : Model} {A : Around} {R : GenEnd} {Y : Protocol} {n : Nat} {s₀ : Shared} {c : Code} {fs : List Frame} {s : Shared} {env : Env} {K : Flow → Sem PySem.Fin} {H : Value → Sem PySem.Fin} {gd : Bool → Bool} {lv : List Value → List Value}
theorem seg_If {test : Expr} {p q : List Stmt} {pos : Pos} (h : wpAny M (A.over c fs) (isTrue test env (eval test env)) (fun b s' => if b = true then Seg M A R Y n s₀ c ((execs p env).wrap K H gd lv) fs s' else Seg M A R Y n s₀ c ((execs q env).wrap K H gd lv) fs s') (fun x s' => Seg M A R Y n s₀ c (H x) fs s') s) :
    Seg M A R Y n s₀ c ((exec (.If test p q pos) env).wrap K H gd lv) fs s := by
  rw [exec_If]
  refine seg_bind_wrap (wpAny_standAt ?_)
  refine seg_bind_wrap (wpAny_mono h (fun b s' hb => ?_) fun _ _ x => x)
  cases b with
  | true => rw [if_pos rfl] at hb ⊢; exact hb
  | false => rw [if_neg Bool.false_ne_true] at hb ⊢; exact hb
theorem seg_For {tg iter : Expr} {body orelse : List Stmt} {pos : Pos}
    (h : wpAny M (A.over c fs) (eval iter env) (fun x s1 => wpAny M (A.over c fs) (pyIter x) (fun it s2 => ∀ p, Seg M A R Y n s₀ (.forLoop tg it body orelse env) (M.den (.forLoop tg it body orelse env))
      (.ret (fun r => ((match r with | .ok f => (.pure f : Sem Flow) | .error e => .raise e).onRaise fun (x : Value) => do
        if (← field x 1) == Value.none then unsupported "frame.own-activation:exception-without-traceback"
        setFlight x env.frame).wrap K H gd lv) none (gd false) (lv []) c p [] :: fs) s2) (fun x s' => Seg M A R Y n s₀ c (H x) fs s') s1) (fun x s' => Seg M A R Y n s₀ c (H x) fs s') s)
    (hs : ∀ x, foldedSetIterable iter env x = pure x := by intro _; rfl) :
    Seg M A R Y n s₀ c ((exec (.For tg iter body orelse pos) env).wrap K H gd lv) fs s := by
  rw [exec_For]
  refine seg_bind_wrap (wpAny_standAt ?_)
  refine seg_bind_wrap (wpAny_mono h (fun x s1 h1 => ?_) fun _ _ z => z)
  refine seg_bind_wrap (wpAny_of_eq (hs x) ?_)
  refine seg_bind_wrap (wpAny_standAt ?_)
  refine seg_bind_wrap (wpAny_holding (wpAny_mono h1 (fun it s2 h2 => ?_) fun _ _ z => z))
  exact seg_call h2
end
section
open GenW
variable {prog : Program} {w : World} {A : Around} {R : GenEnd} {Y : Protocol} {n : Nat} {s₀ : Shared} {fs : List Frame} {s : Shared} {env : Env}
theorem seg_block_nil (h : Seg (model prog w) A R Y n s₀ (.block [] env) (.pure (.done .next)) fs s) : Seg (model prog w) A R Y n s₀ (.block [] env) ((model prog w).den (.block [] env)) fs s := h
theorem seg_forLoop {tg : Expr} {it : Value} {body : List Stmt}
    (h : wpAny (model prog w) (A.over (.forLoop tg it body [] env) fs) (pyNext it) (fun r s1 => match r with
        | none => Seg (model prog w) A R Y n s₀ (.forLoop tg it body [] env) (.pure (.again (.block [] env))) fs s1
        | some v => wpAny (model prog w) (A.over (.forLoop tg it body [] env) fs) (letOwnedTupleGo tg it v) (fun _ s2 =>
            wpAny (model prog w) (A.over (.forLoop tg it body [] env) fs) (assign tg env v) (fun _ s3 =>
              Seg (model prog w) A R Y n s₀ (.forLoop tg it body [] env) ((execs body env).wrap (fun f => match f with
                | .next | .cont => .pure (.again (.forLoop tg it body [] env))
                | .brk => .pure (.done .next)
                | .ret v => .pure (.done (.ret v))) (fun e => (do noteFrame e env; theTreesLotGoes e : Sem Unit).wrap (fun _ => .raise e) .raise id id) id id) fs s3)
            (fun x s' => Seg (model prog w) A R Y n s₀ (.forLoop tg it body [] env) ((do noteFrame x env; theTreesLotGoes x : Sem Unit).wrap (fun _ => .raise x) .raise id id) fs s') s2)
            (fun x s' => Seg (model prog w) A R Y n s₀ (.forLoop tg it body [] env) ((do noteFrame x env; theTreesLotGoes x : Sem Unit).wrap (fun _ => .raise x) .raise id id) fs s') s1)
      (fun x s' => Seg (model prog w) A R Y n s₀ (.forLoop tg it body [] env) ((do noteFrame x env; theTreesLotGoes x : Sem Unit).wrap (fun _ => .raise x) .raise id id) fs s') s) :
    Seg (model prog w) A R Y n s₀ (.forLoop tg it body [] env) ((model prog w).den (.forLoop tg it body [] env)) fs s := by
  show Seg _ A R Y n s₀ _ ((forTurn tg it body [] env).onRaise (fun x => do noteFrame x env; theTreesLotGoes x)) fs s
  unfold forTurn
  rw [Sem.onRaise_eq_wrap]
  have conv : ∀ x s', Seg (model prog w) A R Y n s₀ (.forLoop tg it body [] env) ((do noteFrame x env; theTreesLotGoes x : Sem Unit).wrap (fun _ => .raise x) .raise id id) fs s' →
      Seg (model prog w) A R Y n s₀ (.forLoop tg it body [] env) ((do noteFrame x env; theTreesLotGoes x : Sem Unit).bind fun _ => .raise x) fs s' := fun x s' hx => by rw [Sem.bind_eq_wrap]; exact hx
  refine seg_bind_wrap (wpAny_standAt ?_)
  refine seg_bind_wrap (wpAny_onRaise (wpAny_mono h (fun r s1 h1 => ?_) fun x s' hx => wpAny_standAt (conv x s' hx)))
  cases r with
  | none => exact h1
  | some v =>
    refine seg_bind_wrap (wpAny_mono h1 (fun _ s2 h2 => ?_) fun x s' hx => conv x s' hx)
    refine seg_bind_wrap (wpAny_mono h2 (fun _ s3 h3 => ?_) fun x s' hx => conv x s' hx)
    rw [Sem.bind_eq_wrap', Sem.wrap_wrap]
    rw [Sem.wrap_congr (execs body env) _ _ (K' := fun f => match f with
            | .next | .cont => .pure (.again (.forLoop tg it body [] env))
            | .brk => .pure (.done .next)
            | .ret v => .pure (.done (.ret v))) (H' := (fun e => (do noteFrame e env; theTreesLotGoes e : Sem Unit).wrap (fun _ => .raise e) .raise id id))
        (fun f => by cases f <;> rfl)
        (fun e => by first | exact Sem.bind_eq_wrap _ _ | (show (do noteFrame e env; theTreesLotGoes e : Sem Unit).bind (fun _ => .raise e) = _; rw [Sem.bind_eq_wrap]))]
    exact h3
end
section
open GenW
variable {X : Cx} {pos : Pos} {tg : Expr}
def tGIf (c : TT) (t u : TGn) : TGn := fun D ys σ H => c σ H fun b H1 => if b = true then t D ys σ H1 else u D ys σ H1
theorem gs_if {test : Expr} {p q : List Stmt} {tc : TT} {t u : TGn} (hc : PT X test tc) (hp : GSs X p t) (hq : GSs X q u) : GS X (.If test p q pos) (tGIf tc t u) := by
  refine ⟨fun A S ip R n ys s₀ c fs K J gd lv s σ H D g hn k hI ht => ?_⟩
  obtain ⟨acc, cc, r, I⟩ := hI
  refine seg_If ?_
  rw [g.over]
  refine wpAny_mono (hc.run _ s σ H _ I ht) (fun b s' hb => ?_) fun x s' hx => k.exc n s₀ x s' hx
  obtain ⟨H2, I2, q2⟩ := hb
  cases b with
  | true =>
    rw [if_pos rfl] at q2 ⊢
    exact hp.run A S ip R n ys s₀ c fs K J gd lv s' σ H2 D g hn k ⟨acc, cc, r, I2⟩ q2
  | false =>
    rw [if_neg Bool.false_ne_true] at q2 ⊢
    exact hq.run A S ip R n ys s₀ c fs K J gd lv s' σ H2 D g hn k ⟨acc, cc, r, I2⟩ q2
def tGFor (wi : TI) (g : TG) (tb : TGn) : TGn := fun D ys σ H => wi σ H fun J H1 => ∃ W : Nat → Nat → List V → L2.St → Hp → Prop, (∃ m, W 0 m ys σ H1) ∧ ∀ i m ys σ H, W i m ys σ H →
  (J.stop i H ∧ D.nx ys σ H) ∨ (J.go i H ∧ ∃ N : List V → L2.St → Hp → Prop, (∀ ys' σ' H', N ys' σ' H' → ∃ m', m' < m ∧ W (i + 1) m' ys' σ' H') ∧ ∀ x H', J.yld i H x H' → g x σ H' fun σ2 H2 => tb { D with nx := N, ct := N, bk := D.nx } ys σ2 H2)
theorem gs_for {iter : Expr} {body : List Stmt} {wi : TI} {g : TG} {tb : TGn} (hp : PassesOwn (model X.prog X.w) X.A X.env X.xe) (hc : X.calm = true) (hi : PI X tg iter wi) (hg : PG X tg g) (hb : GSs X body tb)
    (hs : ∀ x, foldedSetIterable iter X.env x = pure x := by intro _; rfl) : GS X (.For tg iter body [] pos) (tGFor wi g tb) := by
  refine ⟨fun A S ip R n ys s₀ c fs K J gd lv s σ H D gc hn k hI ht => ?_⟩
  obtain ⟨acc, cc, r, I⟩ := hI
  refine seg_For ?_ hs
  rw [gc.over]
  refine wpAny_mono (hi.run _ s σ H _ I ht) (fun v s1 h1 => ?_) fun x s' hx => k.exc n s₀ x s' hx
  refine wpAny_mono h1 (fun itv s2 h2 p => ?_) fun x s' hx => k.exc n s₀ x s' hx
  obtain ⟨it, fp, tn, Jt, H2, e, I2, T, st2, f2, W, ⟨m0, w0⟩, turn⟩ := h2
  subst e
  have gl := fun (kk : Result → Sem PySem.Fin) => gc_loop (k := kk) (c' := .forLoop tg (.ref it) body [] X.env) (l := lv []) (kp := []) (p := p) gc rfl rfl
  have gb := fun (kk : Result → Sem PySem.Fin) => gc_loop (k := kk) (c' := .block [] X.env) (l := lv []) (kp := []) (p := p) gc rfl rfl
  have hH : X.A.handled = none := I2.ok.hd hc
  have loop : ∀ (m i n : Nat) (ys : List V) (s₀ s : Shared) (σ : L2.St) (H : Hp), n + ys.length = sizeLine → W i m ys σ H → GI X S ip ys σ H s → tn i s.heap → (∀ b ∈ fp, H b = none) → (∀ b ∈ fp, b ≠ S ∧ ∀ p ∈ ip, p.1 ≠ b) →
      Seg (model X.prog X.w) A R (GY X S) n s₀ (.forLoop tg (.ref it) body [] X.env) ((model X.prog X.w).den (.forLoop tg (.ref it) body [] X.env))
        (.ret (fun r => ((match r with | .ok f => (.pure f : Sem Flow) | .error e => .raise e).onRaise (cameBack X.env)).wrap K J gd lv) none (gd false) (lv []) c p [] :: fs) s := by
    intro m
    induction m using Nat.strongRecOn with
    | ind m ih =>
      intro i n ys s₀ s σ H hn w hI st fr apart
      obtain ⟨acc, cc, r, I⟩ := hI
      have ee : ∀ (n : Nat) (s₀ : Shared) (x : Value) (s' : Shared), X.xe x s' → Seg (model X.prog X.w) A R (GY X S) n s₀ (.forLoop tg (.ref it) body [] X.env)
          ((do noteFrame x X.env; theTreesLotGoes x : Sem Unit).wrap (fun _ => .raise x) .raise id id)
          (.ret (fun r => ((match r with | .ok f => (.pure f : Sem Flow) | .error e => .raise e).onRaise (cameBack X.env)).wrap K J gd lv) none (gd false) (lv []) c p [] :: fs) s' := fun n s₀ x s' hx => by
        refine seg_wrap ?_
        rw [(gl _).over]
        refine wpAny_bind (wpAny_mono (hp x s' hx) (fun _ s'' hcb => wpAny_theTreesLotGoes ?_) fun y s'' hcb => ?_)
        · exact seg_leaf (.error x) (seg_cameBack gc k hcb)
        · exact seg_leaf (.error y) (seg_cameBack gc k hcb)
      have stat : ∀ {H' : Hp}, (∀ b ∈ fp, H' b = none) → ∀ b ∈ fp, FpOk X ((S, lstObj acc cc) :: ip) H' b := fun fr b hb => ⟨fr b hb, (f2 b hb).2.1, (f2 b hb).2.2.1, (f2 b hb).2.2.2.1, (f2 b hb).2.2.2.2.1, fun q hq => by
        rcases List.mem_append.mp hq with z | z
        · exact (f2 b hb).2.2.2.2.2 q (List.mem_append_left _ z)
        · rcases List.mem_cons.mp z with z | z
          · rw [z]; exact fun z => (apart b hb).1 z.symm
          · exact (apart b hb).2 q z⟩
      refine seg_forLoop ?_
      rw [(gl _).over]
      rcases turn i m ys σ H w with ⟨stop, qn⟩ | ⟨go, N, hN, step⟩
      · refine wpAny_mono (T.done X rfl rfl rfl hc i _ s σ H X.xe I (stat fr) st stop) (fun r4 s4 h4 => ?_) fun x s' hx => ee n s₀ x s' hx
        obtain ⟨hr, I4⟩ := h4
        subst hr
        exact seg_again rfl (seg_block_nil (seg_leaf (.ok .next) (k.ok n ys s₀ s4 .next hn ⟨σ, H, ⟨acc, cc, r, I4⟩, qn⟩)))
      · refine wpAny_mono (T.item X rfl rfl rfl hc i _ s σ H X.xe I (stat fr) st go) (fun r4 s4 h4 => ?_) fun x s' hx => ee n s₀ x s' hx
        obtain ⟨u, hr, h4⟩ := h4
        subst hr
        refine wpAny_mono h4 (fun _ s5 h5 => ?_) fun x s' hx => ee n s₀ x s' hx
        obtain ⟨x, H5, I5, r5, y5, st5, fr5⟩ := h5
        have I5' := I5.pinned (stat fr5) (T.obj _ _ st5)
        refine wpAny_mono (hg.run _ s5 σ H5 x u _ I5' r5 (step x H5 y5)) (fun _ s6 h6 => ?_) fun x s' hx => ee n s₀ x s' hx
        obtain ⟨σ6, H6, I6, q6⟩ := h6
        have gl' : ∀ kk : Result → Sem PySem.Fin, GC X S (ip ++ pinsAt fp s5.heap) A (.forLoop tg (.ref it) body [] X.env) (.ret kk none (gd false) (lv []) c p [] :: fs) id := fun kk => { gl kk with
          ip := fun q hq => by
            rcases List.mem_append.mp hq with z | z
            · exact gc.ip q z
            · exact (apart q.1 (of_pinsAt z).1).1 }
        refine hb.run A S (ip ++ pinsAt fp s5.heap) R n ys s₀ _ _ _ _ id id s6 σ6 H6 { D with nx := N, ct := N, bk := D.nx } (gl' _) hn ⟨fun n' ys' s₀' s7 f hn' hs => ?_, fun n' s₀' x s7 hx => ee n' s₀' x s7 hx⟩ ⟨acc, cc, r, I6⟩ q6
        have un : ∀ {ys' : List V} {σ7 : L2.St} {H7 : Hp}, GI X S (ip ++ pinsAt fp s5.heap) ys' σ7 H7 s7 → GI X S ip ys' σ7 H7 s7 ∧ tn (i + 1) s7.heap ∧ ∀ b ∈ fp, H7 b = none := fun {ys' σ7 H7} G7 => by
          obtain ⟨acc7, c7, r7, I7⟩ := G7
          have pin : ∀ b o, b ∈ fp → s5.heap.get? b = some o → (b, o) ∈ X.pn ++ (S, lstObj acc7 c7) :: (ip ++ pinsAt fp s5.heap) := fun b o hb e => List.mem_append_right _ (List.mem_cons_of_mem _ (List.mem_append_right _ (mem_pinsAt hb e)))
          refine ⟨⟨acc7, c7, r7, Inv.unpinned (pins := (S, lstObj acc7 c7) :: ip) I7⟩, T.keep _ _ _ st5 fun b hb o e => (I7.pin (b, o) (pin b o hb e)).1, fun b hb => ?_⟩
          obtain ⟨o, e, d⟩ := T.obj _ _ st5 b hb
          exact (I7.pin (b, o) (pin b o hb e)).2.1
        have again : ∀ {ys' : List V} {σ7 : L2.St} {H7 : Hp}, n' + ys'.length = sizeLine → GI X S (ip ++ pinsAt fp s5.heap) ys' σ7 H7 s7 → N ys' σ7 H7 → Seg (model X.prog X.w) A R (GY X S) n' s₀' (.forLoop tg (.ref it) body [] X.env) ((model X.prog X.w).den (.forLoop tg (.ref it) body [] X.env))
            (.ret (fun r => ((match r with | .ok f => (.pure f : Sem Flow) | .error e => .raise e).onRaise (cameBack X.env)).wrap K J gd lv) none (gd false) (lv []) c p [] :: fs) s7 := fun {ys' σ7 H7} hn7 G7 n7 => by
          obtain ⟨m', hm, w7⟩ := hN ys' σ7 H7 n7
          obtain ⟨g1, g2, g3⟩ := un G7
          exact ih m' hm (i + 1) n' ys' s₀' s7 σ7 H7 hn7 w7 g1 g2 g3 apart
        cases f with
        | next =>
          obtain ⟨σ7, H7, G7, n7⟩ := hs
          exact seg_again rfl (again hn' G7 n7)
        | cont =>
          obtain ⟨σ7, H7, G7, n7⟩ := hs
          exact seg_again rfl (again hn' G7 n7)
        | brk =>
          obtain ⟨σ7, H7, G7, q7⟩ := hs
          exact seg_leaf (.ok .next) (k.ok n' ys' s₀' s7 .next hn' ⟨σ7, H7, (un G7).1, q7⟩)
        | ret v =>
          obtain ⟨v7, σ7, H7, G7, rv7, q7⟩ := hs
          exact seg_leaf (.ok (.ret v)) (k.ok n' ys' s₀' s7 (.ret v) hn' ⟨v7, σ7, H7, (un G7).1, rv7, q7⟩)
  refine loop m0 0 n ys s₀ s2 σ H2 hn w0 ⟨acc, cc, r, I2⟩ st2 (fun b hb => (f2 b hb).1) fun b hb => ⟨fun z => ?_, fun p hp z => ?_⟩
  · exact (f2 b hb).2.2.2.2.2 _ (List.mem_append_right _ List.mem_cons_self) z.symm
  · exact (f2 b hb).2.2.2.2.2 p (List.mem_append_right _ (List.mem_cons_of_mem _ hp)) z
end
end L76
namespace L76
open PySem PySem.Spec PyProof.Rows L2
variable {gd : Bool}
local macro_rules | `(tactic| walk_at "y1") => `(tactic| with_reducible first
  | refine tSeq_i ?_ | refine tAsg_i ?_ | refine tCons_i ?_ | refine tNil_i ?_ | refine tC_i ?_ | refine tOp_i ?_ | refine tIfS_i ?_ | refine tTest_i ?_ | refine exBl_i ?_ | refine tRet_i ?_ | refine tCall_i ?_
  | refine tCB_i ?_ | refine tLst_i ?_ | refine tTup_i ?_ | refine rI0_i ?_ | refine tDrop_i ?_ | refine tNext_i ?_ | refine tB_i ?_ | refine tAnd_i ?_ | refine tOr_i ?_ | refine tNot_i ?_ | refine tAndV_i ?_ | refine tOrV_i ?_ | refine tNotV_i ?_
  | refine tYes_i ?_ | refine tTM_i ?_ | refine tPar_i ?_ | refine tSl_i ?_ | refine tNoPart_i ?_ | refine tPart_i ?_ | refine part_i ?_ | refine tMake_i ?_ | refine tProp_i ?_ | refine tCallOG_i ?_ | refine tVeI_i ?_ | refine tOst_i ?_ | refine tMkO_i ?_ | refine sFld_i ?_ | refine fldaug_i ?_ | refine gCons_i ?_ | refine gNil_i ?_ | refine tChain_i ?_ | refine tBM_i ?_ | refine rAdd2_i ?_ | refine rLe2_i ?_ | refine rEq2_i ?_ | refine rEq2_ss ?_ | refine rNe2_i ?_ | refine rNe2_ss ?_ | refine rIsN_i ?_ | refine rNotN_i ?_ | refine tTup_i2 ?_ | refine tIf_i ?_ | refine tUn_i ?_ | refine tDGet_i ?_ | refine sDPut_i ?_ | refine tFld_i ?_ | refine tRetN_i ?_ | refine tBreak_i ?_ | refine tCont_i ?_ | refine rU_i ?_)
local macro_rules | `(tactic| walk_at "yhead") => `(tactic| dsimp only [L2.start, List.map, List.length_cons, List.length_nil, Nat.reduceAdd, Nat.reduceSub, List.replicate, List.cons_append, List.nil_append])
local macro_rules | `(tactic| walk_at "y2") => `(tactic| first
  | walk_at "y1"
  | ((with_reducible refine tVar_i (v := ?v) ?h ?q); (case h => rfl))
  | ((with_reducible refine gName_i ?_); (dsimp only [L2.wipe, List.set]))
  | with_reducible refine iteT ?_ | with_reducible refine iteF ?_ | with_reducible refine iteNT ?_ | with_reducible refine iteNF ?_
  | ((with_reducible refine iteDT ?h ?q); (case h => first | decide +kernel | omega | assumption | exact nv1 | exact nv2 | exact nv3 | exact nv4)) | ((with_reducible refine iteDF ?h ?q); (case h => first | decide +kernel | omega | assumption | exact nv1 | exact nv2 | exact nv3 | exact nv4))
  | ((with_reducible refine iteNDT ?h ?q); (case h => first | decide +kernel | omega | assumption | exact nv1 | exact nv2 | exact nv3 | exact nv4)) | ((with_reducible refine iteNDF ?h ?q); (case h => first | decide +kernel | omega | assumption | exact nv1 | exact nv2 | exact nv3 | exact nv4))
  | ((with_reducible refine rIsi2_1 (T := ?T) (b := true) ?ty ?h ?q); (case ty => first | exact ty_str | exact ty_int | exact ty_bl | exact ty_non); (case h => decide +kernel))
  | ((with_reducible refine rIsi2_1 (T := ?T) (b := false) ?ty ?h ?q); (case ty => first | exact ty_str | exact ty_int | exact ty_bl | exact ty_non); (case h => decide +kernel))
  | ((with_reducible refine rEq2_s ?h ?q); (case h => rfl)) | ((with_reducible refine rNe2_s ?h ?q); (case h => rfl))
  | ((with_reducible refine rEq_i ?h ?q); (case h => rfl)) | ((with_reducible refine rNe_i ?h ?q); (case h => rfl)))
local macro_rules | `(tactic| walk_at "y") => `(tactic| repeat walk_at "y2")
section
variable {K : PySem.W.Frag} {σ : L2.St} {H : Hp} {D : GEnds} {ys : List V} {t u : TGn} {te : TE} {tc : TT} {g : TG} {tb : TGn} {J : It} {n : Nat} {G : Hp → Prop} {Y : Nat → Hp → V → Hp → Prop}
theorem tGThen_i (q : t { D with nx := fun ys' σ' H' => u D ys' σ' H' } ys σ H) : tGThen t u D ys σ H := q
theorem tPlain_i {t : TS} (q : t { nx := D.nx ys, rt := D.rt ys, bk := D.bk ys, ct := D.ct ys } σ H) : tPlain t D ys σ H := q
theorem tG0_i (q : D.nx ys σ H) : tG0 D ys σ H := q
theorem tGYield_i (h : ys.length < sizeLine) (q : te σ H fun x H1 => D.nx (ys ++ [x]) σ H1) : tGYield te D ys σ H := ⟨h, q⟩
theorem tGIf_i (q : tc σ H fun b H1 => if b = true then t D ys σ H1 else u D ys σ H1) : tGIf tc t u D ys σ H := q
abbrev GForR (J : It) (g : TG) (tb : TGn) (D : GEnds) (ys : List V) (σ : L2.St) (H1 : Hp) : Prop := ∃ W : Nat → Nat → List V → L2.St → Hp → Prop, (∃ m, W 0 m ys σ H1) ∧ ∀ i m ys σ H, W i m ys σ H →
  (J.stop i H ∧ D.nx ys σ H) ∨ (J.go i H ∧ ∃ N : List V → L2.St → Hp → Prop, (∀ ys' σ' H', N ys' σ' H' → ∃ m', m' < m ∧ W (i + 1) m' ys' σ' H') ∧ ∀ x H', J.yld i H x H' → g x σ H' fun σ2 H2 => tb { D with nx := N, ct := N, bk := D.nx } ys σ2 H2)
theorem gfor_b (b : Bool) (q : te σ H fun x H1 => ∃ a, x = .ref a ∧ (∃ xs, SqB K b H1 a xs) ∧ GForR (itB K b a) g tb D ys σ H1) : tGFor (iAny K te) g tb D ys σ H := by
  cases b
  · exact .inr (.inl q)
  · exact .inl q
theorem gfor_it (w : Walk J n G Y) (Pv : Nat → List V → L2.St → Hp → Prop) (h0 : Pv 0 ys σ H) (hG : ∀ i ys σ H, i ≤ n → Pv i ys σ H → G H)
    (hs : ∀ i x ys σ H H', i < n → Pv i ys σ H → Y i H x H' → g x σ H' fun σ2 H2 => tb { D with nx := Pv (i + 1), ct := Pv (i + 1), bk := D.nx } ys σ2 H2) (hd : ∀ ys σ H, Pv n ys σ H → D.nx ys σ H) : GForR J g tb D ys σ H := by
  refine ⟨fun i m ys σ H => m = n - i ∧ i ≤ n ∧ Pv i ys σ H, ⟨n, by simp, Nat.zero_le _, h0⟩, ?_⟩
  rintro i m ys σ H ⟨rfl, hi, p⟩
  have q := hG i ys σ H hi p
  by_cases hlt : i < n
  · exact .inr ⟨w.goes i H hlt q, Pv (i + 1), fun ys' σ' H' p' => ⟨n - (i + 1), by omega, rfl, hlt, p'⟩, fun x H' y => hs i x ys σ H H' hlt p (w.yields i H x H' hlt q y)⟩
  · have e : i = n := by omega
    subst e
    exact .inl ⟨w.stops H q, hd ys σ H p⟩
end
local macro_rules | `(tactic| walk_at "y2") => `(tactic| with_reducible first | refine tGThen_i ?_ | refine tPlain_i ?_ | refine tG0_i ?_ | refine tGIf_i ?_)
section
variable {P : Program} {w : World} {K : PySem.W.Frag} {mg : Str → Option Value} {base : Heap}
def notesAux (k : Int) : Bool → List Ev → List Int
  | _, [] => []
  | o, .op n :: es => notesAux k (o || decide (n = k)) es
  | o, .sh n :: es => notesAux k (o && !decide (n = k)) es
  | o, .no t :: es => if o then t :: notesAux k o es else notesAux k o es
  | o, .fa _ :: es => notesAux k o es
  | o, .sw :: es => notesAux k o es
theorem notesAux_len (k : Int) : ∀ (o : Bool) (es : List Ev), (notesAux k o es).length ≤ es.length
  | _, [] => Nat.le_refl _
  | o, .op n :: es => Nat.le_succ_of_le (notesAux_len k _ es)
  | o, .sh n :: es => Nat.le_succ_of_le (notesAux_len k _ es)
  | o, .no t :: es => by
    have h := notesAux_len k o es
    unfold notesAux
    split <;> simp <;> omega
  | o, .fa _ :: es => Nat.le_succ_of_le (notesAux_len k o es)
  | o, .sw :: es => Nat.le_succ_of_le (notesAux_len k o es)
/-- what notes_within asks: a number that was opened, or it raises -/
def spNotes (K : PySem.W.Frag) : SpG := fun vs H Q E => ∃ p es kv, vs = [.ref p, kv] ∧ LogAt true H p es ∧
  ((∃ k : Int, kv = .int k ∧ 0 ≤ k ∧ k ≤ 1000 ∧ Ev.op k ∈ es ∧ ∀ H', Same H H' → Q ((notesAux k false es).map V.int) H') ∨
   ((kv = .non ∨ (∃ c, kv = .bl c) ∨ kv = .str "0" ∨ ∃ k : Int, kv = .int k ∧ 0 ≤ k ∧ k ≤ 1000 ∧ Ev.op k ∉ es) ∧ ∀ d H', H d = none → Same H H' → H' d = some (.xd [("index", kv)]) → E (.ref (He.ga K "NoPlace")) (some d) H'))
theorem any_op {es : List Ev} {n : Int} : ((es.map Ev.d).any fun z => PyData.eqv z (.tuple (([.str "open", .int n] : List V).map vD))) = decide (Ev.op n ∈ es) := by
  induction es with
  | nil => rfl
  | cons e es ih =>
    rw [List.map_cons, List.any_cons, ih, show PyData.eqv e.d (.tuple (([.str "open", .int n] : List V).map vD)) = decide (e = .op n) from ev_eqo]
    by_cases h : e = .op n
    · rw [decide_eq_true h, decide_eq_true (List.mem_cons.mpr (.inl h.symm))]; rfl
    · rw [decide_eq_false h, Bool.false_or]
      by_cases h2 : Ev.op n ∈ es
      · rw [decide_eq_true h2, decide_eq_true (List.mem_cons.mpr (.inr h2))]
      · rw [decide_eq_false h2, decide_eq_false fun z => (List.mem_cons.mp z).elim (fun z => h z.symm) h2]
theorem dp_log {H : Hp} {p : Addr} {vs : List V} {es : List Ev} (h : H p = some (.lst vs)) (h2 : Paired (TR Ev.xs H) vs es) : Dp K H (.ref p) (.list (es.map Ev.d)) := .lst (SqL.of h) (dp_TR Ev.pl h2)
theorem sm_log {es : List Ev} (ok : ∀ e ∈ es, e.ok) : Sm 2 (es.length * (4 * 21 + 1)) (.list (es.map Ev.d)) := by
  have h := Sm.list (sm_TR (n := 4) (f := Ev.xs) (as := es) fun e he => ⟨Ev.sm (ok e he), e.len⟩)
  rw [List.length_map] at h
  exact h
theorem sm_opn {k : Int} {w : Str} (h1 : 0 ≤ k) (h2 : k ≤ 1000) (hw : smV (.str w) = true := by decide +kernel) : Sm 1 (2 * 21) (.tuple (([.str w, .int k] : List V).map vD)) :=
  sm_tup (xs := [.str w, .int k]) (by rw [List.all_cons, hw, Bool.true_and, List.all_cons, sm_int (by omega)]; rfl)
theorem sz5 {n : Nat} (h : n < 1000) : n < sizeLine := Nat.lt_of_lt_of_le h (by decide)
theorem sc_notes_within : GScope ["log", "k", "is_open", "event"] ["log", "k"] (defScope (top 27)) := ⟨rfl, rfl, rfl, by decide +kernel, rfl, by decide +kernel, by decide +kernel⟩
theorem g_notes (T : Sy K mg) : ∃ (f : Addr) (fd : FuncData), GFn P w K mg base 8 f fd ["log", "k"] (spNotes K) ∧ mg "notes_within" = some (.ref f) ∧ PySem.W.keepIn K (.ref f) = true ∧ Binds K fd ["log", "k"] [] := by
  obtain ⟨fd, F⟩ := F_notes_within T
  obtain ⟨oc, od, dV, kV, doc, pm, an, cdv, ct, osl, rfl, lk, hcd, _⟩ := id F.ex
  refine ⟨_, _, gfn_of lk hcd sc_notes_within (fun vs H Q E h => ?_) (fun A outer s H vs Q E pn hr h => ?_), T.glo "notes_within", F.kp, F.bindsN (fun _ _ _ _ _ _ us hl => match us, hl with | [_, _], _ => rfl)⟩
  · obtain ⟨p, es, kv, rfl, _⟩ := h
    rfl
  · have z : RG false 7 _ := ⟨hr, fun e => nomatch e⟩
    have hu1 := hu_1 z; have hu2 := hu_2 z; have hu3 := hu_3 z
    obtain ⟨p, es, kv, rfl, lg, h⟩ := h
    refine ⟨_, (gss_cons (gs_ps (ps_expr (pe_c (c_check_log T) z (pa_cons (pv 0) pa_nil)))) (gss_cons (gs_ps (ps_if (PW.pt (pw_or (pt_not (pt_val (pe_c (c_s7_is_number T) z (pa_cons (pv 1) pa_nil)))) (pw_or1 (pt_cmpR (r := rNotIn2 K) (op_notIn2 hu2) (pe_tup (pa_cons pe_str (pa_cons (pv 1) pa_nil))) (pv 0) rfl)))) (pss_one (ps_raise rfl takes_gcx (pmk_no T rfl rfl z.r (pa_cons (pv 1) pa_nil)))) pss_nil)) (gss_cons (gs_ps (ps_set (i := 2) sc_notes_within.nd rfl (by first | exact Or.inl rfl | exact Or.inr rfl) pe_bl)) (gss_cons (gs_for owns_gcx (by rfl) (pi_anyK (K := K) rfl (pv 0)) (pg_name (i := 3) sc_notes_within.nd rfl (by first | exact Or.inl rfl | exact Or.inr rfl)) (gss_cons (gs_if (pt_cmpR (r := rEq2 K) (op_eq2 hu1) (pv 3) (pe_tup (pa_cons pe_str (pa_cons (pv 1) pa_nil))) (nomark _)) (gss_cons (gs_ps (ps_set (i := 2) sc_notes_within.nd rfl (by first | exact Or.inl rfl | exact Or.inr rfl) pe_bl)) gss_nil) (gss_cons (gs_if (pt_cmpR (r := rEq2 K) (op_eq2 hu1) (pv 3) (pe_tup (pa_cons pe_str (pa_cons (pv 1) pa_nil))) (nomark _)) (gss_cons (gs_ps (ps_set (i := 2) sc_notes_within.nd rfl (by first | exact Or.inl rfl | exact Or.inr rfl) pe_bl)) gss_nil) (gss_cons (gs_if (PW.pt (pw_and (pt_cmpR (r := rEq2 K) (op_eq2 hu1) (pe_ix (r := rGet K) (ix_get hu3) (pv 3) pe_int (fun _ _ => rfl)) pe_str (nomark _)) (pw_and1 (pt_val (pv 2))))) (gss_cons (gs_yield (pe_ix (r := rGet K) (ix_get hu3) (pv 3) pe_int (fun _ _ => rfl))) gss_nil) gss_nil) gss_nil)) gss_nil)) gss_nil)) gss_nil)))), ?_⟩
    obtain ⟨vs, h1, h2, ok, hl⟩ := id lg
    have ll : vs.length = es.length := h2.length
    walk_at "yhead"; walk_at "y"
    refine ⟨_, rfl, true, p, es, rfl, lg, fun H1 s1 => ?_⟩
    walk_at "y"
    rcases h with ⟨k, rfl, k0, k1, hin, q⟩ | ⟨hk, q⟩
    · refine ⟨_, rfl, _, ?_, .inl ⟨k, rfl, rfl⟩⟩
      walk_at "y"
      refine ⟨sz4 (by simp), fun T1 nT1 => ?_⟩
      have sH2 := same_upd (H := H1) (o := .tup [.str "open", .int k]) nT1
      have eT1 := upd_same (H := H1) (a := T1) (o := .tup [.str "open", .int k])
      generalize upd H1 T1 (.tup [.str "open", .int k]) = H2 at sH2 eT1 ⊢
      have h3 := (s1.trans sH2) _ _ h1
      have h4 := (firm_TR _).all (sT (s1.trans sH2)) h2
      walk_at "y"
      refine rNotIn2_d (dp_tup (SqT.of eT1) rfl) (dp_log h3 h4) (sm_opn k0 k1).shaped (sm_log ok).shaped ?_
      rw [any_op]
      walk_at "y"
      refine gfor_b true ?_
      walk_at "y"
      refine ⟨p, rfl, ⟨vs, SqB.of h3⟩, gfor_it walk_b (fun i ys σ H' => ∃ o ts x, σ = [some (.ref p), some (.int k), some (.bl o), x] ∧ ys = ts.map V.int ∧ ts.length ≤ i ∧ ts ++ notesAux k o (es.drop i) = notesAux k false es ∧ Same H2 H')
        ⟨false, [], none, rfl, rfl, Nat.le_refl _, rfl, Same.refl _⟩ (fun i ys σ H' _ hp => let ⟨_, _, _, _, _, _, _, s⟩ := hp; s _ _ h3) (fun i v ys σ H3 H4 hi hp y => ?_) fun ys σ H' hp => ?_⟩
      · obtain ⟨o, ts, x, rfl, rfl, hts, hno, s3⟩ := hp
        obtain ⟨rfl, e2⟩ := y
        obtain ⟨t, ev, rfl, e3, e4⟩ := LogAt.get (b := true) (p := p) ((firm_TR _).all (sT s3) h4) e2
        have okE := ok _ (List.mem_of_getElem? e3)
        have hd : es.drop i = ev :: es.drop (i + 1) := by
          obtain ⟨h5, h6⟩ := List.getElem?_eq_some_iff.mp e3
          rw [List.drop_eq_getElem_cons h5, h6]
        rw [hd] at hno
        walk_at "y"
        refine ⟨sz4 (by simp), fun T2 nT2 => ?_⟩
        have sH5 := same_upd (H := H4) (o := .tup [.str "open", .int k]) nT2
        have eT2 := upd_same (H := H4) (a := T2) (o := .tup [.str "open", .int k])
        generalize upd H4 T2 (.tup [.str "open", .int k]) = H5 at sH5 eT2 ⊢
        refine rEq2_d (dp_tup (SqT.of (sH5 _ _ e4)) (Ev.pl _)) (dp_tup (SqT.of eT2) rfl) (sm_tup (Ev.sm okE)).shaped (sm_opn k0 k1).shaped ?_
        rw [ev_eqo]
        have s5 := s3.trans sH5
        cases ev with
        | op n =>
          by_cases c : n = k
          · subst c
            rw [show decide (Ev.op n = .op n) = true from decide_eq_true rfl]
            refine ⟨_, rfl, ?_⟩
            walk_at "y"
            exact ⟨true, ts, _, rfl, rfl, Nat.le_succ_of_le hts, by rw [← hno]; simp [notesAux], s5⟩
          · rw [show decide (Ev.op n = .op k) = false from decide_eq_false fun z => c (by cases z; rfl)]
            refine ⟨_, rfl, ?_⟩
            walk_at "y"
            refine ⟨sz4 (by simp), fun T3 nT3 => ?_⟩
            have sH6 := same_upd (H := H5) (o := .tup [.str "shut", .int k]) nT3
            have eT3 := upd_same (H := H5) (a := T3) (o := .tup [.str "shut", .int k])
            generalize upd H5 T3 (.tup [.str "shut", .int k]) = H6 at sH6 eT3 ⊢
            have e6 := sH6 _ _ (sH5 _ _ e4)
            have s6 := s5.trans sH6
            refine rEq2_d (dp_tup (SqT.of e6) (Ev.pl _)) (dp_tup (SqT.of eT3) rfl) (sm_tup (Ev.sm okE)).shaped (sm_opn k0 k1).shaped ?_
            rw [ev_eqv, show decide (Ev.op n = .sh k) = false from decide_eq_false (by intro z; cases z)]
            refine ⟨_, rfl, ?_⟩
            walk_at "y"
            refine rGet_t (n := 0) (SqT.of e6) rfl ?_
            walk_at "y"
            exact ⟨o, ts, _, rfl, rfl, Nat.le_succ_of_le hts, by rw [← hno]; simp [notesAux, c], s6⟩
        | sh n =>
          by_cases c : n = k
          · subst c
            rw [show decide (Ev.sh n = .op n) = false from decide_eq_false (by intro z; cases z)]
            refine ⟨_, rfl, ?_⟩
            walk_at "y"
            refine ⟨sz4 (by simp), fun T3 nT3 => ?_⟩
            have sH6 := same_upd (H := H5) (o := .tup [.str "shut", .int n]) nT3
            have eT3 := upd_same (H := H5) (a := T3) (o := .tup [.str "shut", .int n])
            generalize upd H5 T3 (.tup [.str "shut", .int n]) = H6 at sH6 eT3 ⊢
            have e6 := sH6 _ _ (sH5 _ _ e4)
            have s6 := s5.trans sH6
            refine rEq2_d (dp_tup (SqT.of e6) (Ev.pl _)) (dp_tup (SqT.of eT3) rfl) (sm_tup (Ev.sm okE)).shaped (sm_opn k0 k1).shaped ?_
            rw [ev_eqv, show decide (Ev.sh n = .sh n) = true from decide_eq_true rfl]
            refine ⟨_, rfl, ?_⟩
            walk_at "y"
            exact ⟨false, ts, _, rfl, rfl, Nat.le_succ_of_le hts, by rw [← hno]; simp [notesAux], s6⟩
          · rw [show decide (Ev.sh n = .op k) = false from decide_eq_false (by intro z; cases z)]
            refine ⟨_, rfl, ?_⟩
            walk_at "y"
            refine ⟨sz4 (by simp), fun T3 nT3 => ?_⟩
            have sH6 := same_upd (H := H5) (o := .tup [.str "shut", .int k]) nT3
            have eT3 := upd_same (H := H5) (a := T3) (o := .tup [.str "shut", .int k])
            generalize upd H5 T3 (.tup [.str "shut", .int k]) = H6 at sH6 eT3 ⊢
            have e6 := sH6 _ _ (sH5 _ _ e4)
            have s6 := s5.trans sH6
            refine rEq2_d (dp_tup (SqT.of e6) (Ev.pl _)) (dp_tup (SqT.of eT3) rfl) (sm_tup (Ev.sm okE)).shaped (sm_opn k0 k1).shaped ?_
            rw [ev_eqv, show decide (Ev.sh n = .sh k) = false from decide_eq_false fun z => c (by cases z; rfl)]
            refine ⟨_, rfl, ?_⟩
            walk_at "y"
            refine rGet_t (n := 0) (SqT.of e6) rfl ?_
            walk_at "y"
            exact ⟨o, ts, _, rfl, rfl, Nat.le_succ_of_le hts, by rw [← hno]; simp [notesAux, c], s6⟩
        | fa n =>
            rw [show decide (Ev.fa n = .op k) = false from decide_eq_false (by intro z; cases z)]
            refine ⟨_, rfl, ?_⟩
            walk_at "y"
            refine ⟨sz4 (by simp), fun T3 nT3 => ?_⟩
            have sH6 := same_upd (H := H5) (o := .tup [.str "shut", .int k]) nT3
            have eT3 := upd_same (H := H5) (a := T3) (o := .tup [.str "shut", .int k])
            generalize upd H5 T3 (.tup [.str "shut", .int k]) = H6 at sH6 eT3 ⊢
            have e6 := sH6 _ _ (sH5 _ _ e4)
            have s6 := s5.trans sH6
            refine rEq2_d (dp_tup (SqT.of e6) (Ev.pl _)) (dp_tup (SqT.of eT3) rfl) (sm_tup (Ev.sm okE)).shaped (sm_opn k0 k1).shaped ?_
            rw [ev_eqv, show decide (Ev.fa n = .sh k) = false from decide_eq_false (by intro z; cases z)]
            refine ⟨_, rfl, ?_⟩
            walk_at "y"
            refine rGet_t (n := 0) (SqT.of e6) rfl ?_
            walk_at "y"
            exact ⟨o, ts, _, rfl, rfl, Nat.le_succ_of_le hts, by rw [← hno]; simp [notesAux], s6⟩
        | sw =>
            rw [show decide (Ev.sw = .op k) = false from decide_eq_false (by intro z; cases z)]
            refine ⟨_, rfl, ?_⟩
            walk_at "y"
            refine ⟨sz4 (by simp), fun T3 nT3 => ?_⟩
            have sH6 := same_upd (H := H5) (o := .tup [.str "shut", .int k]) nT3
            have eT3 := upd_same (H := H5) (a := T3) (o := .tup [.str "shut", .int k])
            generalize upd H5 T3 (.tup [.str "shut", .int k]) = H6 at sH6 eT3 ⊢
            have e6 := sH6 _ _ (sH5 _ _ e4)
            have s6 := s5.trans sH6
            refine rEq2_d (dp_tup (SqT.of e6) (Ev.pl _)) (dp_tup (SqT.of eT3) rfl) (sm_tup (Ev.sm okE)).shaped (sm_opn k0 k1).shaped ?_
            rw [ev_eqv, show decide (Ev.sw = .sh k) = false from decide_eq_false (by intro z; cases z)]
            refine ⟨_, rfl, ?_⟩
            walk_at "y"
            refine rGet_t (n := 0) (SqT.of e6) rfl ?_
            walk_at "y"
            exact ⟨o, ts, _, rfl, rfl, Nat.le_succ_of_le hts, by rw [← hno]; simp [notesAux], s6⟩
        | no n =>
            rw [show decide (Ev.no n = .op k) = false from decide_eq_false (by intro z; cases z)]
            refine ⟨_, rfl, ?_⟩
            walk_at "y"
            refine ⟨sz4 (by simp), fun T3 nT3 => ?_⟩
            have sH6 := same_upd (H := H5) (o := .tup [.str "shut", .int k]) nT3
            have eT3 := upd_same (H := H5) (a := T3) (o := .tup [.str "shut", .int k])
            generalize upd H5 T3 (.tup [.str "shut", .int k]) = H6 at sH6 eT3 ⊢
            have e6 := sH6 _ _ (sH5 _ _ e4)
            have s6 := s5.trans sH6
            refine rEq2_d (dp_tup (SqT.of e6) (Ev.pl _)) (dp_tup (SqT.of eT3) rfl) (sm_tup (Ev.sm okE)).shaped (sm_opn k0 k1).shaped ?_
            rw [ev_eqv, show decide (Ev.no n = .sh k) = false from decide_eq_false (by intro z; cases z)]
            refine ⟨_, rfl, ?_⟩
            walk_at "y"
            refine rGet_t (n := 0) (SqT.of e6) rfl ?_
            walk_at "y"
            cases o with
            | true =>
              walk_at "y"
              refine tGYield_i (sz5 (by rw [List.length_map]; omega)) ?_
              walk_at "y"
              refine rGet_t (n := 1) (SqT.of e6) rfl ?_
              exact ⟨true, ts ++ [n], _, rfl, by rw [List.map_append]; rfl, by rw [List.length_append]; simp; omega, by rw [← hno]; simp [notesAux], s6⟩
            | false =>
              walk_at "y"
              exact ⟨false, ts, _, rfl, rfl, Nat.le_succ_of_le hts, by rw [← hno]; simp [notesAux], s6⟩
      · obtain ⟨o, ts, x, rfl, rfl, hts, hno, s3⟩ := hp
        rw [ll, List.drop_length, show notesAux k o [] = [] by cases o <;> rfl, List.append_nil] at hno
        rw [hno]
        exact q _ ((s1.trans sH2).trans s3)
    · have raised : ∀ {H2 : Hp}, Same H1 H2 → _ := fun {H2} s2 => mkx_i (f := "index") (c := "NoPlace") (v := kv) (H := H2) (Q := E) fun d H' hd s3 e => q d H' ((s1.trans s2).free hd) ((s1.trans s2).trans s3) e
      rcases hk with rfl | ⟨c, rfl⟩ | rfl | ⟨k, rfl, k0, k1, hin⟩
      · refine ⟨_, rfl, false, ?_, .inr (.inr (.inl ⟨rfl, rfl⟩))⟩
        walk_at "y"
        exact raised (Same.refl _)
      · refine ⟨_, rfl, false, ?_, .inr (.inl ⟨⟨c, rfl⟩, rfl⟩)⟩
        walk_at "y"
        exact raised (Same.refl _)
      · refine ⟨_, rfl, false, ?_, .inr (.inr (.inr ⟨⟨_, rfl⟩, rfl⟩))⟩
        walk_at "y"
        exact raised (Same.refl _)
      · refine ⟨_, rfl, _, ?_, .inl ⟨k, rfl, rfl⟩⟩
        walk_at "y"
        refine ⟨sz4 (by simp), fun T1 nT1 => ?_⟩
        have sH2 := same_upd (H := H1) (o := .tup [.str "open", .int k]) nT1
        have eT1 := upd_same (H := H1) (a := T1) (o := .tup [.str "open", .int k])
        generalize upd H1 T1 (.tup [.str "open", .int k]) = H2 at sH2 eT1 ⊢
        have h3 := (s1.trans sH2) _ _ h1
        have h4 := (firm_TR _).all (sT (s1.trans sH2)) h2
        walk_at "y"
        refine rNotIn2_d (dp_tup (SqT.of eT1) rfl) (dp_log h3 h4) (sm_opn k0 k1).shaped (sm_log ok).shaped ?_
        rw [any_op]
        walk_at "y"
        exact raised sH2
end
end L76
namespace L76
open PySem PySem.Spec PyProof.Rows L2
variable {gd : Bool}
local macro_rules | `(tactic| walk_at "y1") => `(tactic| with_reducible first
  | refine tSeq_i ?_ | refine tAsg_i ?_ | refine tCons_i ?_ | refine tNil_i ?_ | refine tC_i ?_ | refine tOp_i ?_ | refine tIfS_i ?_ | refine tTest_i ?_ | refine exBl_i ?_ | refine tRet_i ?_ | refine tCall_i ?_
  | refine tCB_i ?_ | refine tLst_i ?_ | refine tTup_i ?_ | refine rI0_i ?_ | refine tDrop_i ?_ | refine tNext_i ?_ | refine tB_i ?_ | refine tAnd_i ?_ | refine tOr_i ?_ | refine tNot_i ?_ | refine tAndV_i ?_ | refine tOrV_i ?_ | refine tNotV_i ?_
  | refine tIf_i ?_ | refine tUn_i ?_ | refine tDGet_i ?_ | refine sDPut_i ?_ | refine tFld_i ?_ | refine tRetN_i ?_ | refine tBreak_i ?_ | refine tCont_i ?_ | refine rU_i ?_)
local macro_rules | `(tactic| walk_at "yhead") => `(tactic| dsimp only [L2.start, List.map, List.length_cons, List.length_nil, Nat.reduceAdd, Nat.reduceSub, List.replicate, List.cons_append, List.nil_append])
local macro_rules | `(tactic| walk_at "y2") => `(tactic| first
  | walk_at "y1"
  | ((with_reducible refine tVar_i (v := ?v) ?h ?q); (case h => rfl))
  | ((with_reducible refine gName_i ?_); (dsimp only [List.set]))
  | ((with_reducible refine rEq_i ?h ?q); (case h => rfl)) | ((with_reducible refine rNe_i ?h ?q); (case h => rfl)))
local macro_rules | `(tactic| walk_at "y") => `(tactic| repeat walk_at "y2")
/-! list(zip(range(0), g)): g a generator that is not begun -/
theorem begins_range0 (r : Addr) {t u v : Tok} : Begins (.ref r) { cls := .type "range_iterator", data := .fields #[rawInt 0, rawInt 0, rawInt 1] } (fun h => IsRange h r 0 0 1 t u v) where
  iter := fun prog w A E s Q hr hQ => by
    have e : Builtin.Range.rangeSize 0 0 1 = 0 := by decide +kernel
    have := wpAny_pyIter_range (prog := prog) (w := w) (A := A) (E := E) (Q := Q) hr (by decide +kernel)
    rw [e] at this
    exact this hQ
  keeps := fun h h' x hk => hk _ _ x
  free := rfl
abbrev zgT (h : Heap) (o1 : Obj) (b : Addr) : Heap := (h.push o1).push { cls := .type "tuple", data := .seq #[.ref h.objs.size, .ref b] }
abbrev zgO (h : Heap) (o1 : Obj) (b : Addr) : Heap := (zgT h o1 b).push { cls := .type "tuple", data := .seq #[.none, .none] }
abbrev zgZ (h : Heap) (o1 : Obj) (b : Addr) : Heap := (zgO h o1 b).push { cls := .type "zip", data := .fields #[.none, .bool false, .bool false, .ref (h.push o1).objs.size, .ref (zgT h o1 b).objs.size] }
set_option maxHeartbeats 4000000 in
theorem meets_zip_newG {v1 : Value} {o1 : Obj} {b g : Nat} {H1 : Heap → Prop} (B1 : Begins v1 o1 H1) :
    Meets (Builtin.«zip.__new__» ⟨[.type "zip", v1, .ref b], []⟩) (fun _ R s => (H1 s.heap ∧ s.heap.IsGen b g) ∧
      R (.ok (.ret (.ref (zgO s.heap o1 b).objs.size))) { s with heap := zgZ s.heap o1 b }) :=
  .of_wp fun prog w A R s h => by
    obtain ⟨hp, gg, d, tk, os⟩ := s; obtain ⟨⟨h1, h2⟩, h⟩ := h
    have hsub := sub_zip
    have q1 : ∀ {A' : Around} {E : Value → Shared → Prop} {Q : Value → Shared → Prop}, Q (.ref hp.objs.size) ⟨(hp.push o1), gg, d, tk, os⟩ → wpAny (model prog w) A' (pyIter v1) Q E ⟨hp, gg, d, tk, os⟩ :=
      fun q => B1.iter prog w _ _ ⟨hp, gg, d, tk, os⟩ _ h1 q
    have q2 : ∀ {A' : Around} {E : Value → Shared → Prop} {Q : Value → Shared → Prop}, Q (.ref b) ⟨(hp.push o1), gg, d, tk, os⟩ → wpAny (model prog w) A' (pyIter (.ref b)) Q E ⟨(hp.push o1), gg, d, tk, os⟩ :=
      fun q => wpAny_pyIter_gen (s := ⟨(hp.push o1), gg, d, tk, os⟩) (h2.keeps fun b' o' e => Heap.get?_push_of_some _ e) q
    wp_walk using q1, q2
    exact ⟨_, rfl, h⟩
section
variable {prog : Program} {w : World} {A : Around} {E : Value → Shared → Prop} {s : Shared}
theorem zip_beginsG {v1 : Value} {o1 : Obj} {b g : Nat} {H1 : Heap → Prop} {Q : Value → Shared → Prop} (B1 : Begins v1 o1 H1) (h1 : H1 s.heap) (h2 : s.heap.IsGen b g)
    (h : ∀ h', IsZip h' (s.heap.objs.size + 3) (s.heap.objs.size + 1) (s.heap.objs.size + 2) .none → IsTupOf2 h' (s.heap.objs.size + 1) (.ref s.heap.objs.size) (.ref b) →
      IsTupOf2 h' (s.heap.objs.size + 2) .none .none → h'.get? s.heap.objs.size = some o1 → h'.objs.size = s.heap.objs.size + 4 →
      (∀ c o, s.heap.get? c = some o → h'.get? c = some o) → Q (.ref (s.heap.objs.size + 3)) { s with heap := h' }) :
    wpAny (model prog w) A (call (.type "zip") [v1, .ref b]) Q E s := by
  refine callType_new PySem.F.called_zip (by decide) (PySem.F.typeCall_zip_2 _ _) (PySem.F.newCall_zip_2 _ _) (fun obj => PySem.F.args_object_init_3 obj _ _) PySem.F.entry_zip_new
    (meets_zip_newG (b := b) (g := g) B1) ⟨⟨h1, h2⟩, ?_⟩
  have z1 : (s.heap.push o1).objs.size = s.heap.objs.size + 1 := by rw [Heap.size_push]
  have zT : (zgT s.heap o1 b).objs.size = s.heap.objs.size + 2 := by rw [Heap.size_push, z1]
  have zO : (zgO s.heap o1 b).objs.size = s.heap.objs.size + 3 := by rw [Heap.size_push, zT]
  have zZ : (zgZ s.heap o1 b).objs.size = s.heap.objs.size + 4 := by rw [Heap.size_push, zO]
  have gZ : (zgZ s.heap o1 b).get? (zgO s.heap o1 b).objs.size = some { cls := .type "zip", data := .fields #[.none, .bool false, .bool false, .ref (s.heap.push o1).objs.size, .ref (zgT s.heap o1 b).objs.size] } := Heap.get?_push_size _ rfl
  have gO : (zgZ s.heap o1 b).get? (zgT s.heap o1 b).objs.size = some { cls := .type "tuple", data := .seq #[.none, .none] } := Heap.get?_push_of_some _ (Heap.get?_push_size _ rfl)
  have gT : (zgZ s.heap o1 b).get? (s.heap.push o1).objs.size = some { cls := .type "tuple", data := .seq #[.ref s.heap.objs.size, .ref b] } := Heap.get?_push_of_some _ (Heap.get?_push_of_some _ (Heap.get?_push_size _ rfl))
  have g1 : (zgZ s.heap o1 b).get? s.heap.objs.size = some o1 := Heap.get?_push_of_some _ (Heap.get?_push_of_some _ (Heap.get?_push_of_some _ (Heap.get?_push_size _ B1.free)))
  rw [zO, zT, z1] at gZ
  rw [zT] at gO
  rw [z1] at gT
  show _ ∧ _
  rw [zO]
  exact ⟨⟨_, gZ, rfl⟩, h _ gZ gT gO g1 zZ fun c o e => Heap.get?_push_of_some _ (Heap.get?_push_of_some _ (Heap.get?_push_of_some _ (Heap.get?_push_of_some _ e)))⟩
/-- next of such a zip: the first iterator is at its end -/
theorem zipG_next_end {z TI TO i1 : Addr} {v2 a1 a2 : Value} {Q : Fin → Shared → Prop} (hh : A.handled = none) (hz : IsZip s.heap z TI TO .none) (hTI : IsTupOf2 s.heap TI (.ref i1) v2) (hTO : IsTupOf2 s.heap TO a1 a2) (st1 : IsRangeIter s.heap i1 0 0 1) (ne : z ≠ i1)
    (hE : ∀ h' tk e, (∀ c o, c ≠ z → c ≠ i1 → s.heap.get? c = some o → h'.get? c = some o) → (∃ o, h'.get? e = some o ∧ o.cls = .type "StopIteration") → E (.ref e) { s with heap := h', toks := tk }) :
    wpAny (model prog w) A (Builtin.«zip.__next__» ⟨[.ref z], []⟩) Q E s := by
  obtain ⟨hp, g, d, tk0, os⟩ := s
  show wpAny _ _ (field (.ref z) 2 >>= _) _ _ _
  refine wpAny_bind (wpAny_field hz rfl (x := .bool false) rfl ?_)
  show wpAny _ _ (field (.ref z) 3 >>= _) _ _ _
  refine wpAny_bind (wpAny_field hz rfl (x := .ref TI) rfl ?_)
  refine wpAny_bind (wpAny_seqItems hTI rfl ?_)
  show wpAny _ _ (Builtin.SmallTypes.ownedTupleIsFree (.ref z) >>= _) _ _ _
  refine wpAny_bind ?_
  unfold Builtin.SmallTypes.ownedTupleIsFree
  refine wpAny_bind (wpAny_field hz rfl (x := .none) rfl (wpAny_pure ?_))
  simp only [if_true]
  refine wpAny_bind (wpAny_rule ?_)
  refine wpAny_bind (wpAny_field hz rfl (x := .ref TO) rfl ?_)
  refine wpAny_bind (wpAny_setField_rec hz (by simp) fun g0 hz0 hs0 => ?_)
  replace hz0 : IsZip g0 z TI TO .ellipsis := hz0
  replace hs0 : Heap.SameBut z hp g0 := hs0
  refine wpAny_bind ?_
  simp only [List.zipIdx_cons, List.zipIdx_nil, List.forIn_cons, List.forIn_nil]
  refine wpAny_bind (wpAny_bind (wpAny_onRaise ?_))
  show wpAny _ _ (Builtin.SmallTypes.nextOf (.ref i1) >>= _) _ _ ⟨g0, g, d, tk0, os⟩
  have hi0 : IsRangeIter g0 i1 0 0 1 := hs0.extBut _ _ (Ne.symm ne) st1
  have hT : Shared.TypeIs ⟨g0, g, d, tk0, os⟩ (.ref i1) "range_iterator" := ⟨_, hi0, rfl⟩
  refine wpAny_bind ?_
  unfold Builtin.SmallTypes.nextOf
  refine wpAny_bind (wpAny_callSpecial?_slot (name := Str.ofString "__next__") hT PySem.F.slot_range_iterator_next
    (wpAny_call_entry PySem.F.slot_range_iterator_next hT PySem.F.entry_range_iterator_next ?_ (PySem.F.args_range_iterator_next_1 _)))
  show wpAny _ _ (field (.ref i1) 0 >>= _) _ _ _
  refine wpAny_bind (wpAny_field hi0 rfl (x := rawInt 0) rfl ?_)
  show wpAny _ _ (field (.ref i1) 1 >>= _) _ _ _
  refine wpAny_bind (wpAny_field hi0 rfl (x := rawInt 0) rfl ?_)
  show wpAny _ _ (field (.ref i1) 2 >>= _) _ _ _
  refine wpAny_bind (wpAny_field hi0 rfl (x := rawInt 1) rfl ?_)
  show wpAny _ _ (if (0 : Int) ≤ 0 then _ else _) _ _ _
  rw [if_pos (by decide)]
  refine wpAny_bind (wpAny_rule ?_)
  refine wpAny_bind ?_
  show wpAny _ _ (newExc (.type "StopIteration") [] >>= _) _ _ _
  refine wpAny_bind ?_
  simp only [newExc, newTuple]
  refine wpAny_bind (wpAny_newObj_type ?_ (by size_fits))
  refine wpAny_bind (m := firstArgMember _ _) (wpAny_of_eq (a := Value.none) (by first | rfl | (simp only [firstArgMember]; rfl)) ?_)
  refine wpAny_newObj_type ?_ (by size_fits)
  simp only [raiseNew]
  refine wpAny_bind (wpAny_handled ?_)
  first | rw [show A.in1.handled = none from hh] | rw [hh]
  refine wpAny_bind (wpAny_pure (wpAny_throw ?_))
  have hg : ∀ c o, g0.get? c = some o → ((g0.push { cls := Value.type "tuple", data := Data.seq #[] }).push { cls := Value.type "StopIteration", data := Data.fields (#[Value.ref g0.objs.size, Value.none, Value.none, Value.none, Value.bool false, Value.none] ++ ownMembersOf (Value.type "StopIteration") []) }).get? c = some o := fun c o e => Heap.get?_push_of_some _ (Heap.get?_push_of_some _ e)
  have hzq := hg _ _ hz0
  have hez : (g0.push { cls := Value.type "tuple", data := Data.seq #[] }).objs.size ≠ z := by
    have := Heap.lt_size hz0
    rw [Heap.size_push]
    exact Nat.ne_of_gt (Nat.lt_succ_of_lt this)
  refine wpAny_setField_rec (s := ⟨_, g, d, tk0, os⟩) hzq (by simp) fun q' _ hq' => ?_
  exact hE q' tk0 _ (fun c o cz c1 x => hq'.extBut _ _ cz (hg _ _ (hs0.extBut _ _ cz x))) ⟨_, hq'.extBut _ _ hez (Heap.get?_push_size _ rfl), rfl⟩
theorem pyNext_zipG_end {z TI TO i1 : Addr} {v2 a1 a2 : Value} {Q : Option Value → Shared → Prop} (hh : A.handled = none) (hz : IsZip s.heap z TI TO .none) (hTI : IsTupOf2 s.heap TI (.ref i1) v2) (hTO : IsTupOf2 s.heap TO a1 a2) (st1 : IsRangeIter s.heap i1 0 0 1) (ne : z ≠ i1)
    (hQ : ∀ h' tk, (∀ c o, c ≠ z → c ≠ i1 → s.heap.get? c = some o → h'.get? c = some o) → Q none { s with heap := h', toks := tk }) : wpAny (model prog w) A (pyNext (.ref z)) Q E s := by
  have hT : s.TypeIs (.ref z) "zip" := ⟨_, hz, rfl⟩
  unfold pyNext
  refine wpAny_bind (wpAny_attempt (wpAny_callSpecial?_slot (name := Str.ofString "__next__") hT PySem.F.slot_zip_next
    (wpAny_call_entry PySem.F.slot_zip_next hT PySem.F.entry_zip_next (zipG_next_end hh hz hTI hTO st1 ne fun h' tk e hk he => ?_) (PySem.F.args_zip_next_1 _))))
  obtain ⟨o, ho, hc⟩ := he
  refine wpAny_bind (wpAny_isInstance (T := "StopIteration") (b := true) ⟨o, ho, hc⟩ isSubtype_stop ?_)
  exact wpAny_pure (hQ _ _ hk)
theorem zip_no_len : typeLookup (.type "zip") "__len__" = pure none := by rw [typeLookup_type, builtinLookup_eq_fast]; kernel_rfl
theorem zip_no_hint : typeLookup (.type "zip") "__length_hint__" = pure none := by rw [typeLookup_type, builtinLookup_eq_fast]; kernel_rfl
theorem list_zipG {z TI TO i1 : Addr} {v2 a1 a2 : Value} {Q : Value → Shared → Prop} (hh : A.handled = none) (hz : IsZip s.heap z TI TO .none) (hTI : IsTupOf2 s.heap TI (.ref i1) v2) (hTO : IsTupOf2 s.heap TO a1 a2) (st1 : IsRangeIter s.heap i1 0 0 1) (ne : z ≠ i1)
    (hQ : ∀ h' tk c, (∀ b o, b ≠ z → b ≠ i1 → s.heap.get? b = some o → h'.get? b = some o) → h'.get? s.heap.objs.size = some { cls := .type "list", data := .seq #[] c } → Q (.ref s.heap.objs.size) { s with heap := h', toks := tk }) :
    wpAny (model prog w) A (call (.type "list") [.ref z]) Q E s := by
  have hSz : s.heap.objs.size ≠ z := Nat.ne_of_gt (Heap.lt_size hz)
  have hSi : s.heap.objs.size ≠ i1 := Nat.ne_of_gt (Heap.lt_size st1)
  refine callType_codes (Q₁ := fun obj s₁ => obj = .ref s.heap.objs.size ∧ s₁ = { s with heap := s.heap.push { cls := .type "list", data := .seq #[] } }) PySem.F.called_list (PySem.F.typeCall_list_1 _) PySem.F.entry_list_init
    (code_list_new _ ⟨rfl, rfl⟩) fun obj s₁ h₁ => ?_
  obtain ⟨rfl, rfl⟩ := h₁
  have hS : (s.heap.push { cls := .type "list", data := .seq #[] }).get? s.heap.objs.size = some { cls := .type "list", data := .seq #[] } := Heap.get?_push_size _ rfl
  refine ⟨⟨_, hS, rfl⟩, PySem.F.args_list_init_2 _ _, ?_⟩
  show wpAny _ A.in1.in1 (do let old ← Builtin.List.listItems (.ref s.heap.objs.size); Builtin.List.listUpdate (.ref s.heap.objs.size) (fun _ => #[]); letGo old.toList.reverse; Builtin.List.listExtendWith (.ref s.heap.objs.size) (.ref z) .none) _ _ _
  refine wpAny_bind ?_
  unfold Builtin.List.listItems
  refine wpAny_bind (wpAny_seqItems hS rfl (wpAny_pure ?_))
  show wpAny _ A.in1.in1 (updateSeq s.heap.objs.size (fun _ => #[]) >>= fun _ => letGo (#[] : Array Value).toList.reverse >>= fun _ => Builtin.List.listExtendWith (.ref s.heap.objs.size) (.ref z) .none) _ _ _
  refine wpAny_bind (wpAny_updateSeq hS rfl ?_)
  have hS2 := Heap.get?_update_self (Obj.mapSeq (fun _ => (#[] : Array Value))) hS rfl
  refine wpAny_bind (wpAny_letGo ?_)
  unfold Builtin.List.listExtendWith
  have up : ∀ (h : Heap) (f : Obj → Obj), (∀ b o, s.heap.get? b = some o → h.get? b = some o) → ∀ b o, s.heap.get? b = some o → (h.update s.heap.objs.size f).get? b = some o := fun h f q b o e =>
    (Heap.get?_update_other _ _ (Ne.symm (Nat.ne_of_lt (Heap.lt_size e)))).trans (q b o e)
  have k1 : ∀ b o, s.heap.get? b = some o → (s.heap.push { cls := .type "list", data := .seq #[] }).get? b = some o := fun b o e => Heap.get?_push_of_some _ e
  have k2 := up _ (Obj.mapSeq (fun _ => (#[] : Array Value))) k1
  have gty : ∀ {h : Heap}, (∀ b o, s.heap.get? b = some o → h.get? b = some o) → Shared.TypeIs { s with heap := h } (.ref z) "zip" := fun {h} q => ⟨_, q _ _ hz, rfl⟩
  refine wpAny_bind (wpAny_typeOf (T := "zip") (gty k2) ?_)
  have h1 : Builtin.List.listSameRef (.ref s.heap.objs.size) (.ref z) = false := by simp [Builtin.List.listSameRef, hSz]
  have h2 : (Value.type "zip" == Value.type "list") = false := by decide
  have h3 : (Value.type "zip" == Value.type "tuple") = false := by decide
  simp only [h1, h2, h3, Bool.or_false, Bool.false_eq_true, if_false]
  refine wpAny_bind (wpAny_pyIter_zip (s := { s with heap := _ }) (k2 _ _ hz) ?_)
  refine wpAny_bind (wpAny_holding ?_)
  unfold Builtin.List.listLengthHint
  refine wpAny_bind (wpAny_specialOf (gty k2) zip_no_len ?_)
  show wpAny _ A.in1.in1 (specialOf (Value.ref z) (Str.ofString "__length_hint__") >>= _) _ _ _
  refine wpAny_bind (wpAny_specialOf (gty k2) zip_no_hint ?_)
  refine wpAny_pure ?_
  show wpAny _ A.in1.in1 (rule "list.extend.makes-room" >>= fun _ => Builtin.List.listTouch (.ref s.heap.objs.size) >>= fun _ =>
    again (.builtin "list.extend.loop" ⟨[.ref s.heap.objs.size, .ref z, .none], []⟩)) _ _ _
  refine wpAny_bind (wpAny_rule ?_)
  refine wpAny_bind ?_
  show wpAny _ A.in1.in1 (updateSeq s.heap.objs.size (·.push .none) >>= fun _ => updateSeq s.heap.objs.size (·.pop)) _ _ _
  refine wpAny_bind (wpAny_updateSeq hS2 rfl ?_)
  have hS3 := Heap.get?_update_self (Obj.mapSeq (·.push Value.none)) hS2 rfl
  refine wpAny_updateSeq (hz := by seq_fits) hS3 rfl ?_
  have hS4 := Heap.get?_update_self (Obj.mapSeq (·.pop)) hS3 rfl
  have k4 := up _ (Obj.mapSeq (·.pop)) (up _ (Obj.mapSeq (·.push Value.none)) k2)
  refine wpAny_pure ⟨plainId_quiet PySem.F.plain_extend_loop _, ?_⟩
  refine codeAny_builtin PySem.F.entry_extend_loop ?_
  rw [Around.under_plainId PySem.F.plain_extend_loop _]
  show wpAny _ A.in1.in1 (pyNext (.ref z) >>= _) _ _ _
  refine wpAny_bind (pyNext_zipG_end (s := { s with heap := _ }) hh (k4 _ _ hz) (k4 _ _ hTI) (k4 _ _ hTO) (k4 _ _ st1) ne fun h' tk hk => ?_)
  exact wpAny_pure ⟨rfl, hQ h' tk _ (fun b o nb ni e => hk b o nb ni (k4 b o e)) (hk _ _ hSz hSi hS4)⟩
end
section
variable {X : Cx} {k : Nat} {f : Addr} {fd : FuncData} {ps : List Str} {sp : SpG} {dvs : List V} {ds : List Value} {x : Str} {e : Expr} {es : List Expr} {t ta : TA} {p p2 pos pos' : Pos}
/-- this is a generator -/
def genO (a : Addr) : HO := .ext fun h => ∃ g, h.IsGen a g
def tGenE (sp : SpG) (dvs : List V) (t : TA) : TE := fun σ H Q => t σ H fun vs H1 => sp (vs ++ dvs) H1 (fun _ _ => True) (fun _ _ _ => True) ∧ ∀ a, H1 a = none → Q (.ref a) (upd H1 a (genO a))
/-- f(e, ..) of a generator def, as a value that never begins -/
theorem pe_genE (F : GFn X.prog X.w X.K X.mg X.base k f fd ps sp) (hr : Room k X.A) (hg : Gl X x) (hm : X.mg x = some (.ref f)) (hk : PySem.W.keepIn X.K (.ref f) = true) (hb : Binds X.K fd ps ds) (hd : Vals dvs ds)
    (ha : PA X (e :: es) t) (hdb : (x == ("__debug__" : Str)) = false := by decide) (he : starEach (e :: es) X.env = (false, eval e X.env) :: starEach es X.env := by rfl) (hpl : (backTo pos' (starEach es X.env)).any (·.1) = false := by rfl) :
    PE X (.Call (.Name x p) (e :: es) [] pos') (tGenE sp dvs t) := by
  refine ⟨fun pins s σ H Q I h => ?_⟩
  refine wpAny_Call_Name_kw (ld_glob I hg hm ?_ hdb)
  refine PySem.W.callWith_K (h₀ := X.base) I.ok.mod.kin hk (thn (ha.run pos' pins s σ H _ I h) fun us s1 ⟨vs, H1, I1, r, q, q2⟩ => ⟨I1.kIn, ?_⟩) he hpl
  have r2 : Vals (vs ++ dvs) (us ++ ds) := r.append hd
  have hl2 : (us ++ ds).length = ps.length := by rw [← r2.length]; exact F.len _ _ _ _ q
  show wpAny _ _ (call (.ref f) us) _ _ _
  refine wpAny_call (codeAny_mono (F.run X.A X.stack s1 H1 ⟨us, []⟩ (us ++ ds) (vs ++ dvs) _ _ hr I1.env0 (hb s1 us I1.kIn hl2) r2 q) fun r s' hq => ?_)
  cases r with
  | error e => exact False.elim hq
  | ok fl =>
    cases fl with
    | ret u =>
      obtain ⟨a, g, c, rfl, ha1, ha2, hgen, hgs, os, hbare, hlim, hkp, _⟩ := hq
      have I2 : Inv X pins σ H1 s' := I1.call' (ch := []) os (Un.kept hkp) (I1.hok.kept hkp) hbare fun b z => by simp at z
      have hn : H1 a = none := I1.hok.fresh ha1
      have I3 : Inv X pins σ (upd H1 a (genO a)) s' := I1.call' (ch := []) os (by
        have uk : Un (frs X.stack) [] H1 H1 s1.heap s'.heap := Un.kept hkp
        refine ⟨uk.keep, uk.slot, fun b ob q n hx => ?_, uk.there, fun b xs q => ?_, fun b ob y q => ?_, fun b qs q => ?_⟩
        · rw [upd_ne (Nat.ne_of_lt (Nat.lt_of_lt_of_le (Heap.lt_size q) ha1))]; exact uk.free b ob q n hx
        · rw [upd_ne (ne_of_none q hn)]; exact q
        · rw [upd_ne (ne_of_none q hn)]; exact q
        · exact ⟨#[], by rw [upd_ne (ne_of_none q hn), q]; simp⟩) (fun b u q => by
        by_cases hb : b = a
        · subst hb
          rw [upd_same] at q
          cases q
          obtain ⟨o, nm, qn, ho, hc, hd', hsl⟩ := id hgen
          exact ⟨⟨g, hgen⟩, ⟨o, ho⟩, fun h1 h2 ⟨g', o', nm', qn', ho', r'⟩ hk => ⟨g', o', nm', qn', hk _ ho', r'⟩⟩
        · rw [upd_ne hb] at q
          exact (I2.hok b u q).stay (fun _ _ _ z => z) (fun d z => by rw [upd_ne (ne_of_none z hn)]; exact z) fun d xs z => by rw [upd_ne (ne_of_none z hn)]; exact z) hbare fun b z => by simp at z
      exact ⟨.ref a, _, I3, rfl, q2 a hn⟩
    | next => exact False.elim hq
    | brk => exact False.elim hq
    | cont => exact False.elim hq
/-- range(j) as a value -/
theorem cr_range1 : CallR X (.type "range") (fun vs H Q => ∃ j, vs = [V.int j] ∧ ∀ p, H p = none → Q (.ref p) (upd H p (.rng 0 j))) := by
  intro pins s σ H vs us Q I r h
  obtain ⟨j, rfl, q⟩ := h
  obtain ⟨u1, rfl, ri⟩ := vals1 r
  obtain ⟨t, rfl⟩ := ri
  refine call_range_1 ⟨.ref s.heap.objs.size, upd H s.heap.objs.size (.rng 0 j), I.laid (t' := s.toks + 1 + 1) (fun b o e => Heap.get?_push_of_some _ e) (Nat.le_refl _) ?_, rfl, q _ (I.hok.fresh (Nat.le_refl _))⟩
  exact ⟨s.toks, t, s.toks + 1, Heap.get?_push_size _ rfl⟩
def tLZ (ta : TA) : TE := fun σ H Q => ta σ H fun vs H1 => ∃ r b, vs = [.ref r, .ref b] ∧ H1 r = some (.rng 0 0) ∧ H1 b = some (genO b) ∧ ∀ p, H1 p = none → Q (.ref p) (upd H1 p (.lst []))
/-- list(zip(range(0), g)) -/
theorem pe_lz {e2 : Expr} (hgl : Gl X "list") (hml : X.mg "list" = none) (hg : Gl X "zip") (hm : X.mg "zip" = none) (ha : PA X [e, e2] ta)
    (hs : starEach [e, e2] X.env = (false, eval e X.env) :: starEach [e2] X.env := by rfl) (hpl : (backTo pos (starEach [e2] X.env)).any (·.1) = false := by rfl)
    (hs2 : starEach [.Call (.Name "zip" p) [e, e2] [] pos] X.env = (false, eval (.Call (.Name "zip" p) [e, e2] [] pos) X.env) :: starEach [] X.env := by rfl)
    (hcalm : X.calm = true := by rfl) : PE X (.Call (.Name "list" p2) [.Call (.Name "zip" p) [e, e2] [] pos] [] pos') (tLZ ta) := by
  refine ⟨fun pins s σ H Q I h => ?_⟩
  refine Call_ (ld_blt I hgl hml PyProof.Rows.boot_list (PyProof.Rows.callWith_type1 ?_ hs2 rfl))
  rw [hs2]
  show wpAny _ _ (spliced ((false, eval (.Call (.Name "zip" p) [e, e2] [] pos) X.env) :: backTo pos' (starEach [] X.env))) _ _ s
  refine Calls.spliced_cons ?_
  refine Call_ (ld_blt I hg hm PyProof.Rows.boot_zip (PyProof.Rows.callWith_type1 (thn (ha.run pos pins s σ H _ I h) fun us s1 ⟨vs, H1, I1, r1, q1⟩ => ?_) hs hpl))
  obtain ⟨r, b, rfl, hr, hb, q⟩ := q1
  cases r1 with
  | cons ra rr =>
    cases rr with
    | cons rb rr =>
      cases rr
      cases ra
      cases rb
      obtain ⟨t1, t2, t3, er⟩ := (show ObjOk X.prog X.w H1 s1.heap r (.rng 0 0) from I1.hok r _ hr)
      obtain ⟨⟨g, hgen⟩, _⟩ := (show ObjOk X.prog X.w H1 s1.heap b (genO b) from I1.hok b _ hb)
      refine zip_beginsG (begins_range0 r) er hgen fun h' hz hTI hTO h1 hsz hk => ?_
      refine Calls.spliced_nil ?_
      have I2 : Inv X pins σ H1 { s1 with heap := h' } := I1.kept (t' := s1.toks) hk
      refine list_zipG (s := { s1 with heap := h' }) (I1.ok.hd hcalm) hz hTI hTO h1 (Nat.ne_of_gt (Nat.lt_add_of_pos_right (by decide))) fun h'' tk c hk2 hS => ?_
      have hsz2 : s1.heap.objs.size ≤ h'.objs.size := by rw [hsz]; exact Nat.le_add_right _ _
      exact ⟨.ref h'.objs.size, upd H1 h'.objs.size (.lst []), I1.laid (t' := tk) (fun b' o e => hk2 b' o (Nat.ne_of_lt (Nat.lt_of_lt_of_le (Heap.lt_size e) (Nat.le_add_right _ _))) (Nat.ne_of_lt (Heap.lt_size e)) (hk b' o e)) hsz2 (show ObjOk X.prog X.w _ _ _ (.lst []) from ⟨by decide, [], c, .nil, hS⟩), rfl, q _ (I1.hok.fresh hsz2)⟩
end
end L76
namespace L76
open PySem PySem.Spec PyProof.Rows L2
variable {gd : Bool}
local macro_rules | `(tactic| walk_at "y1") => `(tactic| with_reducible first
  | refine tSeq_i ?_ | refine tAsg_i ?_ | refine tCons_i ?_ | refine tNil_i ?_ | refine tC_i ?_ | refine tOp_i ?_ | refine tIfS_i ?_ | refine tTest_i ?_ | refine exBl_i ?_ | refine tRet_i ?_ | refine tCall_i ?_
  | refine tCB_i ?_ | refine tLst_i ?_ | refine tTup_i ?_ | refine rI0_i ?_ | refine tDrop_i ?_ | refine tNext_i ?_ | refine tB_i ?_ | refine tAnd_i ?_ | refine tOr_i ?_ | refine tNot_i ?_ | refine tAndV_i ?_ | refine tOrV_i ?_ | refine tNotV_i ?_
  | refine tIf_i ?_ | refine tUn_i ?_ | refine tDGet_i ?_ | refine sDPut_i ?_ | refine tFld_i ?_ | refine tRetN_i ?_ | refine tBreak_i ?_ | refine tCont_i ?_ | refine rU_i ?_)
local macro_rules | `(tactic| walk_at "yhead") => `(tactic| dsimp only [L2.start, List.map, List.length_cons, List.length_nil, Nat.reduceAdd, Nat.reduceSub, List.replicate, List.cons_append, List.nil_append])
local macro_rules | `(tactic| walk_at "y2") => `(tactic| first
  | walk_at "y1"
  | ((with_reducible refine tVar_i (v := ?v) ?h ?q); (case h => rfl))
  | ((with_reducible refine gName_i ?_); (dsimp only [List.set]))
  | ((with_reducible refine rEq_i ?h ?q); (case h => rfl)) | ((with_reducible refine rNe_i ?h ?q); (case h => rfl)))
local macro_rules | `(tactic| walk_at "y") => `(tactic| repeat walk_at "y2")
/-! list(f(..)) of a generator def, what is raised wished for at the caller's slots -/
theorem noStop_of {K : PySem.W.Frag} {C : Addr} {bmB : List Value} {newId : String} (q : PySem.W.excInitIn K C bmB newId = true) (hb : bmB.contains (.type "StopIteration") = false) : PySem.W.subIn K (.ref C) (.type "StopIteration") = some false := by
  unfold PySem.W.excInitIn at q
  split at q
  · rename_i dd cd sl ho
    split at q
    · rename_i C' bm k0 k1 k2 k3 n k5 hm hs
      simp only [Bool.and_eq_true, beq_iff_eq, Bool.not_eq_true'] at q
      obtain ⟨⟨⟨rfl, rfl⟩, hdel⟩, ht⟩ := q
      have hc : PySem.W.clsIn K C' = some cd := by
        unfold PySem.W.clsIn
        rw [ho]
      show PySem.W.mroIn K C' _ = _
      unfold PySem.W.mroIn
      rw [hc, Option.bind_some, hm, if_neg (by simp), List.contains_cons, PySem.W.excTail_contains _ _ ht, hb]
      rfl
    · cases q
  · cases q
section
variable {X : Cx} {k : Nat} {f : Addr} {fd : FuncData} {ps : List Str} {sp : SpG} {dvs : List V} {ds : List Value} {x nm : Str} {e : Expr} {es : List Expr} {t : TA} {p p2 pos pos' : Pos} {W : WX}
def tListGS (sp : SpG) (dvs : List V) (P : Value → Prop) (W : WX) (t : TA) : TE := fun σ H Q => t σ H fun vs H1 => sp (vs ++ dvs) H1 (fun out H2 => ∀ p, H2 p = none → Q (.ref p) (upd H2 p (.lst out))) (fun cls d H' => P cls ∧ W cls d σ H')
theorem pe_listGS (F : GFn X.prog X.w X.K X.mg X.base k f fd ps sp) (tk : Takes X W) {P : Value → Prop} (hP : ∀ c, P c → PySem.W.subIn X.K c (.type "StopIteration") = some false) (hr : Room (k + 3) X.A) (hgl : Gl X nm) (hml : X.mg nm = none) (hv : bootBuiltins nm = some (.type "list"))
    (hg : Gl X x) (hm : X.mg x = some (.ref f)) (hk : PySem.W.keepIn X.K (.ref f) = true) (hb : Binds X.K fd ps ds) (hd : Vals dvs ds) (ha : PA X (e :: es) t)
    (hnm : nm ≠ "__name__" := by decide) (hdbl : (nm == ("__debug__" : Str)) = false := by decide)
    (hdb : (x == ("__debug__" : Str)) = false := by decide) (he : starEach (e :: es) X.env = (false, eval e X.env) :: starEach es X.env := by rfl) (hpl : (backTo pos' (starEach es X.env)).any (·.1) = false := by rfl)
    (hel : starEach [.Call (.Name x p) (e :: es) [] pos'] X.env = (false, eval (.Call (.Name x p) (e :: es) [] pos') X.env) :: starEach [] X.env := by rfl) :
    PE X (.Call (.Name nm p2) [.Call (.Name x p) (e :: es) [] pos'] [] pos) (tListGS sp dvs P W t) := by
  refine ⟨fun pins s σ H Q I hq => ?_⟩
  refine wpAny_Call_Name_kw (ld_blt I hgl hml hv ?_ hnm hdbl)
  refine PyProof.Rows.callWith_type1 ?_ hel rfl
  rw [hel]
  show wpAny _ _ (spliced ((false, eval (.Call (.Name x p) (e :: es) [] pos') X.env) :: backTo pos (starEach [] X.env))) _ _ s
  refine Calls.spliced_cons ?_
  refine wpAny_Call_Name_kw (ld_glob I hg hm ?_ hdb)
  refine PySem.W.callWith_K (h₀ := X.base) I.ok.mod.kin hk (thn (ha.run pos' pins s σ H _ I hq) fun us s0 ⟨vs, H1, I0, r, q⟩ => ⟨I0.kIn, ?_⟩) he hpl
  refine wpAny_mono (run_gfn F (hr.mono (Nat.le_add_right _ _)) hb hd I0 r q) (fun u s1 ⟨H2, sc, ex, I1, hex, hG⟩ => ?_) fun _ _ hx => hx
  refine Calls.spliced_nil ?_
  have hsz : sc.heap.objs.size ≤ s1.heap.objs.size := by
    obtain ⟨a, g, c, _, h1, h2, _⟩ := hG
    exact Nat.le_trans h1 (Nat.le_of_lt h2)
  refine call_list_new hr I1.ok.frames hG (fun S s' acc c H' ys q0 q1 q2 hl q3 q4 q5 q6 q7 q8 => ?_) fun e s' g hc => ?_
  · exact ⟨.ref S, upd H' S (.lst ys), I1.drained (Nat.le_trans hsz q0) hl q1 q2 hex q3 q4 q5 q6 q7, rfl, q8 S q7⟩
  · have kin : X.K.In s'.heap := by
      obtain ⟨a, B, H', cls, d, _, fl, _, ub, _⟩ := id hc
      refine I1.ok.mod.kin.keeps fun b o eb => fl.1 b o (ub.keep b o (I1.bs b o eb).1 (I1.bs b o eb).2 fun hm => ?_)
      rcases List.mem_cons.mp (I1.stkSub b hm) with z | z
      · have h1 := Heap.lt_size eb
        have h2 := Nat.le_trans I1.ok.bsz I1.ok.above
        rw [z] at h1
        exact absurd (Nat.lt_of_lt_of_le h1 h2) (Nat.lt_irrefl _)
      · exact I1.ok.nofr eb z
    refine ⟨notStop_of (fun cls d H hW => hP cls hW.1) kin hc, passAt tk σ pins H2 sc e _ I1 ?_⟩
    · obtain ⟨a, B, H', cls, d, z1, fl, z2, ub, z3, z4, z5, z6⟩ := hc
      exact ⟨a, B, H', cls, d, z1, fl, z2, ub, z3, z4, allBare_setGen z5 rfl, z6.2⟩
end
end L76
namespace L76
open PySem PySem.Spec PyProof.Rows L2
variable {gd : Bool}
local macro_rules | `(tactic| walk_at "y1") => `(tactic| with_reducible first
  | refine tSeq_i ?_ | refine tAsg_i ?_ | refine tCons_i ?_ | refine tNil_i ?_ | refine tC_i ?_ | refine tOp_i ?_ | refine tIfS_i ?_ | refine tTest_i ?_ | refine exBl_i ?_ | refine tRet_i ?_ | refine tCall_i ?_
  | refine tCB_i ?_ | refine tLst_i ?_ | refine tTup_i ?_ | refine rI0_i ?_ | refine tDrop_i ?_ | refine tNext_i ?_ | refine tB_i ?_ | refine tAnd_i ?_ | refine tOr_i ?_ | refine tNot_i ?_ | refine tAndV_i ?_ | refine tOrV_i ?_ | refine tNotV_i ?_
  | refine tYes_i ?_ | refine tTM_i ?_ | refine tPar_i ?_ | refine tSl_i ?_ | refine tNoPart_i ?_ | refine tPart_i ?_ | refine part_i ?_ | refine tMake_i ?_ | refine tProp_i ?_ | refine tCallOG_i ?_ | refine tVeI_i ?_ | refine tOst_i ?_ | refine tMkO_i ?_ | refine sFld_i ?_ | refine fldaug_i ?_ | refine gCons_i ?_ | refine gNil_i ?_ | refine tChain_i ?_ | refine tBM_i ?_ | refine rAdd2_i ?_ | refine rLe2_i ?_ | refine rEq2_i ?_ | refine rEq2_ss ?_ | refine rNe2_i ?_ | refine rNe2_ss ?_ | refine rIsN_i ?_ | refine rNotN_i ?_ | refine tTup_i2 ?_ | refine tIf_i ?_ | refine tUn_i ?_ | refine tDGet_i ?_ | refine sDPut_i ?_ | refine tFld_i ?_ | refine tRetN_i ?_ | refine tBreak_i ?_ | refine tCont_i ?_ | refine rU_i ?_)
local macro_rules | `(tactic| walk_at "yhead") => `(tactic| dsimp only [L2.start, List.map, List.length_cons, List.length_nil, Nat.reduceAdd, Nat.reduceSub, List.replicate, List.cons_append, List.nil_append])
local macro_rules | `(tactic| walk_at "y2") => `(tactic| first
  | walk_at "y1"
  | ((with_reducible refine tVar_i (v := ?v) ?h ?q); (case h => rfl))
  | ((with_reducible refine gName_i ?_); (dsimp only [L2.wipe, List.set]))
  | with_reducible refine iteT ?_ | with_reducible refine iteF ?_ | with_reducible refine iteNT ?_ | with_reducible refine iteNF ?_
  | ((with_reducible refine iteDT ?h ?q); (case h => first | decide +kernel | omega | assumption | exact nv1 | exact nv2 | exact nv3 | exact nv4)) | ((with_reducible refine iteDF ?h ?q); (case h => first | decide +kernel | omega | assumption | exact nv1 | exact nv2 | exact nv3 | exact nv4))
  | ((with_reducible refine iteNDT ?h ?q); (case h => first | decide +kernel | omega | assumption | exact nv1 | exact nv2 | exact nv3 | exact nv4)) | ((with_reducible refine iteNDF ?h ?q); (case h => first | decide +kernel | omega | assumption | exact nv1 | exact nv2 | exact nv3 | exact nv4))
  | ((with_reducible refine rIsi2_1 (T := ?T) (b := true) ?ty ?h ?q); (case ty => first | exact ty_str | exact ty_int | exact ty_bl | exact ty_non); (case h => decide +kernel))
  | ((with_reducible refine rIsi2_1 (T := ?T) (b := false) ?ty ?h ?q); (case ty => first | exact ty_str | exact ty_int | exact ty_bl | exact ty_non); (case h => decide +kernel))
  | ((with_reducible refine rEq2_s ?h ?q); (case h => rfl)) | ((with_reducible refine rNe2_s ?h ?q); (case h => rfl))
  | ((with_reducible refine rEq_i ?h ?q); (case h => rfl)) | ((with_reducible refine rNe_i ?h ?q); (case h => rfl)))
local macro_rules | `(tactic| walk_at "y") => `(tactic| repeat walk_at "y2")
section
variable {P : Program} {w : World} {K : PySem.W.Frag} {mg : Str → Option Value} {base : Heap}
/-- the notes within, by the states -/
def dueAt (es : List Ev) (k : Int) (i : Nat) : Option Int := (es[i]?).bind fun e => match e with | .no t => if k ∈ (stAt es i).opn then some t else none | _ => none
def dueOf (es : List Ev) (k : Int) (i : Nat) : List Int := (List.range i).filterMap (dueAt es k)
theorem dueOf_succ (es : List Ev) (k : Int) (i : Nat) : dueOf es k (i + 1) = dueOf es k i ++ (dueAt es k i).toList := by
  unfold dueOf
  rw [filterMap_snoc]
theorem mem_op {s : WSt} {n k : Int} : k ∈ (s.step (.op n)).opn ↔ k ∈ s.opn ∨ n = k := by
  show k ∈ (if n ∈ s.opn then s.opn else s.opn ++ [n]) ↔ _
  by_cases c : n ∈ s.opn
  · rw [if_pos c]
    exact ⟨.inl, fun h => h.elim id fun e => e ▸ c⟩
  · rw [if_neg c, List.mem_append, List.mem_singleton]
    exact ⟨fun h => h.imp id Eq.symm, fun h => h.imp id Eq.symm⟩
theorem mem_sh {s : WSt} {n k : Int} : k ∈ (s.step (.sh n)).opn ↔ k ∈ s.opn ∧ ¬ n = k := by
  show k ∈ s.opn.filter (fun m => decide (m ≠ n)) ↔ _
  rw [List.mem_filter, decide_eq_true_eq]
  exact ⟨fun h => ⟨h.1, fun e => h.2 e.symm⟩, fun h => ⟨h.1, fun e => h.2 e.symm⟩⟩
theorem due_inv (es : List Ev) (k : Int) : ∀ i, i ≤ es.length → dueOf es k i ++ notesAux k (decide (k ∈ (stAt es i).opn)) (es.drop i) = notesAux k false es
  | 0, _ => rfl
  | i + 1, h => by
    rw [← due_inv es k i (by omega)]
    have e1 : es[i]? = some es[i] := List.getElem?_eq_getElem (by omega)
    rw [List.drop_eq_getElem_cons (show i < es.length by omega), dueOf_succ, stAt_succ e1, show dueAt es k i = (match es[i] with | .no t => if k ∈ (stAt es i).opn then some t else none | _ => none) by unfold dueAt; rw [e1]; rfl]
    cases es[i] with
    | op n =>
      have e2 : decide (k ∈ ((stAt es i).step (.op n)).opn) = (decide (k ∈ (stAt es i).opn) || decide (n = k)) := by
        rw [Bool.eq_iff_iff, Bool.or_eq_true, decide_eq_true_eq, decide_eq_true_eq, decide_eq_true_eq]; exact mem_op
      rw [e2]; simp [notesAux]
    | sh n =>
      have e2 : decide (k ∈ ((stAt es i).step (.sh n)).opn) = (decide (k ∈ (stAt es i).opn) && !decide (n = k)) := by
        rw [Bool.eq_iff_iff, Bool.and_eq_true, Bool.not_eq_true', decide_eq_true_eq, decide_eq_true_eq, decide_eq_false_iff_not]; exact mem_sh
      rw [e2]; simp [notesAux]
    | no t =>
      have e2 : ((stAt es i).step (.no t)).opn = (stAt es i).opn := rfl
      by_cases c : k ∈ (stAt es i).opn
      · simp [notesAux, c, e2]
      · simp [notesAux, c, e2]
    | fa n => simp [notesAux, show ((stAt es i).step (.fa n)).opn = (stAt es i).opn from rfl]
    | sw => simp [notesAux, show ((stAt es i).step .sw).opn = (stAt es i).opn from rfl]
theorem due_all (es : List Ev) (k : Int) : dueOf es k es.length = notesAux k false es := by
  rw [← due_inv es k es.length (Nat.le_refl _), List.drop_length]
  cases decide (k ∈ (stAt es es.length).opn) <;> simp [notesAux]
theorem dueOf_len (es : List Ev) (k : Int) (i : Nat) : (dueOf es k i).length ≤ i := Nat.le_trans (List.length_filterMap_le ..) (by simp)
def opsOf (es : List Ev) : List Int := es.filterMap fun e => match e with | .op n => some n | _ => none
theorem mem_ops {es : List Ev} {k : Int} : k ∈ opsOf es ↔ Ev.op k ∈ es := by
  unfold opsOf
  rw [List.mem_filterMap]
  constructor
  · rintro ⟨e, he, h⟩
    cases e <;> first | (cases h; exact he) | cases h
  · exact fun h => ⟨_, h, rfl⟩
theorem note_ok {es : List Ev} (ok : ∀ e ∈ es, e.ok) {k : Int} : ∀ n ∈ notesAux k false es, 0 ≤ n ∧ n ≤ 1000 := by
  intro n hn
  rw [← due_all] at hn
  obtain ⟨j, _, h⟩ := List.mem_filterMap.mp hn
  unfold dueAt at h
  cases e : es[j]? with
  | none => rw [e] at h; cases h
  | some ev =>
    rw [e, Option.bind_some] at h
    have o := ok ev (List.mem_of_getElem? e)
    cases ev with
    | no t =>
      dsimp only at h
      split at h
      · cases h; exact o
      · cases h
    | _ => cases h
theorem dp_ints {H : Hp} {p : Addr} {ns : List Int} (h : H p = some (.lst (ns.map V.int))) : Dp K H (.ref p) (.list ((ns.map V.int).map vD)) :=
  dp_lst (SqL.of h) (by rw [List.all_map]; exact List.all_eq_true.mpr fun _ _ => rfl)
theorem eqv_nn : PyData.eqv (.list (([] : List V).map vD)) (.list (([] : List V).map vD)) = true := by decide +kernel
def spNotesR : Sp := sp1 fun x H Q _ => ∃ p es, x = .ref p ∧ LogAt true H p es ∧ ∀ H', Same H H' → Q (.bl true) H'
theorem tLZ_i {ta : TA} {σ : L2.St} {H : Hp} {Q : VK} (q : ta σ H fun vs H1 => ∃ r b, vs = [.ref r, .ref b] ∧ H1 r = some (.rng 0 0) ∧ H1 b = some (genO b) ∧ ∀ p, H1 p = none → Q (.ref p) (upd H1 p (.lst []))) : tLZ ta σ H Q := q
theorem tGenE_i {sp : SpG} {dvs : List V} {t : TA} {σ : L2.St} {H : Hp} {Q : VK} (q : t σ H fun vs H1 => sp (vs ++ dvs) H1 (fun _ _ => True) (fun _ _ _ => True) ∧ ∀ a, H1 a = none → Q (.ref a) (upd H1 a (genO a))) : tGenE sp dvs t σ H Q := q
theorem tListGS_i {sp : SpG} {dvs : List V} {Pc : Value → Prop} {W : WX} {t : TA} {σ : L2.St} {H : Hp} {Q : VK} (q : t σ H fun vs H1 => sp (vs ++ dvs) H1 (fun out H2 => ∀ p, H2 p = none → Q (.ref p) (upd H2 p (.lst out))) (fun cls d H' => Pc cls ∧ W cls d σ H')) : tListGS sp dvs Pc W t σ H Q := q
end
local macro_rules | `(tactic| walk_at "y2") => `(tactic| first | refine tLZ_i ?_ | refine tGenE_i ?_ | refine tListGS_i ?_)
section
variable {P : Program} {w : World} {K : PySem.W.Frag} {mg : Str → Option Value} {base : Heap}
theorem sc__law_notes_right : FnScope ["_law_log_here", "_law_states_here", "_law_event", "_law_opened", "_law_number", "_law_caught", "_law_told", "_law_quiet", "error", "_law_due", "_law_at"] ["_law_log_here"] (defScope (top 37)) := ⟨rfl, rfl, rfl, by decide +kernel, rfl, by decide +kernel, by decide +kernel⟩
theorem c__law_notes_right (T : Sy K mg) : Cal true P w K mg base CX0 12 "_law_notes_right" spNotesR := by
  obtain ⟨fN, fdN, FN, mN, kN, bN⟩ := g_notes (P := P) (w := w) (base := base) T
  refine T.cal (F_law_notes_right T) sc__law_notes_right sp1_len (fun cdv f A outer s H vs Q E z h => ?_) (fun _ _ _ _ _ _ us hl => match us, hl with | [_], _ => rfl)
  have hu1 := hu_1 z; have hu2 := hu_2 z; have hu3 := hu_3 z
  obtain ⟨_, rfl, p, es, rfl, lg, q⟩ := h
  refine ⟨_, (pss_cons (ps_set (i := 1) sc__law_notes_right.nd rfl (by first | exact Or.inl rfl | exact Or.inr rfl) (pe_c (c__law_states T) z (pa_cons (pv 0) pa_nil))) (pss_cons (ps_setLc (i := 3) (own := [("_law_event", 2)]) (g := gName 2) (by rfl) sc__law_notes_right.nd rfl rfl (sw_true rfl rfl rfl (by decide +kernel)) (pi_anyK (K := K) rfl (pv 0)) (blkOk_by (own := [("_law_event", 2)]) (N := ["_law_log_here", "_law_states_here", "_law_event", "_law_opened", "_law_number", "_law_caught", "_law_told", "_law_quiet", "error", "_law_due", "_law_at"]) (sc := (defScope (top 37))) (by decide +kernel)) (fun _ _ _ _ _ => (pg_name (i := 2) sc__law_notes_right.nd rfl (by first | exact Or.inl rfl | exact Or.inr rfl))) (fun _ _ _ _ _ => pts_one (pt_cmpR (r := rEq2 K) (op_eq2 hu1) (pe_ix (r := rGet K) (ix_get hu3) (pv 2) pe_int (fun _ _ => rfl)) pe_str (nomark _))) (fun _ _ _ _ _ => (pe_ix (r := rGet K) (ix_get hu3) (pv 2) pe_int (fun _ _ => rfl)))) (pss_cons (ps_for PassesOwn.never (by rfl) (pi_anyK (K := K) rfl (pe_tup (pa_cons pe_int (pa_cons pe_int (pa_cons pe_int (pa_cons pe_int (pa_cons pe_int (pa_cons pe_non (pa_cons pe_bl (pa_cons pe_str pa_nil)))))))))) (pg_name (i := 4) sc__law_notes_right.nd rfl (by first | exact Or.inl rfl | exact Or.inr rfl)) (pss_cons (ps_asg (pe_tup (pa_cons pe_non (pa_cons pe_non (pa_cons pe_non pa_nil)))) (pg_tupK (K := K) rfl (by rfl) (pgs_cons (pg_name (i := 5) sc__law_notes_right.nd rfl (by first | exact Or.inl rfl | exact Or.inr rfl)) (pgs_cons (pg_name (i := 6) sc__law_notes_right.nd rfl (by first | exact Or.inl rfl | exact Or.inr rfl)) (pgs_cons (pg_name (i := 7) sc__law_notes_right.nd rfl (by first | exact Or.inl rfl | exact Or.inr rfl)) pgs_nil))))) (pss_cons (ps_try_keep (i := 8) (j := 5) rfl rfl rfl sc__law_notes_right.nd rfl rfl rfl rfl ⟨rfl, by decide, .inl (T.glo "Absent")⟩ (fun W pn xe tk _ => pss_cons (ps_set (i := 7) sc__law_notes_right.nd rfl (by first | exact Or.inl rfl | exact Or.inr rfl) (pe_lz (by rfl) (T.free "list") (by rfl) (T.free "zip") (pa_cons (pe_callTy cr_range1 (by rfl) (T.free "range") (by decide +kernel) (pa_cons pe_int pa_nil)) (pa_cons (pe_genE FN (z.r.mono (by decide)) (by rfl) mN kN bN .nil (pa_cons (pv 0) (pa_cons (pv 4) pa_nil))) pa_nil)))) (pss_one (ps_set (i := 6) sc__law_notes_right.nd rfl (by first | exact Or.inl rfl | exact Or.inr rfl) (pe_listGS FN tk (P := fun c => c = .ref (He.ga K "NoPlace")) (fun c e => by rw [e]; exact noStop_of (exNo T).o.q (by decide)) (z.r.mono (by decide)) (by rfl) (T.free "list") (by decide +kernel) (by rfl) mN kN bN .nil (pa_cons (pv 0) (pa_cons (pv 4) pa_nil))))))) (pss_cons (ps_if (pt_cmpR (r := rNe2 K) (op_ne2 hu1) (pv 7) (pe_lst pa_nil) (nomark _)) (pss_one (ps_ret pe_bl)) pss_nil) (pss_one (ps_if (PW.pt (pw_or (pt_val (pe_callB (r := rIsi2 K) call_isi2 (by rfl) (T.free "isinstance") (by decide +kernel) (pa_cons (pv 4) (pa_cons (pe_bltn (v := .ty "bool") (u := .type "bool") (by rfl) (T.free "bool") (by decide +kernel) rfl) pa_nil)))) (pw_or (pt_not (pt_val (pe_callB (r := rIsi2 K) call_isi2 (by rfl) (T.free "isinstance") (by decide +kernel) (pa_cons (pv 4) (pa_cons (pe_bltn (v := .ty "int") (u := .type "int") (by rfl) (T.free "int") (by decide +kernel) rfl) pa_nil))))) (pw_or1 (pt_cmpR (r := rNotIn2 K) (op_notIn2 hu2) (pv 4) (pv 3) rfl))))) (pss_one (ps_if (PW.pt (pw_or (pt_not (pt_val (pe_callB (r := rIsK) call_isK (by rfl) (T.free "isinstance") (by decide +kernel) (pa_cons (pv 5) (pa_cons (pe_gl (T.glo "NoPlace")) pa_nil))))) (pw_or1 (pt_cmpR (r := rNe2 K) (op_ne2 hu1) (pe_callB (r := rRepr K) (call_repr z) (by rfl) (T.free "repr") (by decide +kernel) (pa_cons (pe_xk (K := K) rfl (pv 5)) pa_nil)) (pe_callB (r := rRepr K) (call_repr z) (by rfl) (T.free "repr") (by decide +kernel) (pa_cons (pv 4) pa_nil)) (nomark _))))) (pss_one (ps_ret pe_bl)) pss_nil)) (pss_cons (ps_set (i := 9) sc__law_notes_right.nd rfl (by first | exact Or.inl rfl | exact Or.inr rfl) (pe_lst pa_nil)) (pss_cons (ps_for PassesOwn.never (by rfl) (pi_enum2K (K := K) rfl (by rfl) (T.free "enumerate") (pv 0)) (pg_tupK (K := K) rfl (by rfl) (pgs_cons (pg_name (i := 10) sc__law_notes_right.nd rfl (by first | exact Or.inl rfl | exact Or.inr rfl)) (pgs_cons (pg_name (i := 2) sc__law_notes_right.nd rfl (by first | exact Or.inl rfl | exact Or.inr rfl)) pgs_nil))) (pss_one (ps_if (PW.pt (pw_and (pt_cmpR (r := rEq2 K) (op_eq2 hu1) (pe_ix (r := rGet K) (ix_get hu3) (pv 2) pe_int (fun _ _ => rfl)) pe_str (nomark _)) (pw_and1 (pt_cmpR (r := rIn2 K) (op_in2 hu2) (pv 4) (pe_ix (r := rGet K) (ix_get hu3) (pv 1) (pv 10) (fun _ _ => rfl)) rfl)))) (pss_one (ps_expr (pe_bmK (K := K) rfl PySem.F.plainAttrs_list PySem.F.slot_list_append PySem.F.type_list_append mt_append2 (pv 9) (pa_cons (pe_ix (r := rGet K) (ix_get hu3) (pv 2) pe_int (fun _ _ => rfl)) pa_nil)))) pss_nil))) (pss_one (ps_if (pt_cmpR (r := rNe2 K) (op_ne2 hu1) (pv 6) (pv 9) (nomark _)) (pss_one (ps_ret pe_bl)) pss_nil)))))))))) (pss_one (ps_ret pe_bl))))), ?_⟩
  obtain ⟨vs, h1, h2, ok, hl⟩ := id lg
  have ll : vs.length = es.length := h2.length
  walk_at "yhead"; walk_at "y"
  refine ⟨_, rfl, true, p, es, rfl, lg, fun S us H1 nS s1 eS prS => ?_⟩
  walk_at "y"
  have kst : ∀ j, j ≤ es.length → ∃ a, us[j]? = some (.ref a) ∧ H1 a = some (.lst ((stAt es j).opn.map V.int)) := fun j hj => by
    obtain ⟨u, hu, a0, rfl, n0, ha0⟩ := paired_at prS (i := j) (y := (stAt es j).opn) (by unfold statesOf; rw [List.getElem?_map, List.getElem?_range (by omega)]; rfl)
    exact ⟨a0, hu, ha0⟩
  refine lc_b true ?_
  walk_at "y"
  refine ⟨p, rfl, ⟨vs, SqB.of (s1 _ _ h1)⟩, lc_pure (walk_sb (b := true) (xs := vs)) (sz4 (by omega)) (fun i => (es[i]?).bind fun e => match e with | .op n => some n | _ => none) (firm_FR V.int) (fun H' s => SqB.same (b := true) (SqB.of (s1 _ _ h1)) s) (fun i H0 x H1 y => by obtain ⟨rfl, _⟩ := y; exact Same.refl _) (fun j v H0 HB hj s0 sB y N C hC hN => ?_) fun O H2 ws hO s2 eO pr => ?_⟩
  · obtain ⟨rfl, e5⟩ := y
    obtain ⟨t, ev, rfl, e3, e4⟩ := LogAt.get (b := true) (p := p) ((firm_TR _).all (sT (s1.trans sB)) h2) e5
    walk_at "y"
    refine ⟨rfl, ?_⟩
    walk_at "y"
    refine rGet_t (n := 0) (SqT.of e4) (Ev.head ev) ?_
    walk_at "y"
    cases ev with
    | op n =>
      dsimp only [Ev.tag]
      refine iteDT rfl ?_
      walk_at "y"
      refine rGet_t (n := 1) (SqT.of e4) rfl ?_
      exact hC _ _ n (Same.refl _) (by rw [e3]; rfl) rfl
    | _ =>
      dsimp only [Ev.tag]
      walk_at "y"
      exact hN (by rw [e3]; rfl) _ (Same.refl _)
  rw [paired_FR pr, ll, filterMap_ix] at eO
  replace eO : H2 O = some (.lst ((opsOf es).map V.int)) := eO
  walk_at "y"
  refine for_b false ?_
  walk_at "y"
  refine ⟨sz4 (by simp), fun T0 nT0 => ?_⟩
  have sH3 := same_upd (H := H2) (o := .tup [.int 0, .int 1, .int 2, .int 3, .int 4, .non, .bl true, .str "0"]) nT0
  have eT0 := upd_same (H := H2) (a := T0) (o := .tup [.int 0, .int 1, .int 2, .int 3, .int 4, .non, .bl true, .str "0"])
  generalize upd H2 T0 (.tup [.int 0, .int 1, .int 2, .int 3, .int 4, .non, .bl true, .str "0"]) = H3 at sH3 eT0 ⊢
  have s13 := s2.trans sH3
  have s03 := s1.trans s13
  refine ⟨T0, rfl, ⟨_, SqB.of (b := false) eT0⟩, for_it (walk_b (b := false) (xs := [.int 0, .int 1, .int 2, .int 3, .int 4, .non, .bl true, .str "0"])) (Pv := fun i σ H' => ∃ a b c d e f g h, σ = [some (.ref p), some (.ref S), a, some (.ref O), b, c, d, e, f, g, h] ∧ Same H3 H')
    ⟨_, _, _, _, _, _, _, _, rfl, Same.refl _⟩ (fun i σ H' _ hp => let ⟨_, _, _, _, _, _, _, _, _, s⟩ := hp; s _ _ eT0) (fun i v σ H4' H4 hi hp y => ?_) fun σ H' hp => ?_⟩
  · obtain ⟨x2, x4, x5, x6, x7, x8, x9, xA, rfl, s3⟩ := hp
    obtain ⟨rfl, e2⟩ := y
    have hv := List.mem_of_getElem? e2
    have hk : (∃ k : Int, v = .int k ∧ 0 ≤ k ∧ k ≤ 1000) ∨ v = .non ∨ (∃ c, v = .bl c) ∨ v = .str "0" := by
      simp only [List.mem_cons, List.not_mem_nil, or_false] at hv
      rcases hv with rfl | rfl | rfl | rfl | rfl | rfl | rfl | rfl
      · exact .inl ⟨_, rfl, by decide, by decide⟩
      · exact .inl ⟨_, rfl, by decide, by decide⟩
      · exact .inl ⟨_, rfl, by decide, by decide⟩
      · exact .inl ⟨_, rfl, by decide, by decide⟩
      · exact .inl ⟨_, rfl, by decide, by decide⟩
      · exact .inr (.inl rfl)
      · exact .inr (.inr (.inl ⟨_, rfl⟩))
      · exact .inr (.inr (.inr rfl))
    have hsm : smV v = true := by
      rcases hk with ⟨k, rfl, k0, k1⟩ | rfl | ⟨c, rfl⟩ | rfl
      · exact sm_int (by omega)
      · rfl
      · rfl
      · decide +kernel
    have hk2 : (∃ k : Int, v = .int k ∧ 0 ≤ k ∧ k ≤ 1000 ∧ Ev.op k ∈ es) ∨ (v = .non ∨ (∃ c, v = .bl c) ∨ v = .str "0" ∨ ∃ k : Int, v = .int k ∧ 0 ≤ k ∧ k ≤ 1000 ∧ Ev.op k ∉ es) := by
      rcases hk with ⟨k, rfl, k0, k1⟩ | h | h | h
      · by_cases c : Ev.op k ∈ es
        · exact .inl ⟨k, rfl, k0, k1, c⟩
        · exact .inr (.inr (.inr (.inr ⟨k, rfl, k0, k1, c⟩)))
      · exact .inr (.inl h)
      · exact .inr (.inr (.inl h))
      · exact .inr (.inr (.inr (.inl h)))
    have spArg : ∀ {H' : Hp}, Same H H' → spNotes K [.ref p, v] H' (fun _ _ => True) (fun _ _ _ => True) := fun {H'} s => by
      refine ⟨p, es, v, rfl, lg.same s, ?_⟩
      rcases hk2 with ⟨k, rfl, k0, k1, hin⟩ | hk
      · exact .inl ⟨k, rfl, k0, k1, hin, fun _ _ => trivial⟩
      · exact .inr ⟨hk, fun _ _ _ _ _ => trivial⟩
    have s05 := s03.trans s3
    walk_at "y"
    refine ⟨sz4 (by simp), fun G nG => ?_⟩
    have sH5 := same_upd (H := H4) (o := .tup [.non, .non, .non]) nG
    have eG := upd_same (H := H4) (a := G) (o := .tup [.non, .non, .non])
    generalize upd H4 G (.tup [.non, .non, .non]) = H5 at sH5 eG ⊢
    refine gTup_i (SqT.of eG) ?_
    walk_at "y"
    refine ⟨0, rfl, fun R nR => ?_⟩
    have sH6 := same_upd (H := H5) (o := .rng 0 0) nR
    have eR := upd_same (H := H5) (a := R) (o := .rng 0 0)
    generalize upd H5 R (.rng 0 0) = H6 at sH6 eR ⊢
    walk_at "y"
    have s06 := (s05.trans sH5).trans sH6
    refine ⟨spArg s06, fun G2 nG2 => ?_⟩
    have sH7 := same_upd (H := H6) (o := genO G2) nG2
    have eG2 := upd_same (H := H6) (a := G2) (o := genO G2)
    generalize upd H6 G2 (genO G2) = H7 at sH7 eG2 ⊢
    walk_at "y"
    refine ⟨R, G2, rfl, sH7 _ _ eR, eG2, fun Z nZ => ?_⟩
    have sH8 := same_upd (H := H7) (o := .lst []) nZ
    have eZ := upd_same (H := H7) (a := Z) (o := .lst [])
    generalize upd H7 Z (.lst []) = H8 at sH8 eZ ⊢
    walk_at "y"
    have s38 := (((s3.trans sH5).trans sH6).trans sH7).trans sH8
    have s08 := s03.trans s38
    rcases hk2 with ⟨k, rfl, k0, k1, hin⟩ | hk
    · refine ⟨p, es, _, rfl, lg.same s08, .inl ⟨k, rfl, k0, k1, hin, fun H9 s9 W nW => ?_⟩⟩
      have sHA := same_upd (o := .lst ((notesAux k false es).map V.int)) nW
      have eW := upd_same (H := H9) (a := W) (o := .lst ((notesAux k false es).map V.int))
      generalize upd H9 W (.lst ((notesAux k false es).map V.int)) = HA at sHA eW ⊢
      walk_at "y"
      refine ⟨sz4 (by simp), fun E1 nE1 => ?_⟩
      have sHB := same_upd (H := HA) (o := .lst []) nE1
      have eE1 := upd_same (H := HA) (a := E1) (o := .lst [])
      generalize upd HA E1 (.lst []) = HB at sHB eE1 ⊢
      have s8B := (s9.trans sHA).trans sHB
      refine rNe2_d (dp_lst (SqL.of (s8B _ _ eZ)) rfl) (dp_lst (SqL.of eE1) rfl) (by decide +kernel) (by decide +kernel) ?_
      rw [eqv_nn]
      refine ⟨_, rfl, ?_⟩
      walk_at "y"
      have s0B := s08.trans s8B
      have s3B := s38.trans s8B
      have s2B := sH3.trans s3B
      refine rNotIn2_f (b := true) (SqL.of (s2B _ _ eO)) rfl (flat_ints _) ?_
      rw [inV_ints, decide_eq_true (mem_ops.mpr hin)]
      walk_at "y"
      refine ⟨sz4 (by simp), fun DU nDU => ?_⟩
      have sHC := same_upd (H := HB) (o := .lst []) nDU
      have eDU := upd_same (H := HB) (a := DU) (o := .lst [])
      generalize upd HB DU (.lst []) = HC at sHC eDU ⊢
      walk_at "y"
      have s0C := s0B.trans sHC
      have s1C := (s13.trans s3B).trans sHC
      have eWC := (sHB.trans sHC) _ _ eW
      refine for_eb true ?_
      walk_at "y"
      refine ⟨p, vs, rfl, SqL.of (s0C _ _ h1), for_it (walk_eb (b := true)) (Pv := fun j σ H' => ∃ a b, σ = [some (.ref p), some (.ref S), a, some (.ref O), some (.int k), some .non, some (.ref W), some (.ref Z), x8, some (.ref DU), b] ∧ (∀ b o, HC b = some o → b ≠ DU → H' b = some o) ∧ H' DU = some (.lst ((dueOf es k j).map V.int)))
        ⟨_, _, rfl, fun _ _ e _ => e, eDU⟩ (fun i σ H' _ hp => let ⟨_, _, _, off, _⟩ := hp; off _ _ (s0C _ _ h1) (ne_of_none (s0B _ _ h1) nDU)) (fun j v σ HD HE hj hp y => ?_) fun σ H' hp => ?_⟩
      · obtain ⟨a, b, rfl, off, hD⟩ := hp
        obtain ⟨tt, v1, v2, rfl, ht, rfl, e1, e2⟩ := y
        cases e1
        have sY := same_upd (o := .tup [.int j, v2]) ht
        have off4 : ∀ b o, HC b = some o → b ≠ DU → upd HD tt (.tup [.int j, v2]) b = some o := fun b o e n => sY _ _ (off b o e n)
        have offB : ∀ b o, HB b = some o → upd HD tt (.tup [.int j, v2]) b = some o := fun b o e => off4 b o (sHC _ _ e) (ne_of_none e nDU)
        have h2' : Paired (TR Ev.xs (upd HD tt (.tup [.int j, v2]))) vs es := h2.mono fun v a h => by
          obtain ⟨g, eg, hg⟩ := h
          exact ⟨g, eg, offB _ _ (s0B _ _ hg)⟩
        obtain ⟨t, ev, rfl, e3, e4⟩ := LogAt.get (b := true) (p := p) h2' e2
        refine gTup_i (SqT.of upd_same) ?_
        have hD4 := sY _ _ hD
        generalize upd HD tt (.tup [.int j, .ref t]) = HF at *
        have ho : (dueOf es k j).length ≤ j := dueOf_len es k j
        have eD : dueOf es k (j + 1) = dueOf es k j ++ (match ev with | .no t => if k ∈ (stAt es j).opn then some t else none | _ => none).toList := by
          rw [dueOf_succ]; unfold dueAt; rw [e3]; rfl
        walk_at "y"
        refine rGet_t (n := 0) (SqT.of e4) (Ev.head ev) ?_
        walk_at "y"
        cases ev with
        | no n =>
          dsimp only [Ev.tag]
          refine iteDT rfl ?_
          walk_at "y"
          obtain ⟨a0, hu, ha0⟩ := kst j (by omega)
          refine rGet_l (n := j) (SqL.of (offB _ _ ((s13.trans s3B) _ _ eS))) hu ?_
          refine rIn2_f (b := true) (SqL.of (offB _ _ ((s13.trans s3B) _ _ ha0))) rfl (flat_ints _) ?_
          rw [inV_ints]
          by_cases c : k ∈ (stAt es j).opn
          · walk_at "y"
            refine ⟨tyL hD4, ?_⟩
            walk_at "y"
            refine rGet_t (n := 1) (SqT.of e4) rfl ?_
            walk_at "y"
            refine appU_i hD4 (sz5 (by rw [List.length_map]; omega)) fun H8 k8 u8 => ?_
            refine ⟨_, _, rfl, fun b o e n => (u8 b n).trans (off4 b o e n), ?_⟩
            rw [k8, eD]
            dsimp only
            rw [if_pos c, List.map_append]
            rfl
          · walk_at "y"
            refine ⟨_, _, rfl, off4, ?_⟩
            rw [hD4, eD]
            dsimp only
            rw [if_neg c, Option.toList_none, List.append_nil]
        | _ =>
          dsimp only [Ev.tag]
          walk_at "y"
          refine ⟨_, _, rfl, off4, ?_⟩
          rw [hD4, eD]
          simp
      · obtain ⟨a, b, rfl, off, hD⟩ := hp
        walk_at "y"
        rw [ll, due_all] at hD
        refine rNe2_d (dp_ints (off _ _ eWC (ne_of_none ((sHB) _ _ eW) nDU))) (dp_ints hD) (sm_lst (sm_ints (note_ok ok))).shaped (sm_lst (sm_ints (note_ok ok))).shaped ?_
        rw [PySem.SeqAt.eqv_refl _ (sm_lst (sm_ints (note_ok ok))).lay]
        refine ⟨_, rfl, ?_⟩
        walk_at "y"
        exact ⟨_, _, _, _, _, _, _, _, rfl, fun b o e => off _ _ (sHC _ _ (s3B _ _ e)) (ne_of_none (s3B _ _ e) nDU)⟩
    · refine ⟨p, es, v, rfl, lg.same s08, .inr ⟨hk, fun d H9 nd s9 kd => ⟨rfl, He.ga K "NoPlace", d, rfl, rfl, (xNo T).m, fun a9 na => ?_⟩⟩⟩
      have sHA := same_upd (o := exk a9 (He.ga K "NoPlace") d) na
      have k9 := upd_same (H := H9) (a := a9) (o := exk a9 (He.ga K "NoPlace") d)
      have kd9 := sHA _ _ kd
      generalize upd H9 a9 (exk a9 (He.ga K "NoPlace") d) = HA at sHA k9 kd9 ⊢
      dsimp only [List.set]
      walk_at "y"
      refine ⟨sz4 (by simp), fun E1 nE1 => ?_⟩
      have sHB := same_upd (H := HA) (o := .lst []) nE1
      have eE1 := upd_same (H := HA) (a := E1) (o := .lst [])
      generalize upd HA E1 (.lst []) = HB at sHB eE1 ⊢
      have s8B := (s9.trans sHA).trans sHB
      refine rNe2_d (dp_lst (SqL.of (s8B _ _ eZ)) rfl) (dp_lst (SqL.of eE1) rfl) (by decide +kernel) (by decide +kernel) ?_
      rw [eqv_nn]
      refine ⟨_, rfl, ?_⟩
      walk_at "y"
      have s3B := s38.trans s8B
      have s2B := sH3.trans s3B
      have k9B := sHB _ _ k9
      have kdB := sHB _ _ kd9
      have dv := dp_fl (K := K) (H := HB) (smV_pl hsm)
      have sv := (smV_sm hsm).mono (n' := 50) (b' := 100000) (by decide) (by decide)
      have lk : ([(Str.ofString "index", v)] : List (Str × V)).lookup (Str.ofString "index") = some v := by simp [List.lookup]
      rcases hk with rfl | ⟨c, rfl⟩ | rfl | ⟨k, rfl, k0, k1, hin⟩
      · walk_at "y"; 
        refine ⟨a9, _, d, rfl, k9B, ?_⟩
        walk_at "y"
        refine tXk_i ?_
        walk_at "y"
        refine ⟨a9, _, d, _, _, rfl, k9B, (xNo T).x, (exNo T).n, kdB, lk, ?_⟩
        refine ⟨_, _, rfl, dv, sv, ?_⟩
        walk_at "y"
        refine ⟨_, _, rfl, dv, sv, ?_⟩
        refine rNe2_ss ?_
        rw [decide_eq_true rfl]
        refine ⟨_, rfl, ?_⟩
        walk_at "y"
        exact ⟨_, _, _, _, _, _, _, _, rfl, s3B⟩
      · walk_at "y"; 
        refine ⟨a9, _, d, rfl, k9B, ?_⟩
        walk_at "y"
        refine tXk_i ?_
        walk_at "y"
        refine ⟨a9, _, d, _, _, rfl, k9B, (xNo T).x, (exNo T).n, kdB, lk, ?_⟩
        refine ⟨_, _, rfl, dv, sv, ?_⟩
        walk_at "y"
        refine ⟨_, _, rfl, dv, sv, ?_⟩
        refine rNe2_ss ?_
        rw [decide_eq_true rfl]
        refine ⟨_, rfl, ?_⟩
        walk_at "y"
        exact ⟨_, _, _, _, _, _, _, _, rfl, s3B⟩
      · walk_at "y"; 
        refine ⟨a9, _, d, rfl, k9B, ?_⟩
        walk_at "y"
        refine tXk_i ?_
        walk_at "y"
        refine ⟨a9, _, d, _, _, rfl, k9B, (xNo T).x, (exNo T).n, kdB, lk, ?_⟩
        refine ⟨_, _, rfl, dv, sv, ?_⟩
        walk_at "y"
        refine ⟨_, _, rfl, dv, sv, ?_⟩
        refine rNe2_ss ?_
        rw [decide_eq_true rfl]
        refine ⟨_, rfl, ?_⟩
        walk_at "y"
        exact ⟨_, _, _, _, _, _, _, _, rfl, s3B⟩
      · walk_at "y"
        refine rNotIn2_f (b := true) (SqL.of (s2B _ _ eO)) rfl (flat_ints _) ?_
        rw [inV_ints, decide_eq_false (fun z => hin (mem_ops.mp z))]
        walk_at "y"; 
        refine ⟨a9, _, d, rfl, k9B, ?_⟩
        walk_at "y"
        refine tXk_i ?_
        walk_at "y"
        refine ⟨a9, _, d, _, _, rfl, k9B, (xNo T).x, (exNo T).n, kdB, lk, ?_⟩
        refine ⟨_, _, rfl, dv, sv, ?_⟩
        walk_at "y"
        refine ⟨_, _, rfl, dv, sv, ?_⟩
        refine rNe2_ss ?_
        rw [decide_eq_true rfl]
        refine ⟨_, rfl, ?_⟩
        walk_at "y"
        exact ⟨_, _, _, _, _, _, _, _, rfl, s3B⟩
  · obtain ⟨x2, x4, x5, x6, x7, x8, x9, xA, rfl, s3⟩ := hp
    walk_at "y"
    exact q _ (s03.trans s3)
end
end L76
namespace L76
open PySem PySem.Spec PyProof.Rows L2
variable {gd : Bool}
local macro_rules | `(tactic| walk_at "y1") => `(tactic| with_reducible first
  | refine tSeq_i ?_ | refine tAsg_i ?_ | refine tCons_i ?_ | refine tNil_i ?_ | refine tC_i ?_ | refine tOp_i ?_ | refine tIfS_i ?_ | refine tTest_i ?_ | refine exBl_i ?_ | refine tRet_i ?_ | refine tCall_i ?_
  | refine tCB_i ?_ | refine tLst_i ?_ | refine tTup_i ?_ | refine rI0_i ?_ | refine tDrop_i ?_ | refine tNext_i ?_ | refine tB_i ?_ | refine tAnd_i ?_ | refine tOr_i ?_ | refine tNot_i ?_ | refine tAndV_i ?_ | refine tOrV_i ?_ | refine tNotV_i ?_
  | refine tYes_i ?_ | refine tTM_i ?_ | refine tPar_i ?_ | refine tSl_i ?_ | refine tNoPart_i ?_ | refine tPart_i ?_ | refine part_i ?_ | refine tMake_i ?_ | refine tProp_i ?_ | refine tCallOG_i ?_ | refine tVeI_i ?_ | refine tOst_i ?_ | refine tMkO_i ?_ | refine sFld_i ?_ | refine fldaug_i ?_ | refine gCons_i ?_ | refine gNil_i ?_ | refine tChain_i ?_ | refine tBM_i ?_ | refine rAdd2_i ?_ | refine rLe2_i ?_ | refine rEq2_i ?_ | refine rEq2_ss ?_ | refine rNe2_i ?_ | refine rNe2_ss ?_ | refine rIsN_i ?_ | refine rNotN_i ?_ | refine tTup_i2 ?_ | refine tIf_i ?_ | refine tUn_i ?_ | refine tDGet_i ?_ | refine sDPut_i ?_ | refine tFld_i ?_ | refine tRetN_i ?_ | refine tBreak_i ?_ | refine tCont_i ?_ | refine rU_i ?_)
local macro_rules | `(tactic| walk_at "yhead") => `(tactic| dsimp only [L2.start, List.map, List.length_cons, List.length_nil, Nat.reduceAdd, Nat.reduceSub, List.replicate, List.cons_append, List.nil_append])
local macro_rules | `(tactic| walk_at "y2") => `(tactic| first
  | walk_at "y1"
  | ((with_reducible refine tVar_i (v := ?v) ?h ?q); (case h => rfl))
  | ((with_reducible refine gName_i ?_); (dsimp only [L2.wipe, List.set]))
  | with_reducible refine iteT ?_ | with_reducible refine iteF ?_ | with_reducible refine iteNT ?_ | with_reducible refine iteNF ?_
  | ((with_reducible refine iteDT ?h ?q); (case h => first | decide +kernel | omega | assumption | exact nv1 | exact nv2 | exact nv3 | exact nv4)) | ((with_reducible refine iteDF ?h ?q); (case h => first | decide +kernel | omega | assumption | exact nv1 | exact nv2 | exact nv3 | exact nv4))
  | ((with_reducible refine iteNDT ?h ?q); (case h => first | decide +kernel | omega | assumption | exact nv1 | exact nv2 | exact nv3 | exact nv4)) | ((with_reducible refine iteNDF ?h ?q); (case h => first | decide +kernel | omega | assumption | exact nv1 | exact nv2 | exact nv3 | exact nv4))
  | ((with_reducible refine rIsi2_1 (T := ?T) (b := true) ?ty ?h ?q); (case ty => first | exact ty_str | exact ty_int | exact ty_bl | exact ty_non); (case h => decide +kernel))
  | ((with_reducible refine rIsi2_1 (T := ?T) (b := false) ?ty ?h ?q); (case ty => first | exact ty_str | exact ty_int | exact ty_bl | exact ty_non); (case h => decide +kernel))
  | ((with_reducible refine rEq2_s ?h ?q); (case h => rfl)) | ((with_reducible refine rNe2_s ?h ?q); (case h => rfl))
  | ((with_reducible refine rEq_i ?h ?q); (case h => rfl)) | ((with_reducible refine rNe_i ?h ?q); (case h => rfl)))
local macro_rules | `(tactic| walk_at "y") => `(tactic| repeat walk_at "y2")
section
variable {X : Cx}
def rTupN (K : PySem.W.Frag) : List V → Hp → VK → Prop := fun xs H Q => ∃ p ys, xs = [.ref p] ∧ ((SqL K H p ys ∧ ∀ l, H l = none → Q (.ref l) (upd H l (.tup ys))) ∨ (SqT K H p ys ∧ Q (.ref p) H))
theorem call_tupN : CallR X (.type "tuple") (rTupN X.K) := call_tuple_of
end
section
variable {P : Program} {w : World} {K : PySem.W.Frag} {mg : Str → Option Value} {base : Heap}
theorem span_sm {es : List Ev} (ok : ∀ e ∈ es, e.ok) (hl : es.length ≤ 16) : ∀ t ∈ spansOf es, (spanV t).all smV = true ∧ (spanV t).length ≤ 3 := by
  intro t ht
  refine ⟨?_, Nat.le_refl _⟩
  unfold spansOf at ht
  obtain ⟨i, hi, h⟩ := List.mem_filterMap.mp ht
  have hi := List.mem_range.mp hi
  unfold spanAt at h
  split at h
  · rename_i n hn
    cases h
    have o := ok _ (List.mem_of_getElem? hn)
    have b : ∀ j, (endsOf es n i).head? = some j → j ≤ 16 := fun j hj => by
      have := List.mem_of_mem_head? hj
      unfold endsOf at this
      obtain ⟨k, hk, e⟩ := List.mem_filterMap.mp this
      have hk := List.mem_range.mp hk
      split at e
      · cases e; omega
      · cases e
    unfold spanV
    have o1 := o.1
    have o2 := o.2
    simp only [Ev.num] at o1 o2
    simp only [List.all_cons, List.all_nil, Bool.and_true, Bool.and_eq_true]
    refine ⟨sm_int (by omega), sm_int (by omega), ?_⟩
    cases e : (endsOf es n i).head? with
    | none => rfl
    | some j => have := b j e; exact sm_int (by omega)
  · cases h
theorem never_sm {es : List Ev} (ok : ∀ e ∈ es, e.ok) (hl : es.length ≤ 16) : ((neverOf es).map V.int).all smV = true := List.all_eq_true.mpr fun v hv => by
  obtain ⟨n, hn, rfl⟩ := List.mem_map.mp hv
  obtain ⟨t, ht, h⟩ := List.mem_filterMap.mp hn
  split at h
  · cases h
    exact List.all_eq_true.mp (span_sm ok hl t ht).1 _ (List.mem_cons_self ..)
  · cases h
theorem flaws_sm {es : List Ev} (hl : es.length ≤ 16) : ((flawsOf es).map V.int).all smV = true := List.all_eq_true.mpr fun v hv => by
  obtain ⟨n, hn, rfl⟩ := List.mem_map.mp hv
  obtain ⟨i, hi, h⟩ := List.mem_filterMap.mp hn
  have hi := List.mem_range.mp hi
  cases e : es[i]? with
  | none => rw [e] at h; cases h
  | some ev =>
    rw [e, Option.bind_some] at h
    split at h
    · cases h
    · cases h; exact sm_int (by omega)
theorem cross_sm {es : List Ev} (ok : ∀ e ∈ es, e.ok) (hl : es.length ≤ 16) : ∀ t ∈ crossOf es es.length, (pairV t).all smV = true ∧ (pairV t).length ≤ 2 := by
  intro t ht
  refine ⟨?_, Nat.le_refl _⟩
  have ht := (cross_raw es es.length).mem_iff.mp ht
  unfold rawOf at ht
  obtain ⟨i, hi, h⟩ := List.mem_flatMap.mp ht
  have hi := List.mem_range.mp hi
  unfold rawAt at h
  split at h
  · split at h
    · obtain ⟨m, hm, rfl⟩ := List.mem_map.mp h
      have := opn_ok ok i m (List.mem_of_mem_drop hm)
      unfold pairV
      simp only [List.all_cons, List.all_nil, Bool.and_true, Bool.and_eq_true]
      exact ⟨sm_int (by omega), sm_int (by omega)⟩
    · cases h
  · cases h
def spLaw (K : PySem.W.Frag) : Sp := sp1 fun x H Q _ => ∃ (a : Addr) (ns : List Int), x = .ref a ∧ SqL K H a (ns.map V.int) ∧ ns.length ≤ 63 ∧ ∀ H', Q (.bl true) H'
theorem sc_law : FnScope ["_law_script", "_law_k", "_law_cell", "_law_state", "_law_turn", "_law_log_here", "_law_kept", "_law_rows", "_law_states_here", "_law_row", "_law_now"] ["_law_script"] (defScope (top 39)) := ⟨rfl, rfl, rfl, by decide +kernel, rfl, by decide +kernel, by decide +kernel⟩
theorem f_law (T : Sy K mg) {fd : FuncData} (F : FunD K "law" "law" (defArgs (top 39)) (defBody (top 39)) (defScope (top 39)) [] [] (He.fAd K (dG "law" 39).at_) fd) : FnG true P w K mg base CX0 13 (He.fAd K (dG "law" 39).at_) fd ["_law_script"] (spLaw K) := by
  refine FnG.body F sc_law sp1_len fun cdv A outer s H vs Q E z h => ?_
  suffices hh : ∃ t, PSs (cxOf CX0 P w K mg base ["_law_script", "_law_k", "_law_cell", "_law_state", "_law_turn", "_law_log_here", "_law_kept", "_law_rows", "_law_states_here", "_law_row", "_law_now"] "law" (defScope (top 39)) (He.fAd K (dG "law" 39).at_) cdv A outer s H E).nox (defBody (top 39)) t ∧ t { nx := fun _ H' => Q .non H', rt := Q } (L2.start _ vs) H by
    obtain ⟨t, h1, h2⟩ := hh
    exact ⟨t, h1.nox, h2⟩
  replace z : RG true 12 _ := z
  have hu1 := hu_1 z; have hu2 := hu_2 z; have hu3 := hu_3 z
  obtain ⟨_, rfl, a, ns, rfl, hs, hn, q⟩ := h
  refine ⟨_, (pss_cons (ps_for PassesOwn.never (by rfl) (pi_enum2K (K := K) rfl (by rfl) (T.free "enumerate") (pe_op (r := rAdd2 K) op_add2 (pe_slice (r := rSl2 K) sl_2 (pv 0) po_none (po_some pe_int)) (pe_lst (pa_cons (pe_callB (r := rSum K) (cr_sum rfl) (by rfl) (T.free "sum") (by decide +kernel) (pa_cons (pv 0) pa_nil)) pa_nil)))) (pg_tupK (K := K) rfl (by rfl) (pgs_cons (pg_name (i := 1) sc_law.nd rfl (by first | exact Or.inl rfl | exact Or.inr rfl)) (pgs_cons (pg_name (i := 2) sc_law.nd rfl (by first | exact Or.inl rfl | exact Or.inr rfl)) pgs_nil))) (pss_cons (ps_set (i := 3) sc_law.nd rfl (by first | exact Or.inl rfl | exact Or.inr rfl) (pe_c (c__law_draw T) z (pa_cons (pv 2) (pa_cons (pv 1) pa_nil)))) (pss_one (ps_for PassesOwn.never (by rfl) (pi_range1 (by rfl) (T.free "range") (pa_cons pe_int pa_nil)) (pg_name (i := 4) sc_law.nd rfl (by first | exact Or.inl rfl | exact Or.inr rfl)) (pss_cons (ps_set (i := 5) sc_law.nd rfl (by first | exact Or.inl rfl | exact Or.inr rfl) (pe_c (c__law_log T) z (pa_cons (pv 3) pa_nil))) (pss_cons (ps_par (i := 6) (j := 7) (by rfl) sc_law.nd rfl rfl (by decide) rfl rfl (pa_cons (pe_callB (r := rRepr K) (call_repr z) (by rfl) (T.free "repr") (by decide +kernel) (pa_cons (pv 5) pa_nil)) (pa_cons (pe_c (c__law_spans T) z (pa_cons (pv 5) pa_nil)) pa_nil)) (by rfl)) (pss_cons (ps_set (i := 8) sc_law.nd rfl (by first | exact Or.inl rfl | exact Or.inr rfl) (pe_c (c__law_states T) z (pa_cons (pv 5) pa_nil))) (pss_cons (ps_if (pt_cmpR (r := rNe2 K) (op_ne2 hu1) (pe_callB (r := rRepr K) (call_repr z) (by rfl) (T.free "repr") (by decide +kernel) (pa_cons (pe_c (c_spans T) z (pa_cons (pv 5) pa_nil)) pa_nil)) (pe_callB (r := rRepr K) (call_repr z) (by rfl) (T.free "repr") (by decide +kernel) (pa_cons (pv 7) pa_nil)) (nomark _)) (pss_one (ps_ret pe_bl)) pss_nil) (pss_cons (ps_if (pt_cmpR (r := rNe2 K) (op_ne2 hu1) (pe_callB (r := rRepr K) (call_repr z) (by rfl) (T.free "repr") (by decide +kernel) (pa_cons (pe_c (c_spans T) z (pa_cons (pe_callTy (r := rTupN K) call_tupN (by rfl) (T.free "tuple") (by decide +kernel) (pa_cons (pv 5) pa_nil)) pa_nil)) pa_nil)) (pe_callB (r := rRepr K) (call_repr z) (by rfl) (T.free "repr") (by decide +kernel) (pa_cons (pv 7) pa_nil)) (nomark _)) (pss_one (ps_ret pe_bl)) pss_nil) (pss_cons (ps_if (pt_cmpR (r := rNe2 K) (op_ne2 hu1) (pe_c (c_never_shut T) z (pa_cons (pv 5) pa_nil)) (pe_lc (own := [("_law_row", 9)]) (g := gName 9) (by rfl) sc_law.nd (pi_anyK (K := K) rfl (pv 7)) (blkOk_by (own := [("_law_row", 9)]) (N := ["_law_script", "_law_k", "_law_cell", "_law_state", "_law_turn", "_law_log_here", "_law_kept", "_law_rows", "_law_states_here", "_law_row", "_law_now"]) (sc := (defScope (top 39))) (by decide +kernel)) (fun _ _ _ _ _ => (pg_name (i := 9) sc_law.nd rfl (by first | exact Or.inl rfl | exact Or.inr rfl))) (fun _ _ _ _ _ => pts_one (pt_cmpR (r := rIsN) op_isN (pe_ix (r := rGet K) (ix_get hu3) (pv 9) pe_int (fun _ _ => rfl)) pe_non (nomark _))) (fun _ _ _ _ _ => (pe_ix (r := rGet K) (ix_get hu3) (pv 9) pe_int (fun _ _ => rfl)))) (nomark _)) (pss_one (ps_ret pe_bl)) pss_nil) (pss_cons (ps_if (pt_cmpR (r := rNe2 K) (op_ne2 hu1) (pe_c (c_most_open T) z (pa_cons (pv 5) pa_nil)) (pe_callB (r := rMax K) (cr_max rfl) (by rfl) (T.free "max") (by decide +kernel) (pa_cons (pe_lc (own := [("_law_now", 10)]) (g := gName 10) (by rfl) sc_law.nd (pi_anyK (K := K) rfl (pv 8)) (blkOk_by (own := [("_law_now", 10)]) (N := ["_law_script", "_law_k", "_law_cell", "_law_state", "_law_turn", "_law_log_here", "_law_kept", "_law_rows", "_law_states_here", "_law_row", "_law_now"]) (sc := (defScope (top 39))) (by decide +kernel)) (fun _ _ _ _ _ => (pg_name (i := 10) sc_law.nd rfl (by first | exact Or.inl rfl | exact Or.inr rfl))) (fun _ _ _ _ _ => pts_nil) (fun _ _ _ _ _ => (pe_callB (r := rLen2 K) call_len2 (by rfl) (T.free "len") (by decide +kernel) (pa_cons (pv 10) pa_nil)))) pa_nil)) (nomark _)) (pss_one (ps_ret pe_bl)) pss_nil) (pss_cons (ps_if (pt_cmpR (r := rNe2 K) (op_ne2 hu1) (pe_c (c_crossings T) z (pa_cons (pv 5) pa_nil)) (pe_c (c__law_crossings T) z (pa_cons (pv 5) pa_nil)) (nomark _)) (pss_one (ps_ret pe_bl)) pss_nil) (pss_cons (ps_if (PW.pt (pw_or (pt_cmpR (r := rNe2 K) (op_ne2 hu1) (pe_c (c_flaws T) z (pa_cons (pv 5) pa_nil)) (pe_c (c__law_flaws T) z (pa_cons (pv 5) pa_nil)) (nomark _)) (pw_or1 (pt_not (pt_val (pe_c (c__law_notes_right T) z (pa_cons (pv 5) pa_nil))))))) (pss_one (ps_ret pe_bl)) pss_nil) (pss_cons (ps_if (pt_not (pt_val (pe_c (c__law_watched_right T (xBad T)) z (pa_cons (pv 5) pa_nil)))) (pss_one (ps_ret pe_bl)) pss_nil) (pss_one (ps_if (pt_cmpR (r := rNe2 K) (op_ne2 hu1) (pe_callB (r := rRepr K) (call_repr z) (by rfl) (T.free "repr") (by decide +kernel) (pa_cons (pv 5) pa_nil)) (pv 6) (nomark _)) (pss_one (ps_ret pe_bl)) pss_nil)))))))))))))))) (pss_one (ps_ret pe_bl))), ?_⟩
  walk_at "yhead"; walk_at "y"
  refine for_eb true ?_
  walk_at "y"
  refine ⟨_, rfl, ?_⟩
  refine rSl2_l (N := fun _ _ => True) hs fun S1 n1 => ?_
  have s1 := same_upd (H := H) (o := .lst (cutV (ns.map V.int) none (some 4))) n1
  have e1 := upd_same (H := H) (a := S1) (o := .lst (cutV (ns.map V.int) none (some 4)))
  generalize upd H S1 (.lst (cutV (ns.map V.int) none (some 4))) = H1 at s1 e1 ⊢
  rw [show (4 : Int) = ((4 : Nat) : Int) from rfl, cut_to, ← List.map_take] at e1
  walk_at "y"
  refine ⟨a, ns, rfl, Same.seq s1 hs, ?_⟩
  walk_at "y"
  refine ⟨sz4 (by simp), fun S2 nS2 => ?_⟩
  have sH2 := same_upd (H := H1) (o := .lst [.int ns.sum]) nS2
  have eS2 := upd_same (H := H1) (a := S2) (o := .lst [.int ns.sum])
  generalize upd H1 S2 (.lst [.int ns.sum]) = H2 at sH2 eS2 ⊢
  refine rAdd2_l (sH2 _ _ e1) eS2 (sz4 (by rw [List.length_map, List.length_take]; simp; omega)) fun S3 n3 => ?_
  rw [show (ns.take 4).map V.int ++ [V.int ns.sum] = (ns.take 4 ++ [ns.sum]).map V.int by simp]
  have lms : (ns.take 4 ++ [ns.sum]).length ≤ 5 := by rw [List.length_append, List.length_take]; simp; omega
  generalize ns.take 4 ++ [ns.sum] = ms at lms ⊢
  have s3 := same_upd (H := H2) (o := .lst (ms.map V.int)) n3
  have e3 := upd_same (H := H2) (a := S3) (o := .lst (ms.map V.int))
  generalize upd H2 S3 (.lst (ms.map V.int)) = H3 at s3 e3 ⊢
  refine ⟨S3, _, rfl, SqL.of e3, for_it (walk_eb (b := true)) (Pv := fun i σ H' => ∃ x1 x2 x3 x4 x5 x6 x7 x8 x9 x10, σ = [some (.ref a), x1, x2, x3, x4, x5, x6, x7, x8, x9, x10] ∧ Same H3 H')
    ⟨_, _, _, _, _, _, _, _, _, _, rfl, Same.refl _⟩ (fun i σ H' _ hp => let ⟨_, _, _, _, _, _, _, _, _, _, _, s⟩ := hp; s _ _ e3) (fun i v σ H4 H5 hi hp y => ?_) fun σ H' hp => ?_⟩
  · obtain ⟨x1, x2, x3, x4, x5, x6, x7, x8, x9, x10, rfl, sP⟩ := hp
    obtain ⟨tt, v1, v2, rfl, ht, rfl, d1, d2⟩ := y
    cases d1
    have hi5 : i < 5 := by rw [List.length_map] at hi; omega
    obtain ⟨c, rfl⟩ : ∃ c : Int, v2 = .int c := by
      have d3 : (ms.map V.int)[i]? = some v2 := d2
      rw [List.getElem?_map] at d3
      cases h : ms[i]? with
      | none => rw [h] at d3; cases d3
      | some c => rw [h] at d3; cases d3; exact ⟨c, rfl⟩
    have sY := same_upd (o := .tup [.int i, .int c]) ht
    refine gTup_i (SqT.of upd_same) ?_
    have sA := sP.trans sY
    generalize upd H4 tt (.tup [.int i, .int c]) = HA at *
    walk_at "y"
    refine ⟨_, _, rfl, c, i, rfl, rfl, by omega, by omega, fun p L HB L0 np sB ep => ?_⟩
    walk_at "y"
    refine for_r1 ?_
    walk_at "y"
    refine ⟨2, rfl, by decide, by decide, for_it walk_range (Pv := fun j σ H' => ∃ L' t' x4 x5 x6 x7 x8 x9 x10, σ = [some (.ref a), some (.int i), some (.int c), some (.ref p), x4, x5, x6, x7, x8, x9, x10] ∧ 0 ≤ L' ∧ 1000 * (i : Int) ≤ t' ∧ t' ≤ 1000 * (i : Int) + 200 * (j : Nat) ∧ H' p = some (.dK (stK L' c t')) ∧ ∀ b o, HA b = some o → H' b = some o)
      ⟨L, _, _, _, _, _, _, _, _, rfl, L0, Int.le_refl _, by omega, ep, sB⟩ (fun _ _ _ _ _ => trivial) (fun j v σ HC HD hj hp y => ?_) fun σ H' hp => ?_⟩
    · obtain ⟨L', t', y4, y5, y6, y7, y8, y9, y10, rfl, L0', ta, tb, kp, sC⟩ := hp
      obtain ⟨rfl, rfl⟩ := y
      have hj2 : j < 2 := hj
      walk_at "y"
      refine ⟨_, rfl, p, L', c, t', rfl, kp, L0', by omega, by omega, fun D vs es L2 t2 HE off kp2 L02 tc td nD eD pr ok hl => ?_⟩
      have lg : LogAt true HE D es := ⟨vs, eD, pr, ok, hl⟩
      have sE : ∀ b o, HA b = some o → HE b = some o := fun b o e => off _ _ (sC _ _ e) (ne_of_none e np)
      have dl := dp_log (K := K) eD pr
      have sl := (sm_log ok).mono (n' := 50) (b' := 100000) (by decide) (by omega)
      walk_at "y"
      refine ⟨.ref D, _, rfl, dl, sl, ?_⟩
      walk_at "y"
      refine ⟨_, rfl, true, D, es, rfl, lg, fun R HF rs nR sF eR prR => ?_⟩
      refine ⟨_, _, rfl, ?_⟩
      walk_at "y"
      refine ⟨_, rfl, true, D, es, rfl, lg.same sF, fun S us HG nS sG eS prS => ?_⟩
      walk_at "y"
      have sEG := sF.trans sG
      refine ⟨_, rfl, true, D, es, rfl, lg.same sEG, fun R2 HI rs2 nR2 sI eR2 prR2 => ?_⟩
      have spD : ∀ {R' : Addr} {H' : Hp} {rs' : List V}, H' R' = some (.lst rs') → Paired (TR spanV H') rs' (spansOf es) → Dp K H' (.ref R') (.list ((spansOf es).map fun t => .tuple ((spanV t).map vD))) := fun e pr => .lst (SqL.of e) (dp_TRm (fun t ht => all_pl (span_sm ok hl t ht).1) pr)
      have spS := (Sm.list (sm_TR (n := 3) (f := spanV) (as := spansOf es) (span_sm ok hl))).mono (n' := 50) (b' := 100000) (by decide) (by rw [List.length_map]; have := spans_len es; omega)
      have prRG := (firm_TR _).all (sT (sG.trans sI)) prR
      refine ⟨.ref R2, _, rfl, spD eR2 prR2, spS, ?_⟩
      walk_at "y"
      refine ⟨.ref R, _, rfl, spD ((sG.trans sI) _ _ eR) prRG, spS, ?_⟩
      refine rNe2_ss ?_
      rw [decide_eq_true rfl]
      refine ⟨_, rfl, ?_⟩
      walk_at "y"
      have sEI := sEG.trans sI
      refine ⟨D, vs, rfl, .inl ⟨SqL.of (sEI _ _ eD), fun Tt nT => ?_⟩⟩
      have sJ := same_upd (H := HI) (o := .tup vs) nT
      have eT := upd_same (H := HI) (a := Tt) (o := .tup vs)
      generalize upd HI Tt (.tup vs) = HJ at sJ eT ⊢
      have sEJ := sEI.trans sJ
      have lgT : LogAt false HJ Tt es := ⟨vs, eT, (firm_TR _).all (sT sEJ) pr, ok, hl⟩
      walk_at "y"
      refine ⟨_, rfl, false, Tt, es, rfl, lgT, fun R3 HK rs3 nR3 sK eR3 prR3 => ?_⟩
      have sGK := (sG.trans sI).trans (sJ.trans sK)
      refine ⟨.ref R3, _, rfl, spD eR3 prR3, spS, ?_⟩
      walk_at "y"
      refine ⟨.ref R, _, rfl, spD (sGK _ _ eR) ((firm_TR _).all (sT sGK) prR), spS, ?_⟩
      refine rNe2_ss ?_
      rw [decide_eq_true rfl]
      refine ⟨_, rfl, ?_⟩
      walk_at "y"
      have sEK := sEJ.trans sK
      refine ⟨_, rfl, true, D, es, rfl, lg.same sEK, fun N1 HL nN1 sL eN1 => ?_⟩
      walk_at "y"
      refine lc_b true ?_
      walk_at "y"
      have sGL := sGK.trans sL
      have lu : rs.length = (spansOf es).length := prR.length
      have lu2 : rs.length ≤ 16 := by have := spans_len es; omega
      refine ⟨R, rfl, ⟨rs, SqL.of (sGL _ _ eR)⟩, lc_pure (walk_b (b := true) (xs := rs)) (sz4 (by omega)) (fun i => ((spansOf es)[i]?).bind fun t => if t.2.2 = none then some t.1 else none) (firm_FR V.int) (fun H' s => s _ _ (sGL _ _ eR)) (fun i H0 x H1 y => by obtain ⟨rfl, _⟩ := y; exact Same.refl _) (fun i x H0 H2 hi s0 s2 y N C hC hN => ?_) fun F HM ws hF sM hM pr2 => ?_⟩
      · obtain ⟨rfl, e2⟩ := y
        obtain ⟨t, e3, a, rfl, e4⟩ := paired_of ((firm_TR _).all (sT sGL) prR) e2
        obtain ⟨n, k, o⟩ := t
        walk_at "y"
        refine ⟨rfl, ?_⟩
        walk_at "y"
        cases o with
        | none =>
          refine rGet_t (n := 2) (v := .non) (SqT.of (s2 _ _ e4)) rfl ?_
          walk_at "y"
          refine rGet_t (n := 0) (v := .int n) (SqT.of (s2 _ _ e4)) rfl ?_
          exact hC _ _ n (Same.refl _) (by rw [e3]; simp) rfl
        | some j =>
          refine rGet_t (n := 2) (v := .int (j : Nat)) (SqT.of (s2 _ _ e4)) rfl ?_
          walk_at "y"
          exact hN (by rw [e3]; simp) _ (Same.refl _)
      rw [paired_FR pr2, lu, filterMap_ix] at hM
      refine rNe2_d (dp_ints (sM _ _ eN1)) (dp_ints hM) (sm_lst (never_sm ok hl)).shaped (sm_lst (never_sm ok hl)).shaped ?_
      rw [show (spansOf es).filterMap (fun t => if t.2.2 = none then some t.1 else none) = neverOf es from rfl, PySem.SeqAt.eqv_refl _ (sm_lst (never_sm ok hl)).lay]
      refine ⟨_, rfl, ?_⟩
      walk_at "y"
      have sEM := (sEK.trans sL).trans sM
      have sGM := sGL.trans sM
      refine ⟨_, rfl, true, D, es, rfl, lg.same sEM, fun HN sN => ?_⟩
      have sGN := sGM.trans sN
      walk_at "y"
      refine lc_b true ?_
      walk_at "y"
      have lus : us.length = es.length + 1 := by rw [prS.length]; unfold statesOf; simp
      have eSN := (((sI.trans (sJ.trans sK)).trans sL).trans (sM.trans sN)) _ _ eS
      have sGN' := ((sI.trans (sJ.trans sK)).trans sL).trans (sM.trans sN)
      have kst : ∀ j, j ≤ es.length → ∃ a, us[j]? = some (.ref a) ∧ HN a = some (.lst ((stAt es j).opn.map V.int)) := fun j hj => by
        obtain ⟨u, hu, a0, rfl, n0, ha0⟩ := paired_at prS (i := j) (y := (stAt es j).opn) (by unfold statesOf; rw [List.getElem?_map, List.getElem?_range (by omega)]; rfl)
        exact ⟨a0, hu, sGN' _ _ ha0⟩
      refine ⟨S, rfl, ⟨us, SqB.of (b := true) eSN⟩, lc_pure (walk_b (b := true) (xs := us)) (sz4 (by omega)) (fun j => some (((stAt es j).opn.length : Nat) : Int)) (firm_FR V.int) (fun H' s => s _ _ eSN) (fun i H0 x H1 y => by obtain ⟨rfl, _⟩ := y; exact Same.refl _) (fun j v H0 HB hj s0 sB y N C hC hN => ?_) fun F2 HO ws' hF sO hO pr3 => ?_⟩
      · obtain ⟨rfl, e5⟩ := y
        obtain ⟨aj, hj1, hj2⟩ := kst j (by omega)
        rw [hj1] at e5
        cases e5
        walk_at "y"
        refine ⟨rfl, ?_⟩
        walk_at "y"
        refine rLen2_l (n := (stAt es j).opn.length) (SqL.of (sB _ _ hj2)) ?_ (List.length_map ..)
        exact hC _ _ _ (Same.refl _) rfl rfl
      rw [paired_FR pr3, lus] at hO
      walk_at "y"
      obtain ⟨mm, j0, hj0, em⟩ := most_max es es.length (Nat.le_refl _)
      refine ⟨F2, _, rfl, SqL.of hO, ?_, fun m hm hle => ?_⟩
      · rw [show (List.range (es.length + 1)).filterMap (fun j => some (((stAt es j).opn.length : Nat) : Int)) = (List.range (es.length + 1)).map fun j => (((stAt es j).opn.length : Nat) : Int) from congrFun (List.filterMap_eq_map (f := fun j : Nat => (((stAt es j).opn.length : Nat) : Int))) _]
        simp
      have em2 : m = (stAt es es.length).most := by
        obtain ⟨j, hj, ej⟩ := List.mem_filterMap.mp hm
        cases ej
        have h5 := mm j (by have := List.mem_range.mp hj; omega)
        have h6 := hle (((stAt es j0).opn.length : Nat) : Int) (List.mem_filterMap.mpr ⟨j0, List.mem_range.mpr (by omega), rfl⟩)
        omega
      rw [em2]
      refine rNe2_i ?_
      rw [decide_eq_true rfl]
      refine ⟨_, rfl, ?_⟩
      walk_at "y"
      have sEO := (sEM.trans sN).trans sO
      refine ⟨_, rfl, true, D, es, rfl, lg.same sEO, fun C1 HP cs1 nC1 sP' eC1 prC1 => ?_⟩
      walk_at "y"
      have sEP := sEO.trans sP'
      refine ⟨_, rfl, true, D, es, rfl, lg.same sEP, fun C2 HQ cs2 nC2 sQ eC2 prC2 => ?_⟩
      have cS := (Sm.list (sm_TR (n := 2) (f := pairV) (as := crossOf es es.length) (cross_sm ok hl))).mono (n' := 50) (b' := 1000000) (by decide) (by rw [List.length_map]; have := crossOf_len es es.length hl; omega)
      have cD : ∀ {R' : Addr} {H' : Hp} {rs' : List V}, H' R' = some (.lst rs') → Paired (TR pairV H') rs' (crossOf es es.length) → Dp K H' (.ref R') (.list ((crossOf es es.length).map fun t => .tuple ((pairV t).map vD))) := fun e pr => .lst (SqL.of e) (dp_TRm (fun t ht => all_pl (cross_sm ok hl t ht).1) pr)
      refine rNe2_d (cD (sQ _ _ eC1) ((firm_TR _).all (sT sQ) prC1)) (cD eC2 prC2) cS.shaped cS.shaped ?_
      rw [PySem.SeqAt.eqv_refl _ cS.lay]
      refine ⟨_, rfl, ?_⟩
      walk_at "y"
      have sEQ := sEP.trans sQ
      refine ⟨_, rfl, true, D, es, rfl, lg.same sEQ, fun F3 HR nF3 sR eF3 => ?_⟩
      walk_at "y"
      have sER := sEQ.trans sR
      refine ⟨_, rfl, true, D, es, rfl, lg.same sER, fun F4 HS nF4 sS eF4 => ?_⟩
      refine rNe2_d (dp_ints (sS _ _ eF3)) (dp_ints eF4) (sm_lst (flaws_sm hl)).shaped (sm_lst (flaws_sm hl)).shaped ?_
      rw [PySem.SeqAt.eqv_refl _ (sm_lst (flaws_sm hl)).lay]
      refine ⟨_, rfl, ?_⟩
      walk_at "y"
      have sES := sER.trans sS
      refine ⟨_, rfl, D, es, rfl, lg.same sES, fun HT sT' => ?_⟩
      walk_at "y"
      have sET := sES.trans sT'
      refine ⟨_, rfl, D, es, rfl, lg.same sET, fun HU sU => ?_⟩
      walk_at "y"
      have sEU := sET.trans sU
      refine ⟨.ref D, _, rfl, dp_log (sEU _ _ eD) ((firm_TR _).all (sT sEU) pr), sl, ?_⟩
      walk_at "y"
      refine iteNDT rfl ?_
      walk_at "y"
      exact ⟨L2, t2, _, _, _, _, _, _, _, rfl, L02, by omega, by omega, sEU _ _ kp2, fun b o e => sEU _ _ (sE b o e)⟩
    · obtain ⟨L', t', y4, y5, y6, y7, y8, y9, y10, rfl, L0', ta, tb, kp, sC⟩ := hp
      exact ⟨_, _, _, _, _, _, _, _, _, _, rfl, fun b o e => sC _ _ (sA _ _ e)⟩
  · obtain ⟨x1, x2, x3, x4, x5, x6, x7, x8, x9, x10, rfl, sP⟩ := hp
    walk_at "y"
    exact q _
theorem law_facts {P : Program} {w : World} {K : PySem.W.Frag} {h : Heap} {mg : Str → Option Value} {f : Addr} (X : K.In h) (G : h.Ns mainGlobals mg) (hfa : mg ("law" : Str) = some (.ref f)) (c : obsX fa fn pr xb K = valX fn pr) :
    ∃ fd : FuncData, (∀ (s : Shared) (v : Value), BindsTo s fd ⟨[v], []⟩ [("_law_script", v)]) ∧ ∀ base : Heap, K.In base → base.Ns mainGlobals mg → FnG true P w K mg base CX0 13 f fd ["_law_script"] (spLaw K) := by
  obtain ⟨c1, c2, c3⟩ := saysX c
  have T : Sy K mg := ⟨c1, c2, c3, h, X, G⟩
  obtain ⟨fd, F⟩ := F_law T
  have e := hfa.symm.trans (T.glo "law")
  cases e
  have b := FunD.bindsA (ps := ["_law_script"]) F fun _ _ _ _ _ _ us hl => match us, hl with | [_], _ => rfl
  exact ⟨fd, fun s v => b s [v] rfl, fun base _ _ => f_law T F⟩
end
end L76
open PySem PySem.W PySem.Calls PyProof.Rows
theorem PySem.Challenge.cw_exitstacks_k76_spans_and_crossings_holds : PySem.Challenge.rw_exitstacks_k76_spans_and_crossings.Holds := by
  w_on; o_law
  refine HandSHeadRun.head_any (r := OpenLaw.row PySem.Challenge.rw_exitstacks_k76_spans_and_crossings) (q := view (OpenLaw.row PySem.Challenge.rw_exitstacks_k76_spans_and_crossings).prog [39]) (H := L76.hk) (ob := L76.ob) (M := 4000) (loose := L76.loose) (d := HandSHeadRun.topDef (OpenLaw.row PySem.Challenge.rw_exitstacks_k76_spans_and_crossings).prog 39) (kwd := []) L76.ob_eq
    (by kernel_rfl) (fun s => by kernel_rfl) L76.run (by kernel_rfl) (by kernel_rfl) (by kernel_rfl) (by rfl) (by first | assumption | decide +kernel) (by decide +kernel) ⟨rfl, rfl, rfl, rfl, rfl, by decide +kernel⟩ ?hw ?hc
  case hw => w_witness2
  case hc =>
    refine L76.walkG (l := PySem.Challenge.rw_exitstacks_k76_spans_and_crossings) (m := 63) (n := 13) (x := "_law_script") (CX := fun _ => L2.CX0) rfl (by decide) (by kernel_rfl) ⟨rfl, by decide, by decide⟩ ?F (fun _ _ _ _ _ z => z)
    intro w mg fa h Y G hmg0
    obtain ⟨K, KX, c⟩ := Y
    have hmg : mg ("law" : PySem.Str) = some (.ref fa) := by
      have e : (HandSHeadRun.topDef (OpenLaw.row PySem.Challenge.rw_exitstacks_k76_spans_and_crossings).prog 39).name = ("law" : PySem.Str) := by kernel_rfl
      rw [← e]
      exact hmg0
    obtain ⟨fd, hb, hF⟩ := L76.law_facts (P := (PySem.Challenge.rw_exitstacks_k76_spans_and_crossings).prog) (w := w) KX G hmg c
    exact ⟨K, fd, L76.spLaw K, KX, hb, fun H a ns hl _ _ hS => ⟨_, rfl, a, ns, rfl, hS, hl, fun _ => rfl⟩, hF⟩
