import PyProof.Rows.All
import Wide.All
import OpenK.AllK
import Wide.FinOn
import KE.KStateDown
import Lean
import HandS.ForMost
import HandS.Exc
import HandS.ExcOwn
import HandS.ExcInit
import HandS.ExcField
import HandS.Property
import HandS.IsInst
import HandS.Defaults
import HandS.WordsExc
import HandS.Head0
import HandS.Head1
import HandS.Head2
import HandS.HeadEnd
import HandS.HeadHook1
import HandS.HeadHook2
import PySem.Challenge.RW_roomtold_k75_whole_texts_bent
import HandS.TryOnly
import HandS.TryMany
import HandS.ExcCtx
import HandS.Hot
import HandS.HotCalls
import HandS.RaiseFrom
import HandS.SuiteRaise
import HandS.ExcInitHot
import KE.KAsSuite
import HandS.Walk
import KE.GoesEnum
import HandS.Evl
import HandS.Codes
import HandS.Text
import HandS.SortInts
import HandS.Style
import HandS.Star
import HandS.DictComp
import HandS.Conv
import HandS.Wide
import HandS.CallSlots
import PyProof.P3Eq
set_option Elab.async false
set_option linter.all false
set_option maxRecDepth 100000
set_option maxHeartbeats 0
/-! the head of the law: what the top leaves (printed by gen_head.py) -/
namespace K75
open PySem PySem.Spec PyProof.Rows L2 He
def top (i : Nat) : Stmt := PySem.Challenge.pw_roomtold_k75_whole_texts_bent.main.body.getD i (.Pass ⟨0, 0, 0, 0⟩)
/-- the getter of a property of a class -/
def propOf (K : PySem.W.Frag) (C : Addr) (f : Str) : Addr := match PySem.W.findIn K (.ref C) f with
  | some (some (.ref p)) => p
  | _ => 0
def getterOf (K : PySem.W.Frag) (C : Addr) (f : Str) : Addr := match PySem.W.recIn K (propOf K C f) "property" with
  | some (.ref g :: _) => g
  | _ => 0
/-! ### the defs -/
structure Df where
  ad : PySem.W.Frag → Addr
  name : Str
  qual : Str
  st : Stmt
def fnA (K : PySem.W.Frag) (a : Addr) : FnW := match K.lookup a with
  | some ⟨_, _, .func fd, _⟩ => some (fd.name, fd.qualname, fd.params, fd.body, fd.scope, fd.globals, fd.closure, fd.builtins)
  | _ => none
def Df.val (d : Df) : FnW := some (d.name, d.qual, defArgs d.st, .stmts (defBody d.st), defScope d.st, mainGlobals, [], builtinsNs)
def Df.ok (K : PySem.W.Frag) (d : Df) : Bool := PySem.W.keepIn K (.ref (d.ad K)) && (match K.lookup (d.ad K) with
  | some ⟨_, _, .func fd, _⟩ => PySem.W.codeIn K fd.code d.qual && dflB K fd.defaults []
  | _ => false)
theorem Df.fun_ {K : PySem.W.Frag} {d : Df} (e : fnA K (d.ad K) = d.val) (c : d.ok K = true) : ∃ fd, Fun K d.name d.qual d.st (d.ad K) fd := by
  obtain ⟨kp, c2⟩ := ba c
  unfold fnA at e
  cases q : K.lookup (d.ad K) with
  | none =>
    rw [q] at c2
    cases c2
  | some o =>
    obtain ⟨oc, od, dt, osl⟩ := o
    rw [q] at c2 e
    cases dt with
    | func fd =>
      obtain ⟨n1, n2, n3, n4, n5, n6, n7, n8, n9, n10, n11, n12, n13, n14, n15⟩ := fd
      have e2 : (some (n1, n2, n3, n4, n5, n6, n7, n15) : FnW) = some (d.name, d.qual, defArgs d.st, .stmts (defBody d.st), defScope d.st, mainGlobals, [], builtinsNs) := e
      simp only [Option.some.injEq, Prod.mk.injEq] at e2
      obtain ⟨h1, h2, h3, h4, h5, h6, h7, h8⟩ := e2
      have c3 : (PySem.W.codeIn K n13 d.qual && dflB K n8 []) = true := c2
      obtain ⟨k1, k2⟩ := ba c3
      have e8 : n8 = .none := by
        rcases dflB_ok k2 with ⟨_, z⟩ | ⟨z, _⟩
        · exact z
        · exact absurd rfl z
      subst h1 h2 h3 h4 h5 h6 h7 h8 e8
      exact ⟨_, ⟨⟨oc, od, n9, n10, n11, n12, n13, n14, osl, rfl, q, k1⟩, kp⟩⟩
    | _ => cases c2
/-! ### an own exception's class, a property, isinstance -/
def oexB (K : PySem.W.Frag) (C : Addr) : Bool := (match K.lookup C with
  | some ⟨.type t, _, .cls cd, sl⟩ => decide (t = "type") && (match cd.mro, sl.toList with
    | c :: bm, [_, _, _, _, some (.builtin n), _] => decide (c = .ref C) && (PySem.HandSPX.refsVE bm && (decide (n = "ValueError.__new__") && (cd.hasDict && !cd.hasDel)))
    | _, _ => false)
  | _ => false) && (decide (PySem.W.findIn K (.ref C) "__setattr__" = some (some (.builtin "object.__setattr__"))) && (decide (PySem.W.subIn K (.ref C) (.type "BaseException") = some true) &&
    (decide (PySem.W.typeIn K (.ref C) = some (.type "type")) && PySem.W.keepIn K (.ref C))))

def dfs : List Df := [
  ⟨fun K => ga K "is_count", "is_count", "is_count", top 12⟩,
  ⟨fun K => ga K "are_bounds", "are_bounds", "are_bounds", top 13⟩,
  ⟨fun K => ga K "check_steps", "check_steps", "check_steps", top 16⟩,
  ⟨fun K => ga K "are_told", "are_told", "are_told", top 19⟩,
  ⟨fun K => ga K "check_tree", "check_tree", "check_tree", top 21⟩,
  ⟨fun K => ga K "are_sizes", "are_sizes", "are_sizes", top 25⟩,
  ⟨fun K => ga K "are_weights", "are_weights", "are_weights", top 26⟩,
  ⟨fun K => ga K "check_weights", "check_weights", "check_weights", top 27⟩,
  ⟨fun K => ga K "in_order", "in_order", "in_order", top 28⟩,
  ⟨fun K => ga K "are_figures", "are_figures", "are_figures", top 33⟩,
  ⟨fun K => ga K "line_of", "line_of", "line_of", top 34⟩,
  ⟨fun K => ga K "numbers_of", "numbers_of", "numbers_of", top 35⟩,
  ⟨fun K => ga K "lines_of", "lines_of", "lines_of", top 36⟩,
  ⟨fun K => ga K "check_line", "check_line", "check_line", top 37⟩,
  ⟨fun K => ga K "steps_text", "steps_text", "steps_text", top 38⟩,
  ⟨fun K => ga K "read_steps", "read_steps", "read_steps", top 39⟩,
  ⟨fun K => ga K "tree_text", "tree_text", "tree_text", top 40⟩,
  ⟨fun K => ga K "read_tree", "read_tree", "read_tree", top 41⟩,
  ⟨fun K => ga K "weights_text", "weights_text", "weights_text", top 42⟩,
  ⟨fun K => ga K "read_weights", "read_weights", "read_weights", top 43⟩,
  ⟨fun K => ga K "_law_numbers", "_law_numbers", "_law_numbers", top 45⟩,
  ⟨fun K => ga K "_law_opened", "_law_opened", "_law_opened", top 46⟩,
  ⟨fun K => ga K "_law_draw", "_law_draw", "_law_draw", top 47⟩,
  ⟨fun K => ga K "_law_pick", "_law_pick", "_law_pick", top 48⟩,
  ⟨fun K => ga K "_law_sizes", "_law_sizes", "_law_sizes", top 49⟩,
  ⟨fun K => ga K "_law_steps", "_law_steps", "_law_steps", top 50⟩,
  ⟨fun K => ga K "_law_weights", "_law_weights", "_law_weights", top 51⟩,
  ⟨fun K => ga K "_law_tree_text", "_law_tree_text", "_law_tree_text", top 53⟩,
  ⟨fun K => ga K "_law_steps_text", "_law_steps_text", "_law_steps_text", top 54⟩,
  ⟨fun K => ga K "_law_weights_text", "_law_weights_text", "_law_weights_text", top 55⟩,
  ⟨fun K => ga K "_law_number", "_law_number", "_law_number", top 56⟩,
  ⟨fun K => ga K "_law_line", "_law_line", "_law_line", top 57⟩,
  ⟨fun K => ga K "_law_are_bounds", "_law_are_bounds", "_law_are_bounds", top 58⟩,
  ⟨fun K => ga K "_law_read_steps", "_law_read_steps", "_law_read_steps", top 59⟩,
  ⟨fun K => ga K "_law_read_tree", "_law_read_tree", "_law_read_tree", top 60⟩,
  ⟨fun K => ga K "_law_read_weights", "_law_read_weights", "_law_read_weights", top 61⟩,
  ⟨fun K => ga K "_law_written", "_law_written", "_law_written", top 62⟩,
  ⟨fun K => ga K "_law_reading", "_law_reading", "_law_reading", top 63⟩,
  ⟨fun K => ga K "_law_heard", "_law_heard", "_law_heard", top 64⟩,
  ⟨fun K => ga K "_law_bent", "_law_bent", "_law_bent", top 65⟩,
  ⟨fun K => ga K "_law_ends_right", "_law_ends_right", "_law_ends_right", top 66⟩,
  ⟨fun K => ga K "law", "law", "law", top 67⟩,
  ⟨fun K => ma K (ga K "Steps") "__init__", "__init__", "Steps.__init__", inClass (top 14) 0⟩,
  ⟨fun K => ma K (ga K "Tree") "__init__", "__init__", "Tree.__init__", inClass (top 20) 0⟩,
  ⟨fun K => ma K (ga K "BadSteps") "__init__", "__init__", "BadSteps.__init__", inClass (top 3) 0⟩,
  ⟨fun K => ma K (ga K "BadTree") "__init__", "__init__", "BadTree.__init__", inClass (top 4) 0⟩,
  ⟨fun K => ma K (ga K "BadArgument") "__init__", "__init__", "BadArgument.__init__", inClass (top 7) 0⟩,
  ⟨fun K => ma K (ga K "BadText") "__init__", "__init__", "BadText.__init__", inClass (top 8) 0⟩,
  ⟨fun K => getterOf K (ga K "Steps") "bounds", "bounds", "Steps.bounds", inClass (top 14) 1⟩,
  ⟨fun K => getterOf K (ga K "Tree") "told", "told", "Tree.told", inClass (top 20) 3⟩]
def glos : List Str := (["is_count", "are_bounds", "check_steps", "are_told", "check_tree", "are_sizes", "are_weights", "check_weights", "in_order", "are_figures", "line_of", "numbers_of", "lines_of", "check_line", "steps_text", "read_steps", "tree_text", "read_tree", "weights_text", "read_weights", "_law_numbers", "_law_opened", "_law_draw", "_law_pick", "_law_sizes", "_law_steps", "_law_weights", "_law_tree_text", "_law_steps_text", "_law_weights_text"] : List Str) ++ (["_law_number", "_law_line", "_law_are_bounds", "_law_read_steps", "_law_read_tree", "_law_read_weights", "_law_written", "_law_reading", "_law_heard", "_law_bent", "_law_ends_right", "law", "Steps", "Tree", "BadSteps", "BadTree", "BadArgument", "BadText", "RoomError", "PAGES"] : List Str)
def frees : List Str := (["isinstance", "int", "bool", "list", "tuple", "str", "dict", "len", "all", "zip", "range", "sorted", "enumerate", "max", "min", "ValueError"] : List Str)
def nums : List (Str × Int) := [("MOST_ROOM", 1000), ("MOST_BOUNDS", 8), ("MOST_SIZES", 30), ("MOST_WEIGHT", 1000), ("MOST_FIGURES", 4), ("MOST_LEVELS", 6)]
def oexs : List Str := (["RoomError", "BadSteps", "BadTree", "BadArgument", "BadText"] : List Str)
/-- an own class whose instances are made, asked by isinstance -/
def clsB (K : PySem.W.Frag) (x : Str) : Bool := (Fa.cls x).ok K && ((Fa.mkr x).ok K && (decide (PySem.W.findIn K (.ref (ga K x)) "__class__" = some (some (.builtin "object.__class__"))) &&
  decide (PySem.W.mroIn K (ga K x) (.type "object") = some true)))
def propB (K : PySem.W.Frag) (x f : Str) : Bool := decide (PySem.W.findIn K (.ref (ga K x)) f = some (some (.ref (propOf K (ga K x) f)))) && (decide (PySem.W.specialIn K (.ref (propOf K (ga K x) f)) "__get__" = some (some (.builtin "property.__get__"))) &&
  (decide (PySem.W.takesIn K (.ref (propOf K (ga K x) f)) = some true) && (match PySem.W.recIn K (propOf K (ga K x) f) "property" with
    | some (.ref _ :: _) => true
    | _ => false)))
def initB (K : PySem.W.Frag) (x : Str) : Bool := decide (PySem.W.findIn K (.ref (ga K x)) "__init__" = some (some (.ref (ma K (ga K x) "__init__")))) && decide (PySem.W.typeIn K (.ref (ma K (ga K x) "__init__")) = some (.type "function"))
/-- RoomError.__init__, read off the class, is ValueError's -/
def rmB (K : PySem.W.Frag) : Bool := PySem.W.readsIn K (ga K "RoomError") (.type "type") && (decide (PySem.W.specialIn K (.ref (ga K "RoomError")) "__getattribute__" = some (some (.builtin "type.__getattribute__"))) && (match PySem.W.findCls K (.ref (ga K "RoomError")) (.type "type") "__init__" with
  | some (.val (.builtin n)) => decide (n = "ValueError.__init__")
  | _ => false))
def exB (K : PySem.W.Frag) : Bool :=
  glos.all (fun x => (Fa.glo x).ok K) && (frees.all (fun x => (Fa.free x).ok K) && (nums.all (fun p => (Fa.int p.1 p.2).ok K) && ((Fa.str "FIGURES" "0123456789").ok K && (tupB K "PAGES" [.int 2, .int 4, .int 8, .int 16, .int 32] && (
  oexs.all (fun x => oexB K (ga K x)) && ((clsB K "Steps" && (clsB K "Tree" && (propB K "Steps" "bounds" && propB K "Tree" "told"))) && (
  decide (PySem.W.specialIn K (.builtin "object.__class__") "__get__" = some (some (.builtin "getset_descriptor.__get__"))) && (decide (PySem.W.takesIn K (.builtin "object.__class__") = some true) && (
  (["most", "rows"] : List Str).all (fun f => (Fa.noat "Steps" f).ok K) && ((["classes", "told_row", "pages", "leaves"] : List Str).all (fun f => (Fa.noat "Tree" f).ok K) && (
  (["BadSteps", "BadTree", "BadArgument", "BadText"] : List Str).all (initB K) && ((Fa.noat "BadSteps" "part").ok K && ((Fa.noat "BadTree" "part").ok K && ((Fa.noat "BadArgument" "value").ok K && ((Fa.noat "BadText" "line").ok K && (
  xfB K (ga K "BadText") && (rmB K && (
  ([("BadSteps", "RoomError", true), ("BadTree", "RoomError", true), ("BadArgument", "RoomError", true), ("BadText", "BadText", true)] : List (Str × Str × Bool)).all (fun q => (Fa.exm q.1 q.2.1 q.2.2).ok K)))))))))))))))))))
/-! ### the Hook, the run -/
abbrev AlM : Type := Bool × List FnW
def obsM (K : PySem.W.Frag) : AlM := (exB K && dfs.all fun d => d.ok K, dfs.map fun d => fnA K (d.ad K))
def valM : AlM := (true, dfs.map Df.val)
def Says (K : PySem.W.Frag) : Prop := obsM K = valM
def obsMG (n : Nat) (g : Addr → Option Obj) : AlM := obsM (frG g (asD g n ++ [PySem.cStatics]))
def hookM (n : Nat) : PySem.W.Hook where
  α := AlM
  obs := fun s => obsMG n s.heap.get?
  val := fun _ => valM
  says := fun _ h => ∃ K : PySem.W.Frag, K.In h ∧ Says K
  of := fun _ _ e => ⟨_, frG_in, e⟩
  keeps := fun _ _ _ ⟨K, hK, c⟩ k => ⟨K, PySem.W.Frag.In.keeps hK k, c⟩
theorem obsMG_eq {n : Nat} {g : Addr → Option Obj} {s : Shared} (h : ∀ a, g a = s.heap.get? a) : obsMG n g = (hookM n).obs s := by
  have e : g = s.heap.get? := funext h
  rw [e] <;> rfl
abbrev R : PySem.W.OpenRow := PySem.W.OpenLaw.row PySem.Challenge.rw_roomtold_k75_whole_texts_bent
def ob (s : PySem.W.SharedT) : AlM := obsMG 6 (HandSHeadRun.getT s)
theorem ob_eq (s : PySem.W.SharedT) : ob s = (hookM 6).obs s.abs := obsMG_eq (HandSHeadRun.getT_eq s)
def view : List Nat := [67]
def loose : List Str := (["_wall", "RoomError", "BadSteps", "BadTree", "BadNode", "BadSize", "BadArgument", "BadText", "is_count", "are_bounds", "Steps", "with_both", "check_steps", "are_told", "Tree", "check_tree", "are_sizes", "are_weights", "check_weights", "in_order", "are_figures", "line_of", "numbers_of", "lines_of", "check_line", "steps_text", "read_steps", "tree_text", "read_tree", "weights_text"] : List Str) ++ (["read_weights", "_law_numbers", "_law_opened", "_law_draw", "_law_pick", "_law_sizes", "_law_steps", "_law_weights", "_law_tree", "_law_tree_text", "_law_steps_text", "_law_weights_text", "_law_number", "_law_line", "_law_are_bounds", "_law_read_steps", "_law_read_tree", "_law_read_weights", "_law_written", "_law_reading", "_law_heard", "_law_bent", "_law_ends_right", "MOST_ROOM", "MOST_BOUNDS", "MOST_SIZES", "MOST_WEIGHT", "MOST_FIGURES", "MOST_LEVELS", "FIGURES"] : List Str) ++ (["PAGES"] : List Str)

end K75
namespace K75
open PySem PySem.W PySem.Calls PyProof.Rows
theorem run (w : World) : HandSHeadRun.RunEq R (PySem.W.view R.prog view) (hookM 6) ob 6000 loose w := by
  intro os
  kernel_rfl
end K75
/-! own rules: exceptions -/
namespace K75
open PySem PySem.Spec PyProof.Rows L2
section
variable {X : Cx}
/-- RoomError.__init__(self, ..): ValueError's own, read off the class -/
theorem pe_rminit {R : Addr} {mc : Value} {pl : Sem Bool} {e : Expr} {es : List Expr} {ta : TA} {p1 p2 pos : Pos} (hg : Gl X "RoomError") (hm : X.mg "RoomError" = some (.ref R)) (rd : PySem.W.readsIn X.K R mc = true)
    (ga : PySem.W.specialIn X.K (.ref R) "__getattribute__" = some (some (.builtin "type.__getattribute__"))) (at_ : PySem.W.findCls X.K (.ref R) mc "__init__" = some (.val (.builtin "ValueError.__init__"))) (ha : PA X (e :: es) ta)
    (hc : eval (.Call (.Attribute (.Name "RoomError" p1) "__init__" p2) (e :: es) [] pos) X.env = (do
      let ov ← eval (.Name "RoomError" p1) X.env
      standAt p2.atName
      let (f, first) ← holding [ov] (getMethod ov "__init__" pl)
      callWith pos f first (backTo pos (starEach (e :: es) X.env)) (backToKw pos (keywordEach [] X.env))) := by rfl)
    (he : starEach (e :: es) X.env = (false, eval e X.env) :: starEach es X.env := by rfl) (hpl : (backTo pos (starEach es X.env)).any (·.1) = false := by rfl) :
    PE X (.Call (.Attribute (.Name "RoomError" p1) "__init__" p2) (e :: es) [] pos) (tVeI X.K ta) := by
  refine ⟨fun pins s σ H Q I h => PySem.W.methodCall_KW (ld_glob I hg hm (PySem.W.method_cls I.kIn ga (PySem.W.cls_value I.kIn rd at_ (by decide +kernel) ?_)) (by decide)) hc⟩
  have I0 := I.tok (s.toks + 1)
  show wpAny _ _ (callWith pos (Value.builtin "ValueError.__init__") [] (backTo pos (starEach (e :: es) X.env)) []) _ _ _
  refine PyProof.Rows.callWith_method1 (thn (ha.run pos pins _ σ H _ I0 h) fun us s1 hh => ?_) he hpl
  obtain ⟨vs, H1, I1, r1, a, C, ws, ev, hl, T, ea, q⟩ := hh
  subst ev
  cases r1 with
  | @cons _ u0 _ ur ra rr =>
    obtain rfl : u0 = Value.ref a := ra
    exact oinit_ok T I1 ea (by have z := Paired.length rr; rw [sizeLine_eq]; omega) fun s' J => ⟨.non, H1, J, rfl, q⟩
/-- C(e, ..), an exception whose context is None: nothing is handled, C's own __init__ keeps sp -/
theorem pmk_oexN {CX : CXT} {x : Str} {e : Expr} {es : List Expr} {ta : TA} {p pos : Pos} {C fI : Addr} {k : Nat} {fd : FuncData} {ps : List Str} {sp : Sp} (T : OexC X.K C) (iC : PySem.W.findIn X.K (.ref C) "__init__" = some (some (.ref fI)))
    (tI : PySem.W.typeIn X.K (.ref fI) = some (.type "function")) (F1 : FnOk X.prog X.w X.K X.mg X.base CX k fI fd ps sp) (hr : Room (k + 1) X.A) (hb : Binds X.K fd ps []) (hx : Passes CX X (fun _ _ _ => False)) (hg : Gl X x) (hm : X.mg x = some (.ref C))
    (ha : PA X (e :: es) ta) (hdb : (x == ("__debug__" : Str)) = false := by decide) (he : starEach (e :: es) X.env = (false, eval e X.env) :: starEach es X.env := by rfl) (hpl : (backTo pos (starEach es X.env)).any (·.1) = false := by rfl) :
    L2N.PMk X (.Call (.Name x p) (e :: es) [] pos) (tMkO C sp [] ta) := by
  intro pins s σ H Q I h
  obtain ⟨nm, q, N, bs, bm, sn, sub, ab, col, dd, k0, k1, k2, k3, k5, hC, hbm⟩ := T.cls
  refine wpAny_Call_Name_kw (ld_glob I hg hm (PySem.W.callWith_K (h₀ := X.base) I.ok.mod.kin T.kC (thn (ha.run pos pins s σ H _ I h) fun us s1 hh => ?_) he hpl) hdb)
  obtain ⟨vs, H1, I1, r1, hz, q1⟩ := hh
  refine ⟨I1.kIn, ?_⟩
  show wpAny _ _ (call (.ref C) us) _ _ _
  obtain ⟨hp, g, dr, tk, os⟩ := s1
  obtain ⟨a, ea⟩ : ∃ a : Addr, a = hp.objs.size + 1 := ⟨_, rfl⟩
  have hsz : hp.objs.size ≤ a := by rw [ea]; exact Nat.le_succ _
  have hq := q1 a (I1.hok.fresh hsz)
  rw [List.append_nil] at hq
  have kk : ∀ b o, hp.get? b = some o → ((hp.push (PySem.W.kdv_tup us)).push (PySem.HandSPX.excO C hp.objs.size)).get? b = some o := fun b o z => Heap.get?_push_of_some _ (Heap.get?_push_of_some _ z)
  have hget : ((hp.push (PySem.W.kdv_tup us)).push (PySem.HandSPX.excO C hp.objs.size)).get? a = some (PySem.HandSPX.excO C hp.objs.size) := by
    rw [ea]
    heap_get
  have I2 : Inv X pins σ (upd H1 a (exo a C none)) ⟨(hp.push (PySem.W.kdv_tup us)).push (PySem.HandSPX.excO C hp.objs.size), g, dr, tk, os⟩ := I1.laid (t' := tk) kk hsz (exo_ok hget)
  have r2 : Vals (V.ref a :: vs) (Value.ref a :: us) := .cons rfl r1
  have hl : (Value.ref a :: us ++ []).length = ps.length := by
    have z := r2.length
    rw [F1.len _ _ _ _ hq] at z
    rw [List.append_nil, z]
  have hus : us.length ≤ sizeLine := by
    have z := Paired.length r1
    rw [sizeLine_eq]
    omega
  have b2 := hb _ (Value.ref a :: us) I2.kIn hl
  rw [List.append_nil] at b2
  have run := F1.run _ X.stack _ _ ⟨Value.ref a :: us, []⟩ (Value.ref a :: us) _ _ (fun _ _ _ => False) (hr.make C us []) (I2.env0.make C us []) b2 r2 hq
  rw [ea] at run
  refine wpAny_call (PySem.HandSPX.call_own F.excBase_ValueError (fun Y => PySem.HandSPX.refsVE_contains Y bm hbm) (I1.kIn _ _ hC) (PySem.W.looks_findIn I1.kIn iC) (fun self => PySem.W.bind_fn I1.kIn self tI) hus (codeAny_mono run fun r s' hq' => ?_))
  cases r with
  | error er =>
    rw [ea] at I2
    exact hx pins σ _ _ er s' I2 hq'
  | ok fl =>
    cases fl with
    | ret u =>
      obtain ⟨v, H2, os2, bare2, un2, hok2, rv, ev, d, fs, e1, e2, hd1, q2⟩ := hq'
      subst ev
      obtain ⟨h2, g2, d2, t2, os'⟩ := s'
      rw [ea] at hsz
      obtain ⟨t0, G, J, kG, ge, hoe, na⟩ := mk_end0 (d2 := d2) (t2 := t2) I1 hsz kk un2 hok2 os2 bare2 e1 e2 hd1
      exact ⟨rv, hp.objs.size + 1, _, _, ⟨G, g2, d2, t2, os'⟩, _, .ref C, some d, rfl, J, kG, ge, hoe, ⟨rfl, rfl, fun vs hv => by cases hv; rfl⟩, rfl, rfl, na, rfl, bare2, raises_own T.exC T.tyC, q2⟩
    | next => exact False.elim hq'
    | brk => exact False.elim hq'
    | cont => exact False.elim hq'
/-- C(e, ..) where what __init__ may let out is wished for at the slots -/
def tMakeS (C : Addr) (sp : Sp) (E : L2.St → XK) (t : TA) : TE := fun σ H Q => t σ H fun vs H1 => ∀ x dx, H1 x = none → H1 dx = none → dx ≠ x →
  sp (.ref x :: vs) (upd (upd H1 dx (.own x)) x (.ins C dx [])) (fun v H2 => v = .non ∧ Q (.ref x) H2) (E σ)
theorem pe_makeS {CX : CXT} {k : Nat} {f C : Addr} {fd : FuncData} {ps : List Str} {sp : Sp} {E : L2.St → XK} {x : Str} {p pos : Pos} {e : Expr} {es : List Expr} {t : TA} (M : Mk X.K C f) (F : FnOk X.prog X.w X.K X.mg X.base CX k f fd ps sp) (hr : Room (k + 1) X.A) (hg : Gl X x)
    (hm : X.mg x = some (.ref C)) (hb : Binds X.K fd ps []) (hx : ∀ σ, PassesAt CX X σ (E σ)) (ha : PA X (e :: es) t) (hdb : (x == ("__debug__" : Str)) = false := by decide) (he : starEach (e :: es) X.env = (false, eval e X.env) :: starEach es X.env := by rfl)
    (hpl : (backTo pos (starEach es X.env)).any (·.1) = false := by rfl) : PE X (.Call (.Name x p) (e :: es) [] pos) (tMakeS C sp E t) := by
  refine ⟨fun pins s σ H Q I h => wpAny_Call_Name_kw (ld_glob I hg hm (PySem.W.callWith_K (h₀ := X.base) I.ok.mod.kin M.kp (thn (ha.run pos pins s σ H _ I h) fun us s1 hh => ?_) he hpl) hdb)⟩
  obtain ⟨vs, H1, I1, r1, q⟩ := hh
  refine ⟨I1.kIn, ?_⟩
  have hq := q (s1.heap.objs.size + 1) s1.heap.objs.size (I1.hok.fresh (Nat.le_succ _)) (I1.hok.fresh (Nat.le_refl _)) (Nat.ne_of_lt (Nat.lt_succ_self _))
  have I2 := Inv.made (C := C) I1
  have r2 : Vals (V.ref (s1.heap.objs.size + 1) :: vs) (Value.ref (s1.heap.objs.size + 1) :: us) := .cons rfl r1
  have hl : (Value.ref (s1.heap.objs.size + 1) :: us ++ []).length = ps.length := by
    have z := r2.length
    rw [F.len _ _ _ _ hq] at z
    rw [List.append_nil, z]
  have b2 := hb _ (Value.ref (s1.heap.objs.size + 1) :: us) I2.kIn hl
  rw [List.append_nil] at b2
  show wpAny _ _ (call (.ref C) us) _ _ _
  refine wpAny_call (make_map (f := f) I1.kIn M.makes M.init (beq_iff_eq.mp M.fn) (codeAny_mono (F.run _ X.stack _ _ ⟨Value.ref (s1.heap.objs.size + 1) :: us, []⟩ (Value.ref (s1.heap.objs.size + 1) :: us) _ _ (E σ) (hr.make C us []) (I2.env0.make C us []) b2 r2 hq) fun r s' hq' => ?_))
  cases r with
  | error er => exact hx σ pins _ _ er s' I2 hq'
  | ok fl =>
    cases fl with
    | ret u =>
      obtain ⟨v, H', I3, rv, ev, q3⟩ := I2.after hq'
      subst ev
      exact ⟨rv, V.ref (s1.heap.objs.size + 1), H', I3, rfl, q3⟩
    | next => exact False.elim hq'
    | brk => exact False.elim hq'
    | cont => exact False.elim hq'
end
end K75
/-! own rules: raise .. from the handled exception; try .. except X as n, whose suite raises -/
namespace K75
open PySem PySem.Spec PyProof.Rows L2 HotX
/-- the heap behind «from e1»: field 3 is e1, field 4 is True -/
def causeFrom (h : Heap) (a : Addr) (c : Value) : Heap := (h.update a (Obj.mapFields (·.setIfInBounds 3 c))).update a (Obj.mapFields (·.setIfInBounds 4 (.bool true)))
theorem causeFrom_at {h : Heap} {a : Addr} {c : Value} {oe : Obj} {vs : Array Value} (ha : h.get? a = some oe) (hd : oe.data = .fields vs) :
    (causeFrom h a c).get? a = some ((oe.mapFields (·.setIfInBounds 3 c)).mapFields (·.setIfInBounds 4 (.bool true))) ∧ ((oe.mapFields (·.setIfInBounds 3 c)).mapFields (·.setIfInBounds 4 (.bool true))).data = .fields ((vs.setIfInBounds 3 c).setIfInBounds 4 (.bool true)) := by
  have d3 := Obj.data_mapFields hd (·.setIfInBounds 3 c)
  have a3 := Heap.get?_update_self (Obj.mapFields (·.setIfInBounds 3 c)) ha (Obj.isFreed_of_fields d3)
  have d4 := Obj.data_mapFields d3 (·.setIfInBounds 4 (.bool true))
  exact ⟨Heap.get?_update_self _ a3 (Obj.isFreed_of_fields d4), d4⟩
theorem causeFrom_other {h : Heap} {a b : Addr} {c : Value} (hne : a ≠ b) : (causeFrom h a c).get? b = h.get? b := by
  unfold causeFrom
  rw [Heap.get?_update_other _ _ hne, Heap.get?_update_other _ _ hne]
theorem raise_made_hotF {prog : Program} {w : World} {A : Around} {E : Value → Shared → Prop} {env : Env} {s : Shared} {x c : Sem Value} {Q : Flow → Shared → Prop} {x1 : Addr}
    (h : wpAny (model prog w) A x (fun v s₁ => ∃ a oe vs cls o1 w1 c1, v = .ref a ∧ s₁.heap.get? a = some oe ∧ oe.cls = cls ∧ oe.data = .fields vs ∧ vs[1]? = some .none ∧ 4 < vs.size ∧ x1 ≠ a ∧ HotAt A x1 s₁.heap ∧
      (∀ Q' : Value → Shared → Prop, Q' (.ref x1) s₁ → wpAny (model prog w) A c Q' E s₁) ∧ s₁.heap.get? x1 = some o1 ∧ o1.data = .fields w1 ∧ o1.cls = c1 ∧ PySem.W.Looks (model prog w) s₁.heap (isSubtype c1 (.type "BaseException")) true ∧
      PySem.W.Looks (model prog w) s₁.heap (isSubtype cls (.type "BaseException")) true ∧ PySem.W.Looks (model prog w) (causeFrom s₁.heap a (.ref x1)) (typeOf cls) (.type "type") ∧
      E (.ref a) { s₁ with heap := (causeFrom s₁.heap a (.ref x1)).update a (Obj.mapFields (·.setIfInBounds 2 (.ref x1))) }) E s) :
    wpAny (model prog w) A (raiseStmt env (some x) (some c)) Q E s := by
  unfold raiseStmt
  dsimp only
  refine wpAny_bind (wpAny_mono h (fun v s₁ h₁ => ?_) fun _ _ x => x)
  obtain ⟨a, oe, vs, cls, o1, w1, c1, rfl, ha, hcls, hd, h1, hi, hne, hot, hcs, hx1, hw1, hc1, L0, L1, L3, hE⟩ := h₁
  have LT : PySem.W.Looks (model prog w) s₁.heap (typeOf (.ref a)) cls := fun A Q E s k q => wpAny_typeOf_ref (k _ _ ha) (by rw [hcls]; exact q)
  have LI : PySem.W.Looks (model prog w) s₁.heap (isInstance (.ref a) (.type "BaseException")) true := LT.andThen L1
  have LT1 : PySem.W.Looks (model prog w) s₁.heap (typeOf (.ref x1)) c1 := fun A Q E s k q => wpAny_typeOf_ref (k _ _ hx1) (by rw [hc1]; exact q)
  have LI1 : PySem.W.Looks (model prog w) s₁.heap (isInstance (.ref x1) (.type "BaseException")) true := LT1.andThen L0
  have notType : ∀ {b : Addr} {ob : Obj} {ws : Array Value} {t : Shared} {Q' : Bool → Shared → Prop}, t.heap.get? b = some ob → ob.data = .fields ws → Q' false t → wpAny (model prog w) A (isType (.ref b)) Q' E t := by
    intro b ob ws t Q' hb hbd hq
    simp only [isType, loadHead]
    refine wpAny_bind (wpAny_loadPart hb ?_)
    rw [hbd]
    exact wpAny_pure hq
  have hd3 := Obj.data_mapFields hd (·.setIfInBounds 3 (.ref x1))
  have ha3 := Heap.get?_update_self (Obj.mapFields (·.setIfInBounds 3 (.ref x1))) ha (Obj.isFreed_of_fields hd3)
  obtain ⟨ha4, hd4⟩ := causeFrom_at (c := .ref x1) ha hd
  have s3 : 3 < vs.size := by omega
  have s4 : 4 < (vs.setIfInBounds 3 (Value.ref x1)).size := by rw [set_size]; exact hi
  have s2 : 2 < ((vs.setIfInBounds 3 (Value.ref x1)).setIfInBounds 4 (Value.bool true)).size := by rw [set_size, set_size]; omega
  have h14 : ((vs.setIfInBounds 3 (Value.ref x1)).setIfInBounds 4 (Value.bool true))[1]? = some Value.none := set_other (by decide) (set_other (by decide) h1)
  have hcls4 : ((oe.mapFields (·.setIfInBounds 3 (.ref x1))).mapFields (·.setIfInBounds 4 (.bool true))).cls = cls := by rw [Obj.cls_mapFields, Obj.cls_mapFields]; exact hcls
  have LT4 : PySem.W.Looks (model prog w) (causeFrom s₁.heap a (.ref x1)) (typeOf (.ref a)) cls := fun A Q E s k q => wpAny_typeOf_ref (k _ _ ha4) (by rw [hcls4]; exact q)
  have hot4 : HotAt A x1 (causeFrom s₁.heap a (.ref x1)) := by
    obtain ⟨q1, o, vs', q2, q3, q4⟩ := hot
    exact ⟨q1, o, vs', by rw [causeFrom_other (Ne.symm hne)]; exact q2, q3, q4⟩
  have rest : wpAny (model prog w) A (do
      let b ← isType (.ref a)
      if b = true then do
        let e ← holding [.ref a] (raisedFor (.ref a) (.ref a))
        setFlight e none
        raiseNew e
      else do
        let e ← raisedInstance (.ref a)
        setFlight e none
        raiseNew e : Sem Flow) Q E { s₁ with heap := causeFrom s₁.heap a (.ref x1) } := by
    refine wpAny_bind (notType (t := { s₁ with heap := causeFrom s₁.heap a (.ref x1) }) ha4 hd4 ?_)
    simp only [Bool.false_eq_true, if_false]
    unfold raisedInstance
    refine wpAny_bind (wpAny_bind (LT4.here (wpAny_bind (L3.here ?_))))
    rw [if_pos (beq_self_eq_true _)]
    refine wpAny_pure ?_
    unfold setFlight
    refine wpAny_bind (wpAny_bind (wpAny_field ha4 hd4 h14 ?_))
    rw [if_neg (by decide)]
    refine wpAny_pure ?_
    exact raiseNew_hot hot4 hne ha4 hd4 s2 hE
  refine wpAny_bind (wpAny_holding (hcs _ (wpAny_bind (wpAny_pure ?_))))
  dsimp only
  refine wpAny_bind (wpAny_holding ?_)
  unfold excFromValue isExcClass
  refine wpAny_bind (wpAny_bind (notType ha hd ?_))
  simp only [Bool.false_eq_true, if_false]
  refine wpAny_pure ?_
  simp only [Bool.false_eq_true, if_false]
  refine wpAny_bind (LI.here ?_)
  simp only [if_true]
  refine wpAny_pure ?_
  rw [if_neg (show ¬ ((Value.ref x1 == Value.none) = true) from by simp)]
  refine wpAny_bind (wpAny_holding (wpAny_bind (wpAny_bind (notType hx1 hw1 ?_))))
  simp only [Bool.false_eq_true, if_false]
  refine wpAny_pure ?_
  simp only [Bool.false_eq_true, if_false]
  refine wpAny_bind (LI1.here ?_)
  simp only [if_true]
  refine wpAny_pure ?_
  refine wpAny_bind (wpAny_setField ha hd s3 (wpAny_bind (wpAny_setField ha3 hd3 s4 ?_)))
  exact rest
open L2H
/-- raise C(..) from n, in the suite of «except X as n»: n's slot is i, the handled exception stands at p.1 -/
theorem ps_raiseHF {X : Cx} {W : WX} {e : Expr} {t : L2.St → Hp → XK → Prop} {i : Nat} {n : Str} {p : Addr × Obj} {c1 : Value} {np pos : Pos} (hot : Hot1 X.A p) (hp : p ∈ X.pn) (hc1 : p.2.cls = c1) (tk : L2.Takes X W) (he : PMk5 X e t)
    (hN : X.N[i]? = some n) (hln : X.env.kindOf n = some .local) (hk : X.env.scope.kind = .function := by rfl) (hnd : (n == ("__debug__" : Str)) = false := by decide) :
    PS X (.Raise (some e) (some (.Name n np)) pos) (fun _ σ H => PySem.W.subIn X.K c1 (.type "BaseException") = some true ∧ σ[i]? = some (some (.ref p.1)) ∧ t σ H fun cls d H' => W cls d σ H') := by
  refine ⟨fun pins s σ H D I h => ?_⟩
  obtain ⟨hsub, hsl, h⟩ := h
  obtain ⟨hh, v1, e1, z1⟩ := hot
  show wpAny _ _ (do standAt pos; raiseStmt X.env (some (do let v ← eval e X.env; standAt pos; pure v)) (some (do let v ← eval (.Name n np) X.env; standAt pos; pure v))) _ _ _
  refine wpAny_bind (wpAny_standAt (raise_made_hotF (x1 := p.1) (wpAny_bind (wpAny_mono (he pins s σ H _ I h) (fun u s1 hu => wpAny_bind (wpAny_standAt (wpAny_pure ?_))) fun _ _ x => x))))
  obtain ⟨⟨a, oe, vs, sI, H', cls, d, rfl, J, k, hne, ha, hz, hd, h1, na, os, ag, r, q⟩, h5⟩ := hu
  have hi : 4 < vs.size := h5 a oe vs rfl ha hd
  have P1 := (J.pin p (List.mem_append_left _ hp)).1
  have nap : p.1 ≠ a := fun z => by
    rw [z, hne] at P1
    cases P1
  have nab : ∀ {b : Addr} {u : Obj}, sI.heap.get? b = some u → a ≠ b := fun {b u} z y => by
    rw [← y, hne] at z
    cases z
  have k4 : ∀ b u, sI.heap.get? b = some u → (causeFrom s1.heap a (.ref p.1)).get? b = some u := fun b u z => by
    rw [causeFrom_other (nab z)]
    exact k b u z
  obtain ⟨r1, _⟩ := r (model X.prog X.w) s1.heap (J.kIn.keeps k)
  obtain ⟨_, r2⟩ := r (model X.prog X.w) (causeFrom s1.heap a (.ref p.1)) (J.kIn.keeps k4)
  obtain ⟨ha4, hd4⟩ := causeFrom_at (c := .ref p.1) ha hd
  have h12 : (((vs.setIfInBounds 3 (Value.ref p.1)).setIfInBounds 4 (Value.bool true)).setIfInBounds 2 (Value.ref p.1))[1]? = some Value.none := set_other (by decide) (set_other (by decide) (set_other (by decide) h1))
  have hread : ∀ Q' : Value → Shared → Prop, Q' (.ref p.1) s1 → wpAny (model X.prog X.w) X.A (do let v ← eval (.Name n np) X.env; standAt pos; pure v) Q' X.xe s1 := fun Q' q' => by
    obtain ⟨m, hn, hlk⟩ := J.loc
    obtain ⟨u, ru, lk⟩ := hlk i n (.ref p.1) hN hsl (.inl hln)
    obtain rfl : u = Value.ref p.1 := ru
    have hn1 : s1.heap.Ns X.env.locals m := by
      obtain ⟨o, es, ep, ho, rr⟩ := hn
      exact ⟨o, es, ep, k _ _ ho, rr⟩
    have hm : m n = some (.ref p.1) := by
      rcases lk with ⟨_, z⟩ | ⟨z, _⟩
      · exact z
      · rw [hln] at z
        rcases z with z | z <;> cases z
    exact wpAny_bind (wpAny_Name (wpAny_loadName_local hk hln hn1 hm (wpAny_bind (wpAny_standAt (wpAny_pure q')))) hnd)
  refine ⟨a, oe, vs, cls, p.2, v1, c1, rfl, ha, hz.1, hd, h1, hi, nap, ⟨hh, p.2, v1, k _ _ P1, e1, z1⟩, hread, k _ _ P1, e1, hc1, PySem.W.looks_subIn (J.kIn.keeps k) hsub, r1, r2, tk _ _ (XE.new J (fun b u z => ?_) hne (Heap.get?_update_self _ ha4 (Obj.isFreed_of_fields (Obj.data_mapFields hd4 _)))
    ⟨by rw [Obj.cls_mapFields, Obj.cls_mapFields, Obj.cls_mapFields]; exact hz.1, by rw [HandSPX.dict_mapFields, HandSPX.dict_mapFields, HandSPX.dict_mapFields]; exact hz.2.1⟩ (Obj.data_mapFields hd4 _) h12 na os ag q)⟩
  show ((causeFrom s1.heap a (.ref p.1)).update a (Obj.mapFields (·.setIfInBounds 2 (.ref p.1)))).get? b = some u
  rw [Heap.get?_update_other _ _ (nab z)]
  exact k4 b u z
end K75
/-! own rule: try .. except X as n, whose suite raises -/
namespace K75
open PySem PySem.Spec PyProof.Rows L2 HotX L2H
section
variable {X : Cx} {pins : List (Addr × Obj)} {σ : L2.St} {H : Hp} {sI s : Shared} {B : Heap}
/-- the frame's name n is gone (h6 differs from the landed state s at the frame alone): the ground and the frames of h6 are a state of ours -/
theorem inv_gone {i : Nat} {n : Str} {v : Option Value} {m : Str → Option Value} {h6 : Heap} (I : Inv X pins σ H sI) (J : Inv X pins σ H s) (nb : ∀ b o, sI.heap.get? b = some o → b ∉ frs X.stack → B.get? b = some o) (st : B.StaysIn h6)
    (hL : X.env.locals ∈ frs X.stack) (hN : X.N.Nodup) (hi : X.N[i]? = some n) (hlk : ∀ (j : Nat) (y : Str) (z : V), X.N[j]? = some y → σ[j]? = some (some z) → Vis X.env.scope y → ∃ u, RelV z u ∧ Look X.env s.heap m y u)
    (hn6 : h6.Ns X.env.locals (fun y => if y = n then v else m y)) (hs6 : Heap.SameBut X.env.locals s.heap h6) :
    ∃ G : Heap, Inv X pins (σ.set i none) H { s with heap := G, toks := s.toks + 1 } ∧ (∀ b o, G.get? b = some o → h6.get? b = some o) ∧ (∀ b o, G.get? b = some o → b ∉ frs X.stack → B.get? b = some o) := by
  obtain ⟨G, g1, g2⟩ := restrict h6 fun b => (B.get? b).isSome || decide (b ∈ frs X.stack)
  have gB : ∀ b o, B.get? b = some o → G.get? b = some o := fun b o e => by
    rw [g1 b (by simp [e])]
    exact st b o e
  have gF : ∀ b, b ∈ frs X.stack → G.get? b = h6.get? b := fun b hb => g1 b (by simp [hb])
  have og : ∀ b o, G.get? b = some o → h6.get? b = some o ∧ ((B.get? b).isSome = true ∨ b ∈ frs X.stack) := fun b o e => by
    cases q : ((B.get? b).isSome || decide (b ∈ frs X.stack)) with
    | false =>
      rw [g2 b q] at e
      cases e
    | true =>
      rw [g1 b q] at e
      exact ⟨e, by simpa [Bool.or_eq_true] using q⟩
  -- what stands in sI and in s stands in G
  have gS : ∀ b o u, sI.heap.get? b = some u → b ≠ X.env.locals → s.heap.get? b = some o → G.get? b = some o := fun b o u e hb z => by
    have z6 : h6.get? b = some o := (hs6.2 b hb).trans z
    by_cases hm : b ∈ frs X.stack
    · rw [gF b hm]
      exact z6
    · rw [g1 b (by simp [nb b u e hm])]
      exact z6
  have fsF : ∀ b, b ∈ X.fs → b ∈ frs X.stack := fun b hb => by
    rcases I.ok.stk with e | ⟨e, _⟩
    · rw [e]
      exact hb
    · rw [e]
      obtain ⟨z, hz, q⟩ := List.mem_filterMap.mp hb
      exact List.mem_filterMap.mpr ⟨z, List.mem_cons_of_mem _ hz, q⟩
  have low : ∀ b o, X.s_0.heap.get? b = some o → b ≠ X.env.locals := fun b o e => Nat.ne_of_lt (Nat.lt_of_lt_of_le (Heap.lt_size e) I.ok.above)
  refine ⟨G, ⟨I.ok, J.os, J.bare, ⟨fun b o e n' hb hx => ?_, fun b o e n' hb hx => ?_, J.base.free, fun b o e hx => ?_, J.base.tups, J.base.frzs, J.base.tbls⟩, ⟨fun y => if y = n then v else m y, ?_, fun j y z e1 e2 e3 => ?_⟩, fun y c e => ?_, J.free, J.freeC, fun p hp => ?_, (I.inGround nb).kept gB, by simpa using J.len⟩,
    fun b o e => (og b o e).1, fun b o e hb => ?_⟩
  · exact gS b o o (I.base.keep b o e n' hb hx) (low b o e) (J.base.keep b o e n' hb hx)
  · obtain ⟨sl, q⟩ := J.base.slot b o e n' hb hx
    obtain ⟨sl', q'⟩ := I.base.slot b o e n' hb hx
    exact ⟨sl, gS b _ _ q' (low b o e) q⟩
  · obtain ⟨o', q⟩ := J.base.there b o e hx
    obtain ⟨o2, q2⟩ := I.base.there b o e hx
    exact ⟨o', gS b _ _ q2 (low b o e) q⟩
  · obtain ⟨o, es, ep, ho, r⟩ := hn6
    exact ⟨o, es, ep, (gF _ hL).trans ho, r⟩
  · by_cases hj : j = i
    · subst hj
      by_cases hlt : j < σ.length
      · rw [List.getElem?_set_self hlt] at e2
        cases e2
      · rw [List.getElem?_eq_none (by simpa using hlt)] at e2
        cases e2
    · rw [List.getElem?_set_ne (Ne.symm hj)] at e2
      obtain ⟨u', r', q⟩ := hlk j y z e1 e2 e3
      refine ⟨u', r', ?_⟩
      rcases q with ⟨kk, e⟩ | ⟨kk, c, e, w⟩
      · exact .inl ⟨kk, (if_neg (fun q : y = n => hj (nodup_ix hN e1 (by rw [q]; exact hi)))).trans e⟩
      · obtain ⟨oc, hoc, hdc⟩ := w
        obtain ⟨_, o2, ho2, _⟩ := I.cell y c e
        exact .inr ⟨kk, c, e, oc, gS c oc o2 ho2 (I.cne y c e) hoc, hdc⟩
  · obtain ⟨w, oc, hoc, hdc⟩ := J.cell y c e
    obtain ⟨_, o2, ho2, _⟩ := I.cell y c e
    exact ⟨w, oc, gS c oc o2 ho2 (I.cne y c e) hoc, hdc⟩
  · obtain ⟨e, r⟩ := J.pin p hp
    obtain ⟨e2, r2⟩ := I.pin p hp
    exact ⟨gS p.1 _ _ e2 r.2.1 e, r⟩
  · obtain ⟨e', h⟩ := og b o e
    rcases h with h | h
    · obtain ⟨o', q⟩ := Option.isSome_iff_exists.mp h
      have z := st b o' q
      rw [e'] at z
      cases z
      exact q
    · exact absurd h hb
end
/-- noted by the frame that catches or raises -/
theorem sky_note {M : Model} {A : Around} {E : Value → Shared → Prop} {s : Shared} {env : Env} {outer : List Env} {L a : Addr} {B : Heap} {Z : Obj → Prop} {Q : Unit → Shared → Prop} (hZ : HandSPX.Steady Z) (hfr : A.frames = some (env :: outer)) (hf : env.frame = some L)
    (x : Sky B (env :: outer) a Z L s.heap) (hQ : ∀ h', HandSPX.HeldZ B (env :: outer) a Z L h' → s.heap.UpToSlots h' → Q () { s with heap := h' }) : wpAny M A (noteFrame (.ref a) env) Q E s := by
  rcases x with ⟨hB, hn, hl, oe, vs, he, hz, hd, h1⟩ | fl | hh
  · exact HandSPX.look_newZ hZ hfr hl hf he hB hn hd h1 hz hQ
  · exact HandSPX.looks_onZ hZ hfr hf fl hQ
  · exact HandSPX.againZ hf hh.2.2.2 (hQ s.heap hh (Heap.UpToSlots.refl _))
theorem held_same {B h h' : Heap} {l : List Env} {a L L' : Addr} {Z : Obj → Prop} {m m' : Str → Option Value} (x : HandSPX.HeldZ B l a Z L' h) (hB : B.get? L = none) (hn : h.Ns L m) (hn' : h'.Ns L m') (hs : Heap.SameBut L h h') : HandSPX.HeldZ B l a Z L' h' := by
  obtain ⟨k1, k2, k3, oe, vs, T, oT, ts, he, hz, hd, h1, hnT, hTe, hT, hdT, h3⟩ := x
  obtain ⟨oL, es, ep, hoL, hdL, _⟩ := hn
  have noRec : ∀ {b : Addr} {o : Obj} {ws : Array Value}, h.get? b = some o → o.data = .fields ws → b ≠ L := fun {b o ws} e dd z => by
    rw [z, hoL] at e
    cases e
    rw [hdL] at dd
    cases dd
  exact ⟨fun b o e => (hs.2 b fun z => by rw [z, hB] at e; cases e).trans (k1 b o e), k2, Heap.FunFrames.sameBut hs hn' k3, oe, vs, T, oT, ts, (hs.2 a (noRec he hd)).trans he, hz, hd, h1, hnT, hTe, (hs.2 T (noRec hT hdT)).trans hT, hdT, h3⟩
/-- the context of a named except suite that raises -/
abbrev suiteY (X : Cx) (a : Addr) (pn : List (Addr × Obj)) (xs : Value → Shared → Prop) : Cx := { X with A := X.A.mark (some (.ref a)), calm := false, pn := pn, xe := xs }
section
variable {X : Cx} {x n : Str} {c : Value} {i : Nat} {body suite : List Stmt} {b₀ : Stmt} {np pos pos' : Pos} {tb : WX → TS} {ts : Addr → Value → Option Addr → TS} {Wout : WX}
/-- try: body / except x as n: suite, where the suite may raise out of the try. Behind the suite the slot of n is none -/
theorem ps_try_asX (hs : X.stack = X.env :: X.outer) (hf : X.env.frame = some X.env.locals) (hN : X.N.Nodup) (hi : X.N[i]? = some n) (hln : X.env.kindOf n = some .local) (hc : Names X x c)
    (hpa : ∀ hd : Option Value, PassesOwnAt (model X.prog X.w) (X.A.mark hd) X.A X.env X.xe) (tk : L2.Takes X Wout)
    (hb : ∀ (W : WX) (pn : List (Addr × Obj)) (xe : Value → Shared → Prop), L2N.Takes (X.tr pn xe) W → PassesOwn (model X.prog X.w) X.A X.env xe → PSs (X.tr pn xe) body (tb W))
    (hsu : ∀ (a : Addr) (oe : Obj) (cls : Value) (d : Option Addr) (pn : List (Addr × Obj)) (xs : Value → Shared → Prop), L2N.Zn cls d oe → (∃ vs, oe.data = .fields vs) → L2.Takes (suiteY X a ((a, oe) :: pn) xs) (fun cls' d' σ H => Wout cls' d' (σ.set i none) H) →
      Hot1 (X.A.mark (some (.ref a))) (a, oe) → PSs (suiteY X a ((a, oe) :: pn) xs) (b₀ :: suite) (ts a cls d)) :
    PS X (.Try body [.ExceptHandler (some (.Name x np)) (some n) (b₀ :: suite) pos'] [] [] pos) (fun D σ H => tb (wAs X.K c i ts Wout D) D σ H) := by
  refine ⟨fun pins s σ H D I h => ?_⟩
  have ok := I.ok
  have hfr : X.A.frames = some (X.env :: X.outer) := by rw [ok.frames, hs]
  have hloc : Loc X.env.scope n := .inl hln
  have hLs : X.env.locals ∈ frs X.stack := by
    rw [hs]
    exact List.mem_filterMap.mpr ⟨X.env, List.mem_cons_self, hf⟩
  refine wpAny_Try_except ?_
  refine wpAny_mono ((hb (wAs X.K c i ts Wout D) (X.pn ++ pins) _ (fun u s' xx => ?_) PassesOwn.looking).run [] s σ H D (I.toTry _) h) (fun f s1 hsp => ?_) (fun e s1 he => he)
  · obtain ⟨a, B, sI, pins', σ', H', cls, d, rfl, J', nb, up, sky, na, os, ag, b, hb1, hyes, hno⟩ := xx
    have J : Inv X pins σ' H' sI := J'.ofTry ok
    have sky' : Sky B (X.env :: X.outer) a (L2N.Zn cls d) X.env.locals s'.heap := by rw [← hs]; exact sky
    show wpAny (model X.prog X.w) X.A (noteFrame (.ref a) X.env) _ _ _
    refine L2N.Sky.land L2N.Zn.steady hfr hf sky' fun h3 fl3 up3 => ?_
    have J3 : Inv X pins σ' H' { s' with heap := h3 } := J.landed nb fl3.1 (up.trans up3) os ag
    obtain ⟨oe3, vs3, he3, hz3, hd3⟩ := fl3.there
    have nfr : a ∉ frs (X.env :: X.outer) := fun hm => by
      obtain ⟨_, o', e', hnf⟩ := fl3.2.2.1.mem hm
      rw [he3] at e'
      cases e'
      exact hnf _ hd3
    have nL : a ≠ X.env.locals := fun z => nfr (List.mem_filterMap.mpr ⟨X.env, List.mem_cons_self, by rw [hf, z]⟩)
    have nF : a ∉ X.fs := fun hm => by
      obtain ⟨e, he, q⟩ := List.mem_filterMap.mp hm
      exact nfr (List.mem_filterMap.mpr ⟨e, List.mem_cons_of_mem _ he, q⟩)
    have S3 := J3.suite he3 hd3 na nL nF
    refine wpAny_handleBy_cons (codeAny_handlers_test ?_) (by intro q; cases q)
    have LT : PySem.W.Looks (model X.prog X.w) h3 (typeOf (.ref a)) cls := fun A Q E s k q => wpAny_typeOf_ref (k _ _ he3) (by rw [hz3.1]; exact q)
    have LM := PySem.W.exm_one (M := model X.prog X.w) (J3.kIn) LT hb1
    have test : ∀ {Q : Value → Shared → Prop} {E : Value → Shared → Prop}, Q c { s' with heap := h3 } → wpAny (model X.prog X.w) (X.A.mark (some (.ref a))) (eval (.Name x np) X.env) Q E { s' with heap := h3 } := fun {Q E} q => by
      obtain ⟨hg, hdbg, hm | ⟨hm, hv, hnn⟩⟩ := hc
      · exact ld_glob (X := X.suite a ((a, oe3) :: (X.pn ++ pins))) S3 hg hm q hdbg
      · exact ld_blt (X := X.suite a ((a, oe3) :: (X.pn ++ pins))) S3 hg hm hv q hnn hdbg
    refine test (LM.here ?_)
    cases b with
    | true =>
      refine codeAny_handlers_suite_as ?_
      refine HandSPX.lands_againZ fl3 fun h4 fl4 up4 => ?_
      have J4 : Inv X pins σ' H' { s' with heap := h4 } := J.landed nb fl4.1 ((up.trans up3).trans up4) os ag
      obtain ⟨oe4, vs4, he4, hz4, hd4⟩ := fl4.there
      have S4 := J4.suite he4 hd4 na nL nF
      refine store_ok (X := X.suite a ((a, oe4) :: (X.pn ++ pins))) (v := .ref a) S4 hN hi hloc rfl (fun s5 S5 => ?_) (.inr hln)
      obtain ⟨xs, hxs⟩ : ∃ xs : Value → Shared → Prop, xs = fun u t => AsSuiteRaised (model X.prog X.w) (X.A.mark (some (.ref a))) X.env n pos' (notedBy (model X.prog X.w) (X.A.mark (some (.ref a))) X.env (cameBackBy (model X.prog X.w) X.A X.env X.xe)) u t := ⟨_, rfl⟩
      have hot : Hot1 (X.A.mark (some (.ref a))) (a, oe4) := ⟨rfl, vs4, hd4, hz4.2.2 vs4 hd4⟩
      have tkS : L2.Takes (suiteY X a ((a, oe4) :: (X.pn ++ pins)) xs) (fun cls' d' σ H => Wout cls' d' (σ.set i none) H) := fun u2 s2 x2 => by
        obtain ⟨a2, B2, sI2, pn2, σ2, H2, cls2, d2, rfl, I2, nb2, up2, sky2, na2, os2, ag2, w2⟩ := x2
        have sky2' : Sky B2 (X.env :: X.outer) a2 (Zc cls2 d2) X.env.locals s2.heap := by rw [← hs]; exact sky2
        rw [hxs]
        refine sky_note Zc.steady (A := X.A.mark (some (.ref a))) hfr hf sky2' fun h5 hh5 up5 => ?_
        have J5 := I2.landed (s' := { s2 with heap := h5 }) nb2 hh5.1 (up2.trans up5) os2 ag2
        obtain ⟨m, hn5, hlk⟩ := id J5.loc
        have hcls : (X.env.scope.kind == .class || (X.env.scope.kind == .module && X.env.locals != X.env.globals)) = false := by rw [ok.kind]; rfl
        have hB2 : B2.get? X.env.locals = none := (hh5.2.2.1.mem (by rw [← hs]; exact hLs)).1
        refine wpAny_nameGoes_keeps hln hn5 hcls fun h6 v hn6 hs6 => ?_
        have hh6 : HandSPX.HeldZ B2 (X.env :: X.outer) a2 (Zc cls2 d2) X.env.locals h6 := held_same hh5 hB2 hn5 hn6 hs6
        obtain ⟨G, JG, k6, kB⟩ := inv_gone (s := { s2 with heap := h5 }) I2 J5 nb2 hh6.1 hLs hN hi hlk hn6 hs6
        obtain ⟨b1, b2, b3, oe, vs, T, oT, ts', he, hz, hd, h1, hr⟩ := id hh6
        unfold PySem.passOn
        refine wpAny_bind (wpAny_field he hd h1 ?_)
        rw [if_neg (show ¬ ((Value.ref T == Value.none) = true) from by simp)]
        have fin : wpAny (model X.prog X.w) (X.A.mark (some (.ref a))) (setFlight (.ref a2) X.env.frame) (fun _ s4 => wpAny (model X.prog X.w) (X.A.mark (some (.ref a))) (throw (.ref a2) : Sem Flow) (fun _ _ => False)
            (notedBy (model X.prog X.w) (X.A.mark (some (.ref a))) X.env (cameBackBy (model X.prog X.w) X.A X.env X.xe)) s4) (notedBy (model X.prog X.w) (X.A.mark (some (.ref a))) X.env (cameBackBy (model X.prog X.w) X.A X.env X.xe)) { s2 with heap := h6, toks := s2.toks + 1 } := by
          rw [hf]
          refine HandSPX.setFlight_onZ hh6 fun h7 hh7 up7 => wpAny_throw (hpa _ _ _ (tk _ _ ?_))
          refine ⟨a2, B2, { s2 with heap := G, toks := s2.toks + 1 }, pins, σ2.set i none, H2, cls2, d2, rfl, ?_, kB, (Heap.UpToSlots.of_keeps k6).trans up7, .inr (.inr (by rw [hs]; exact hh7)), na2, rfl, ag2, w2⟩
          have JG' : Inv (suiteY X a ((a, oe4) :: (X.pn ++ pins)) xs) pn2 (σ2.set i none) H2 { s2 with heap := G, toks := s2.toks + 1 } := JG
          exact Inv.unsuite (X := X) (a := a) (q := (a, oe4)) (pn' := pn2) (show Inv (X.suite a ((a, oe4) :: (X.pn ++ pins))) pn2 (σ2.set i none) H2 { s2 with heap := G, toks := s2.toks + 1 } from JG'.wish fun _ _ => False) ok
        first
          | exact wpAny_bind (wpAny_pure (wpAny_bind fin))
          | exact wpAny_bind fin
      have S5' : Inv (suiteY X a ((a, oe4) :: (X.pn ++ pins)) xs) [] (σ'.set i (some (.ref a))) H' s5 := Inv.unwish (X := suiteY X a ((a, oe4) :: (X.pn ++ pins)) xs) (E := fun _ _ => False) S5
      refine wpAny_mono ((hsu a oe4 cls d (X.pn ++ pins) xs hz4 ⟨_, hd4⟩ tkS hot).run [] s5 _ H' _ S5' (hyes rfl a na)) (fun f s6 hsp => ?_) (fun u t z => by rw [hxs] at z; exact z)
      have end_ : ∀ {σ6 : L2.St} {H6 : Hp} {Q : Shared → Prop}, Inv (suiteY X a ((a, oe4) :: (X.pn ++ pins)) xs) [] σ6 H6 s6 → (∀ s7, Inv X pins (σ6.set i none) H6 s7 → Q s7) →
          wpAny (model X.prog X.w) X.A (do bindName X.env n .none; unbindBehindTheSuite X.env n pos') (fun _ s7 => Q s7) X.xe s6 := fun {σ6 H6 Q} S6 hq =>
        gone_ok (Inv.unsuite (X := X) (a := a) (q := (a, oe4)) (pn' := []) (show Inv (X.suite a ((a, oe4) :: (X.pn ++ pins))) [] σ6 H6 s6 from S6.wish fun _ _ => False) ok) hN hi hln hq
      cases f with
      | next =>
        obtain ⟨σ6, H6, S6, q6⟩ := hsp
        exact end_ S6 fun s7 J7 => ⟨_, _, J7, q6⟩
      | brk =>
        obtain ⟨σ6, H6, S6, q6⟩ := hsp
        exact end_ S6 fun s7 J7 => ⟨_, _, J7, q6⟩
      | cont =>
        obtain ⟨σ6, H6, S6, q6⟩ := hsp
        exact end_ S6 fun s7 J7 => ⟨_, _, J7, q6⟩
      | ret u =>
        obtain ⟨v6, σ6, H6, S6, r6, q6⟩ := hsp
        exact end_ S6 fun s7 J7 => ⟨_, _, _, J7, r6, q6⟩
    | false =>
      show wpAny _ X.A (handleBy (.ref a) X.env []) _ _ _
      refine wpAny_handleBy_nil ?_
      obtain ⟨k1, k2, k3, oe, vs, T, oT, ts', he, hz, hd, h1, hr⟩ := id fl3
      unfold PySem.passOn
      refine wpAny_bind (wpAny_field he hd h1 ?_)
      rw [if_neg (show ¬ ((Value.ref T == Value.none) = true) from by simp)]
      have fin : wpAny (model X.prog X.w) X.A (setFlight (.ref a) X.env.frame) (fun _ s4 => wpAny (model X.prog X.w) X.A (throw (.ref a) : Sem Flow) (SP X pins D) X.xe s4) X.xe { s' with heap := h3 } := by
        rw [hf]
        refine HandSPX.setFlight_upZ fl3 fun h4 hh4 up4 => wpAny_throw (tk _ _ ?_)
        refine ⟨a, B, sI, pins, σ', H', cls, d, rfl, J, nb, (up.trans up3).trans up4, .inr (.inr ?_), na, os, ag, hno rfl⟩
        rw [hs]
        obtain ⟨w1, w2, w3, w4⟩ := hh4
        exact ⟨w1, w2, w3, tracedZ_imp (fun o z => z.zc) w4⟩
      first
        | exact wpAny_bind (wpAny_pure (wpAny_bind fin))
        | exact wpAny_bind fin
  · cases f with
    | next =>
      obtain ⟨σ', H', J', q⟩ := hsp
      exact wpAny_execs_nil ⟨σ', H', J'.ofTry ok, q⟩
    | brk =>
      obtain ⟨σ', H', J', q⟩ := hsp
      exact ⟨σ', H', J'.ofTry ok, q⟩
    | cont =>
      obtain ⟨σ', H', J', q⟩ := hsp
      exact ⟨σ', H', J'.ofTry ok, q⟩
    | ret u =>
      obtain ⟨v, σ', H', J', r, q⟩ := hsp
      exact ⟨v, σ', H', J'.ofTry ok, r, q⟩
end
end K75
/-! own rule: enumerate(list, k) -/
namespace K75
open PySem PySem.Spec PyProof.Rows L2
/-- the list at a as it stands at each turn, each item in a new pair with k more than its place -/
def IteF (K : PySem.W.Frag) (a : Addr) (k : Int) : It :=
  ⟨fun i H => ∃ (xs : List V) (x : V), SqL K H a xs ∧ xs[i]? = some x, fun i H v H' => ∃ T x, v = .ref T ∧ H T = none ∧ H' = upd H T (.tup [.int (k + (i : Nat)), x]) ∧ ∀ xs, SqL K H a xs → xs[i]? = some x, fun i H => ∃ xs : List V, SqL K H a xs ∧ xs.length ≤ i⟩
theorem turn_enumF {P : Program} {w : World} {K : PySem.W.Frag} {elts : List Expr} {kk : Nat} {tpos : Pos} (k : Int) (a e it : Addr) :
    Turn P w K (.Tuple elts kk tpos) (IteF K a k) [e, it] e (fun i h => (∃ old, IsEnum h e it (k + ((i : Nat) : Int)) old) ∧ h.IsListIter it a i ∧ e ≠ it) where
  mem := by simp
  obj := fun i h st b hb => by
    obtain ⟨⟨old, he⟩, ⟨o, ho, hc, hd⟩, _⟩ := st
    rcases (show b = e ∨ b = it by simpa using hb) with z | z
    · rw [z]
      exact ⟨_, he, fun v q => nomatch q⟩
    · rw [z]
      exact ⟨o, ho, fun v q => by rw [hd] at q; cases q⟩
  keep := fun i h h' st kp => by
    obtain ⟨⟨old, he⟩, hi, hne⟩ := st
    exact ⟨⟨old, kp e (by simp) _ he⟩, hi.at fun o q => kp it (by simp) o q, hne⟩
  item := by
    intro X hP hw hK hc i pins s σ H E I hf st hg
    subst hP hw hK
    obtain ⟨⟨old, he⟩, hit, hne⟩ := st
    obtain ⟨xs, x, hq, hx⟩ := hg
    obtain ⟨its, rv, p, hz⟩ := I.list hq
    obtain ⟨u, hu, ru⟩ := rv.get hx
    have hel : e < s.heap.objs.size := Heap.lt_size he
    have hil : it < s.heap.objs.size := by
      obtain ⟨_, q, _⟩ := hit
      exact Heap.lt_size q
    have nai : a ≠ it := fun z => by
      obtain ⟨o1, q1, c1, _⟩ := p.isList
      obtain ⟨o2, q2, c2, _⟩ := hit
      rw [z, q2] at q1
      cases q1
      rw [c1] at c2
      exact absurd c2 (by decide +kernel)
    have nea : e ≠ a := fun z => by
      obtain ⟨o1, q1, c1, _⟩ := p.isList
      rw [← z, he] at q1
      cases q1
      exact absurd (show Value.type "enumerate" = Value.type "list" from c1) (by decide +kernel)
    have hlt : i < its.toArray.size := by
      have z := (List.getElem?_eq_some_iff.mp hu).1
      simpa using z
    refine wpAny_pyNext_enum_itemC (Draws.list (A := X.A.in1) (I.ok.hd hc) it a nai its.toArray) he ⟨hit, p.isList⟩ hlt hne (by simp [hne, nea]) fun v h' tk hv ho st' hT hsz hk => ?_
    have ev : v = u := by
      have z : its[i]? = some v := by simpa using hv
      rw [hu] at z
      exact (Option.some.inj z).symm
    subst ev
    refine ⟨_, rfl, wpAny_letOwnedTupleGo_enum (s := { s with heap := h', toks := tk + 1 }) ho fun h'' he' sb => ?_⟩
    have hT2 : h''.get? s.heap.objs.size = some { cls := .type "tuple", data := .seq #[.int (k + (i : Int)) tk, v] } := (sb.2 _ (Nat.ne_of_gt hel)).trans hT
    have new : ObjOk X.prog X.w (upd H s.heap.objs.size (.tup [.int (k + (i : Nat)), x])) h'' s.heap.objs.size (.tup [.int (k + (i : Nat)), x]) :=
      ⟨by show 2 ≤ sizeLine; decide, [.int (k + (i : Int)) tk, v], .cons ⟨_, rfl⟩ (.cons ru .nil), ⟨_, hT2, rfl, _, rfl⟩⟩
    have I1 : Inv X pins σ (upd H s.heap.objs.size (.tup [.int (k + (i : Nat)), x])) { s with heap := h'', toks := tk + 1 } :=
      I.turnedNew (ch := [e, it]) (fun b ob hb q => (sb.2 b (fun z => hb (by simp [z]))).trans (hk b ob (fun z => hb (by simp [z])) (fun z => hb (by simp [z])) q)) hf (Nat.le_refl _) new
    refine ⟨.ref s.heap.objs.size, _, I1, rfl, ⟨_, x, rfl, I.hok.fresh (Nat.le_refl _), rfl, fun ys hy => by rw [I.list_inj hy hq]; exact hx⟩, ⟨⟨v, ?_⟩, st'.1.at fun o q => (sb.2 it (Ne.symm hne)).trans q, hne⟩, fun b hb => ?_⟩
    · have e1 : k + ((i + 1 : Nat) : Int) = k + (i : Int) + 1 := by omega
      rw [e1]
      exact he'
    · have hb' : b < s.heap.objs.size := by
        rcases (show b = e ∨ b = it by simpa using hb) with z | z
        · rw [z]
          exact hel
        · rw [z]
          exact hil
      rw [upd_ne (Nat.ne_of_lt hb')]
      exact (hf b hb).1
  done := by
    intro X hP hw hK hc i pins s σ H E I hf st hg
    subst hP hw hK
    obtain ⟨⟨old, he⟩, hit, hne⟩ := st
    obtain ⟨xs, hq, hx⟩ := hg
    obtain ⟨its, rv, p, hz⟩ := I.list hq
    obtain ⟨f0, f1, f2, f3, f4, f5⟩ := hf it (by simp)
    have hl := rv.length
    have hno : its.toArray[i]? = none := by simp; omega
    have D0 : Draws X.prog X.w X.A.in1 it [it, a] 0 (fun _ _ => False) (fun _ h => h.IsListIter it a i ∧ h.IsList a its.toArray) :=
      ⟨fun _ _ st => let ⟨o, ho, _⟩ := st.1; ⟨o, ho⟩, fun _ _ _ st hk => ⟨st.1.at fun o e => hk it (by simp) o e, st.2.at fun o e => hk a (by simp) o e⟩, fun _ _ _ _ hi => absurd hi (Nat.not_lt_zero _),
        fun s Q E st hE => wpAny_nextOf_list_end (I.ok.hd hc) st.1 st.2 hno hE⟩
    exact wpAny_pyNext_enum_endD D0 he ⟨hit, p.isList⟩ fun h' eb => ⟨rfl, I.turned (t' := s.toks) (fun b o hb q => eb b o hb q) f0 f1 f3 f4 f5⟩
  self := fun A i s Q E st h => let ⟨⟨_, he⟩, _⟩ := st; wpAny_pyIter_enum he h
def iEnumF (K : PySem.W.Frag) (ta : TA) : TI := fun σ H R => ta σ H fun vs H1 => ∃ (a : Addr) (xs : List V) (k : Int), vs = [.ref a, .int k] ∧ SqL K H1 a xs ∧ 0 ≤ k ∧ k < 1000 ∧ R (IteF K a k) H1
theorem pi_enumF {X : Cx} {e e2 : Expr} {ta : TA} {p pos tpos : Pos} {elts : List Expr} {kk : Nat} (hg : Gl X "enumerate") (hm : X.mg "enumerate" = none) (ha : PA X [e, e2] ta) (hs : starEach (e :: [e2]) X.env = (false, eval e X.env) :: starEach [e2] X.env := by rfl)
    (hpl : (backTo pos (starEach [e2] X.env)).any (·.1) = false := by rfl) : PI X (.Tuple elts kk tpos) (.Call (.Name "enumerate" p) [e, e2] [] pos) (iEnumF X.K ta) := by
  refine ⟨fun pins s σ H R I h => ?_⟩
  refine Call_ (ld_blt I hg hm boot_enumerate (PyProof.Rows.callWith_type1 (thn (ha.run pos pins s σ H _ I h) fun us s1 hh => ?_) hs hpl))
  obtain ⟨vs, H1, I1, r1, a, xs, k, ev, hq, k0, k1, q⟩ := hh
  subst ev
  obtain ⟨u1, u2, rfl, ra, ⟨t2, rfl⟩⟩ := Vals.two r1
  obtain rfl : u1 = Value.ref a := ra
  obtain ⟨its, rv, p', hz⟩ := I1.list hq
  refine enum_begins (begins_list a its.toArray) p'.isList (by omega) (by omega) fun h' he hit hsz hk => wpAny_pyIter_enum he ?_
  have I2 : Inv X pins σ H1 { s1 with heap := h' } := I1.kept (t' := s1.toks) hk
  have he' : IsEnum h' (s1.heap.objs.size + 1) s1.heap.objs.size (k + ((0 : Nat) : Int)) .none := by
    rw [show k + ((0 : Nat) : Int) = k by omega]
    exact he
  refine ⟨s1.heap.objs.size + 1, [s1.heap.objs.size + 1, s1.heap.objs.size], _, _, H1, rfl, I2, turn_enumF k a (s1.heap.objs.size + 1) s1.heap.objs.size, ⟨⟨.none, he'⟩, ⟨_, hit, rfl, rfl⟩, Nat.succ_ne_self _⟩, fun b hb => ?_, q⟩
  have hle : s1.heap.objs.size ≤ b := by
    rcases (show b = s1.heap.objs.size + 1 ∨ b = s1.heap.objs.size by simpa using hb) with z | z
    · rw [z]
      exact Nat.le_add_right _ _
    · rw [z]
      exact Nat.le_refl _
  exact I1.fpOk hle (I1.hok.fresh hle)
theorem walk_enumF {K : PySem.W.Frag} {a : Addr} {xs : List V} {k : Int} : Walk (IteF K a k) xs.length (fun H => SqL K H a xs) (YPair (fun i => some (.int (k + (i : Nat)))) (fun i => xs[i]?)) := by
  refine ⟨fun i _ hi q => ⟨xs, xs[i], q, by simp [hi]⟩, fun _ q => ⟨xs, q, Nat.le_refl _⟩, fun i H v H' _ q y => ?_⟩
  obtain ⟨T, x, h1, h2, h3, h4⟩ := y
  exact ⟨T, _, x, h1, h2, h3, rfl, h4 xs q⟩
end K75
/-! own words: what a piece of the text does, said once, by what it reaches (no reading beside the derivation) -/
namespace K75
open PySem PySem.Spec PyProof.Rows L2 Evl
/-! ### the weakest readings -/
def wE (X : Cx) (e : Expr) : TE := fun σ H Q => ∀ pins s, Inv X pins σ H s → wpAny (model X.prog X.w) X.A (eval e X.env) (EP X pins σ Q) X.xe s
def wT (X : Cx) (e : Expr) : TT := fun σ H Q => ∀ pins s, Inv X pins σ H s → wpAny (model X.prog X.w) X.A (isTrue e X.env (eval e X.env)) (TP X pins σ Q) X.xe s
def wA (X : Cx) (es : List Expr) : TA := fun σ H Q => ∀ pos pins s, Inv X pins σ H s → wpAny (model X.prog X.w) X.A (spliced (backTo pos (starEach es X.env))) (AP X pins σ Q) X.xe s
def wSs (X : Cx) (sts : List Stmt) : TS := fun D σ H => ∀ pins s, Inv X pins σ H s → wpAny (model X.prog X.w) X.A (execs sts X.env) (SP X pins D) X.xe s
section
variable {X : Cx} {e : Expr} {es : List Expr} {sts rest : List Stmt} {st : Stmt} {σ : L2.St} {H H' : Hp} {v x y z : V} {vs xs ys : List V} {D : Ends} {t : TE} {tt : TT} {ta : TA} {ts : TS}
theorem pe_w : PE X e (wE X e) := ⟨fun pins s _ _ _ I h => h pins s I⟩
theorem pt_w : PT X e (wT X e) := ⟨fun pins s _ _ _ I h => h pins s I⟩
theorem pa_w : PA X es (wA X es) := ⟨fun pos pins s _ _ _ I h => h pos pins s I⟩
theorem ps_w : PSs X sts (wSs X sts) := ⟨fun pins s _ _ _ I h => h pins s I⟩
theorem we_of (h : PE X e t) {Q : VK} (r : t σ H Q) : wE X e σ H Q := fun pins s I => h.run pins s σ H Q I r
theorem wt_of (h : PT X e tt) {Q : Bool → Hp → Prop} (r : tt σ H Q) : wT X e σ H Q := fun pins s I => h.run pins s σ H Q I r
theorem wa_of (h : PA X es ta) {Q : List V → Hp → Prop} (r : ta σ H Q) : wA X es σ H Q := fun pos pins s I => h.run pos pins s σ H Q I r
theorem ws_of (h : PSs X sts ts) (r : ts D σ H) : wSs X sts D σ H := fun pins s I => h.run pins s σ H D I r
theorem ws_cons (h : PS X st ts) (r : ts { D with nx := wSs X rest D } σ H) : wSs X (st :: rest) D σ H := ws_of (pss_cons h ps_w) r
theorem ws_one (h : PS X st ts) (r : ts D σ H) : wSs X [st] D σ H := ws_of (pss_one h) r
theorem ws_nil (r : D.nx σ H) : wSs X [] D σ H := ws_of pss_nil r
/-! ### values -/
abbrev VX (X : Cx) (e : Expr) (σ : L2.St) (H : Hp) (v : V) : Prop := Ev (wE X e) σ H v
abbrev VL (X : Cx) (e : Expr) (σ : L2.St) (H : Hp) (xs : List V) : Prop := EvL (wE X e) σ H xs
abbrev VT (X : Cx) (e : Expr) (σ : L2.St) (H : Hp) (b : Bool) : Prop := EvT (wT X e) σ H b
abbrev VA (X : Cx) (es : List Expr) (σ : L2.St) (H : Hp) (vs : List V) : Prop := EvA (wA X es) σ H vs
/-- some value: told by what stood before (H1) and what stands behind (H2) -/
def EvR (te : TE) (σ : L2.St) (H : Hp) (R : V → Hp → Hp → Prop) : Prop := ∀ H1, Ex H H1 → ∀ Q : VK, (∀ v H2, Ex H1 H2 → R v H1 H2 → Q v H2) → te σ H1 Q
abbrev VR (X : Cx) (e : Expr) (σ : L2.St) (H : Hp) (R : V → Hp → Hp → Prop) : Prop := EvR (wE X e) σ H R
theorem v_of (h : PE X e t) (r : Ev t σ H v) : VX X e σ H v := fun H1 a Q q => we_of h (r H1 a Q q)
theorem vl_of (h : PE X e t) (r : EvL t σ H xs) : VL X e σ H xs := fun H1 a Q q => we_of h (r H1 a Q q)
theorem vr_of {R : V → Hp → Hp → Prop} (h : PE X e t) (r : EvR t σ H R) : VR X e σ H R := fun H1 a Q q => we_of h (r H1 a Q q)
theorem vt_of {b : Bool} (h : PT X e tt) (r : EvT tt σ H b) : VT X e σ H b := fun H1 a Q q => wt_of h (r H1 a Q q)
theorem va_of (h : PA X es ta) (r : EvA ta σ H vs) : VA X es σ H vs := fun H1 a Q q => wa_of h (r H1 a Q q)
/-- the list kind as the general kind -/
def isNewL (xs : List V) : V → Hp → Hp → Prop := fun v H1 H2 => ∃ p, v = .ref p ∧ H1 p = none ∧ H2 p = some (.lst xs)
theorem VL.rel (h : VL X e σ H xs) : VR X e σ H (isNewL xs) := fun H1 a Q q => h H1 a Q fun p H2 hp e2 h2 => q _ H2 e2 ⟨p, rfl, hp, h2⟩
theorem VR.lst (h : VR X e σ H (isNewL xs)) : VL X e σ H xs := fun H1 a Q q => h H1 a Q fun v H2 e2 r => by
  obtain ⟨p, rfl, hp, h2⟩ := r
  exact q p H2 hp e2 h2
theorem VX.rel (h : VX X e σ H v) : VR X e σ H (fun u _ _ => u = v) := fun H1 a Q q => h H1 a Q fun H2 e2 => q v H2 e2 rfl
theorem VR.val (h : VR X e σ H (fun u _ _ => u = v)) : VX X e σ H v := fun H1 a Q q => h H1 a Q fun u H2 e2 r => by
  subst r
  exact q H2 e2
theorem VR.imp {R R' : V → Hp → Hp → Prop} (h : VR X e σ H R) (k : ∀ v H1 H2, Ex H H1 → Ex H1 H2 → R v H1 H2 → R' v H1 H2) : VR X e σ H R' := fun H1 a Q q => h H1 a Q fun v H2 e2 r => q v H2 e2 (k v H1 H2 a e2 r)
theorem VR.mono {R : V → Hp → Hp → Prop} (a : Ex H H') (h : VR X e σ H R) : VR X e σ H' R := fun H1 b Q q => h H1 (a.trans b) Q q
theorem VX.is (h : VX X e σ H v) (k : v = x) : VX X e σ H x := by
  subst k
  exact h
theorem VL.is (h : VL X e σ H xs) (k : xs = ys) : VL X e σ H ys := by
  subst k
  exact h
theorem VT.is {a b : Bool} (h : VT X e σ H a) (k : a = b) : VT X e σ H b := by
  subst k
  exact h
/-! #### atoms -/
theorem v_var (i : Nat) {n : Str} {pos : Pos} (h : σ[i]? = some (some v) := by rfl) (hN : X.N[i]? = some n := by rfl) (hv : Vis X.env.scope n := by first | exact Or.inl rfl | exact Or.inr (Or.inl rfl) | exact Or.inr (Or.inr rfl)) (hd : (n == ("__debug__" : Str)) = false := by decide)
    (hcd : (n == ("__classdict__" : Str)) = false := by decide) : VX X (.Name n pos) σ H v := v_of (pv i hN hv hd hcd) (ev_var h)
theorem v_int {i : Int} {j pos} : VX X (.Constant (.int i) j pos) σ H (.int i) := v_of pe_int ev_c
theorem v_str {n : Str} {j pos} : VX X (.Constant (.str n) j pos) σ H (.str n) := v_of pe_str ev_c
theorem v_bl {b : Bool} {j pos} : VX X (.Constant (.bool b) j pos) σ H (.bl b) := v_of pe_bl ev_c
theorem v_non {j pos} : VX X (.Constant .none j pos) σ H .non := v_of pe_non ev_c
theorem v_glob {n : Str} {u : Value} {pos : Pos} (hm : X.mg n = some u) (r : RelV v u) (hg : Gl X n := by rfl) (hd : (n == ("__debug__" : Str)) = false := by decide) : VX X (.Name n pos) σ H v := v_of (pe_glob hg hm r hd) ev_c
theorem v_num {n : Str} {i : Int} {pos : Pos} (hm : ∃ t, X.mg n = some (.int i t)) (hg : Gl X n := by rfl) (hd : (n == ("__debug__" : Str)) = false := by decide) : VX X (.Name n pos) σ H (.int i) := by
  obtain ⟨t, hm⟩ := hm
  exact v_glob hm ⟨t, rfl⟩ hg hd
theorem v_txt {n z : Str} {pos : Pos} (hm : ∃ t, X.mg n = some (.str z t)) (hg : Gl X n := by rfl) (hd : (n == ("__debug__" : Str)) = false := by decide) : VX X (.Name n pos) σ H (.str z) := by
  obtain ⟨t, hm⟩ := hm
  exact v_glob hm ⟨t, rfl⟩ hg hd
theorem v_own {n : Str} {a : Addr} {pos : Pos} (hm : X.mg n = some (.ref a)) (hg : Gl X n := by rfl) (hd : (n == ("__debug__" : Str)) = false := by decide) : VX X (.Name n pos) σ H (.ref a) := v_glob hm rfl hg hd
/-- a built-in class as a value -/
theorem v_ty {n : Str} {T : String} {pos : Pos} (hm : X.mg n = none) (hv : bootBuiltins n = some (.type T)) (hg : Gl X n := by rfl) (hn : n ≠ "__name__" := by decide) (hd : (n == ("__debug__" : Str)) = false := by decide) : VX X (.Name n pos) σ H (.ty T) := v_of (pe_bltn (v := .ty T) hg hm hv rfl hn hd) ev_c
/-! #### arguments -/
theorem va_nil : VA X [] σ H [] := va_of pa_nil fun H1 _ _ q => q H1 (Ex.refl H1)
theorem va_cons (ha : VX X e σ H v) (hr : VA X es σ H vs) (hs : starEach (e :: es) X.env = (false, eval e X.env) :: starEach es X.env := by rfl) : VA X (e :: es) σ H (v :: vs) :=
  va_of (pa_cons pe_w pa_w hs) fun H1 a Q q => ha H1 a _ fun H2 e2 => hr H2 (a.trans e2) _ fun H3 e3 => q H3 (e2.trans e3)
theorem va_one (ha : VX X e σ H v) (hs : starEach [e] X.env = (false, eval e X.env) :: starEach [] X.env := by rfl) : VA X [e] σ H [v] := va_cons ha va_nil hs
/-- arguments of which some are new objects -/
def EvAR (ta : TA) (σ : L2.St) (H : Hp) (R : List V → Hp → Hp → Prop) : Prop := ∀ H1, Ex H H1 → ∀ Q : List V → Hp → Prop, (∀ vs H2, Ex H1 H2 → R vs H1 H2 → Q vs H2) → ta σ H1 Q
abbrev VAR (X : Cx) (es : List Expr) (σ : L2.St) (H : Hp) (R : List V → Hp → Hp → Prop) : Prop := EvAR (wA X es) σ H R
theorem var_of {R : List V → Hp → Hp → Prop} (h : PA X es ta) (r : EvAR ta σ H R) : VAR X es σ H R := fun H1 a Q q => wa_of h (r H1 a Q q)
theorem VA.rel (h : VA X es σ H vs) : VAR X es σ H (fun us _ _ => us = vs) := fun H1 a Q q => h H1 a Q fun H2 e2 => q vs H2 e2 rfl
theorem var_one {R : V → Hp → Hp → Prop} (ha : VR X e σ H R) (hs : starEach [e] X.env = (false, eval e X.env) :: starEach [] X.env := by rfl) : VAR X [e] σ H (fun vs H1 H2 => ∃ v, vs = [v] ∧ R v H1 H2) :=
  var_of (pa_cons pe_w pa_nil hs) fun H1 a Q q => ha H1 a _ fun v H2 e2 r => q _ H2 e2 ⟨v, rfl, r⟩
theorem var_cons {R : V → Hp → Hp → Prop} {R' : List V → Hp → Hp → Prop} (ha : VR X e σ H R) (hr : VAR X es σ H R') (hs : starEach (e :: es) X.env = (false, eval e X.env) :: starEach es X.env := by rfl) :
    VAR X (e :: es) σ H (fun ws H1 H3 => ∃ v vs H2, ws = v :: vs ∧ Ex H1 H2 ∧ Ex H2 H3 ∧ R v H1 H2 ∧ R' vs H2 H3) :=
  var_of (pa_cons pe_w pa_w hs) fun H1 a Q q => ha H1 a _ fun v H2 e2 r => hr H2 (a.trans e2) _ fun vs H3 e3 r' => q _ H3 (e2.trans e3) ⟨v, vs, H2, rfl, e2, e3, r, r'⟩
end
/-! #### operators -/
section
variable {X : Cx} {a b c : Expr} {es : List Expr} {σ : L2.St} {H : Hp} {v x y z : V} {vs xs ys : List V} {r r' : R2} {pos : Pos}
theorem v_op {op : Operator} (ho : OpR X (binaryOp op) r) (ha : VX X a σ H x) (hb : VX X b σ H y) (hr : RV r x y H z) : VX X (.BinOp a op b pos) σ H z := v_of (pe_op ho pe_w pe_w) (ev_op ha hb hr)
theorem v_add {i j : Int} (ha : VX X a σ H (.int i)) (hb : VX X b σ H (.int j)) : VX X (.BinOp a .Add b pos) σ H (.int (i + j)) := v_op op_add ha hb rv_I0
theorem v_sub {i j : Int} (ha : VX X a σ H (.int i)) (hb : VX X b σ H (.int j)) : VX X (.BinOp a .Sub b pos) σ H (.int (i - j)) := v_op op_sub ha hb rv_I0
theorem rv_catS {p q : Str} (h : p.length + q.length ≤ sizeLine) : RV (fun x y H Q => ∃ i j, x = V.str i ∧ y = V.str j ∧ i.length + j.length ≤ sizeLine ∧ Q (.str (i ++ j)) H) (.str p) (.str q) H (.str (p ++ q)) := fun H1 _ _ k => ⟨p, q, rfl, rfl, h, k H1 (Ex.refl H1)⟩
theorem v_catS {p q : List Nat} (ha : VX X a σ H (.str (SX.S p))) (hb : VX X b σ H (.str (SX.S q))) (h : p.length + q.length ≤ 1000000) : VX X (.BinOp a .Add b pos) σ H (.str (SX.S (p ++ q))) :=
  v_op op_add_str ha hb (by
    rw [← SX.S_cat]
    exact rv_catS (by rw [SX.S_len, SX.S_len, sizeLine_eq]; omega))
/-- a comparison -/
theorem v_cmp {op : CmpOp} (ho : OpR X (compareOp op) r) (ha : VX X a σ H x) (hb : VX X b σ H y) (hr : RV r x y H z) (hm : behindInMarks op b = false) : VX X (.Compare a [op] [b] pos) σ H z := v_of (pe_cmpR ho pe_w pe_w hm) (ev_op ha hb hr)
theorem vt_cmp {op : CmpOp} {k : Bool} (ho : OpR X (compareOp op) r) (ha : VX X a σ H x) (hb : VX X b σ H y) (hr : RV r x y H (.bl k)) (hm : behindInMarks op b = false) : VT X (.Compare a [op] [b] pos) σ H k := vt_of (pt_cmpR ho pe_w pe_w hm) (et_test (ev_op ha hb hr))
theorem vt_val {k : Bool} (h : VX X a σ H (.bl k)) (he : ∀ whole, isTrue a X.env whole = (do let v ← whole; standAt a.pos; holding [v] (truthy v)) := by intro _; rfl) : VT X a σ H k := vt_of (pt_val pe_w he) (et_B h)
theorem v_lt {i j : Int} (ha : VX X a σ H (.int i)) (hb : VX X b σ H (.int j)) : VX X (.Compare a [.Lt] [b] pos) σ H (.bl (decide (i < j))) := v_cmp op_lt ha hb rv_I0 (nomark _)
theorem v_gt {i j : Int} (ha : VX X a σ H (.int i)) (hb : VX X b σ H (.int j)) : VX X (.Compare a [.Gt] [b] pos) σ H (.bl (decide (j < i))) := v_cmp op_gt ha hb rv_I0 (nomark _)
theorem v_le {i j : Int} (ha : VX X a σ H (.int i)) (hb : VX X b σ H (.int j)) : VX X (.Compare a [.LtE] [b] pos) σ H (.bl (decide (i ≤ j))) := v_cmp op_le ha hb rv_I0 (nomark _)
theorem v_ge {i j : Int} (ha : VX X a σ H (.int i)) (hb : VX X b σ H (.int j)) : VX X (.Compare a [.GtE] [b] pos) σ H (.bl (decide (j ≤ i))) := v_cmp op_ge ha hb rv_I0 (nomark _)
theorem vt_lt {i j : Int} (ha : VX X a σ H (.int i)) (hb : VX X b σ H (.int j)) : VT X (.Compare a [.Lt] [b] pos) σ H (decide (i < j)) := vt_cmp op_lt ha hb rv_I0 (nomark _)
theorem vt_gt {i j : Int} (ha : VX X a σ H (.int i)) (hb : VX X b σ H (.int j)) : VT X (.Compare a [.Gt] [b] pos) σ H (decide (j < i)) := vt_cmp op_gt ha hb rv_I0 (nomark _)
theorem vt_le {i j : Int} (ha : VX X a σ H (.int i)) (hb : VX X b σ H (.int j)) : VT X (.Compare a [.LtE] [b] pos) σ H (decide (i ≤ j)) := vt_cmp op_le ha hb rv_I0 (nomark _)
theorem vt_ge {i j : Int} (ha : VX X a σ H (.int i)) (hb : VX X b σ H (.int j)) : VT X (.Compare a [.GtE] [b] pos) σ H (decide (j ≤ i)) := vt_cmp op_ge ha hb rv_I0 (nomark _)
theorem v_eq (ha : VX X a σ H x) (hb : VX X b σ H y) (h : scal x y = true) : VX X (.Compare a [.Eq] [b] pos) σ H (.bl (decide (x = y))) := v_cmp op_eq ha hb (rv_eq h) (nomark _)
theorem v_ne (ha : VX X a σ H x) (hb : VX X b σ H y) (h : scal x y = true) : VX X (.Compare a [.NotEq] [b] pos) σ H (.bl (!decide (x = y))) := v_cmp op_ne ha hb (rv_ne h) (nomark _)
theorem vt_eq (ha : VX X a σ H x) (hb : VX X b σ H y) (h : scal x y = true) : VT X (.Compare a [.Eq] [b] pos) σ H (decide (x = y)) := vt_cmp op_eq ha hb (rv_eq h) (nomark _)
theorem vt_ne (ha : VX X a σ H x) (hb : VX X b σ H y) (h : scal x y = true) : VT X (.Compare a [.NotEq] [b] pos) σ H (!decide (x = y)) := vt_cmp op_ne ha hb (rv_ne h) (nomark _)
theorem str_eqS {p q : List Nat} : decide (V.str (SX.S p) = V.str (SX.S q)) = decide (p = q) := by
  by_cases h : p = q
  · subst h
    simp
  · rw [decide_eq_false h, decide_eq_false fun z => h (SX.S_inj (V.str.inj z))]
theorem v_eqS {p q : List Nat} (ha : VX X a σ H (.str (SX.S p))) (hb : VX X b σ H (.str (SX.S q))) : VX X (.Compare a [.Eq] [b] pos) σ H (.bl (decide (p = q))) := (v_eq ha hb rfl).is (by rw [str_eqS])
theorem v_neS {p q : List Nat} (ha : VX X a σ H (.str (SX.S p))) (hb : VX X b σ H (.str (SX.S q))) : VX X (.Compare a [.NotEq] [b] pos) σ H (.bl (!decide (p = q))) := (v_ne ha hb rfl).is (by rw [str_eqS])
theorem vt_eqS {p q : List Nat} (ha : VX X a σ H (.str (SX.S p))) (hb : VX X b σ H (.str (SX.S q))) : VT X (.Compare a [.Eq] [b] pos) σ H (decide (p = q)) := (vt_eq ha hb rfl).is str_eqS
theorem vt_neS {p q : List Nat} (ha : VX X a σ H (.str (SX.S p))) (hb : VX X b σ H (.str (SX.S q))) : VT X (.Compare a [.NotEq] [b] pos) σ H (!decide (p = q)) := (vt_ne ha hb rfl).is (by rw [str_eqS])
theorem v_isN {j pos'} (ha : VX X a σ H x) : VX X (.Compare a [.Is] [.Constant .none j pos'] pos) σ H (.bl (decide (x = .non))) := v_of (pe_cmp (pc_isN pe_w)) fun H1 e Q q => ha H1 e _ fun H2 e2 => q H2 e2
theorem v_notN {j pos'} (ha : VX X a σ H x) : VX X (.Compare a [.IsNot] [.Constant .none j pos'] pos) σ H (.bl (!decide (x = .non))) := v_of (pe_cmp (pc_notN pe_w)) fun H1 e Q q => ha H1 e _ fun H2 e2 => q H2 e2
theorem vt_isN {j pos'} (ha : VX X a σ H x) : VT X (.Compare a [.Is] [.Constant .none j pos'] pos) σ H (decide (x = .non)) := vt_of (pt_cmp (pc_isN pe_w)) fun H1 e Q q => ha H1 e _ fun H2 e2 => ⟨_, rfl, q H2 e2⟩
theorem vt_notN {j pos'} (ha : VX X a σ H x) : VT X (.Compare a [.IsNot] [.Constant .none j pos'] pos) σ H (!decide (x = .non)) := vt_of (pt_cmp (pc_notN pe_w)) fun H1 e Q q => ha H1 e _ fun H2 e2 => ⟨_, rfl, q H2 e2⟩
/-- a <= b <= c of ints -/
theorem ev_chain {ta tb tc : TE} {k l : Bool} {u : V} (ha : Ev ta σ H x) (hb : Ev tb σ H y) (hc : Ev tc σ H u) (h1 : RV r x y H (.bl k)) (h2 : RV r' y u H (.bl l)) : Ev (tChain r r' ta tb tc) σ H (.bl (k && l)) := fun H1 e Q q =>
  ha H1 e _ fun H2 e2 => hb H2 (e.trans e2) _ fun H3 e3 => h1 H3 ((e.trans e2).trans e3) _ fun H4 e4 => ⟨k, rfl, by
    cases k with
    | true =>
      show tc σ H4 fun w' H4 => r' y w' H4 Q
      exact hc H4 (((e.trans e2).trans e3).trans e4) _ fun H5 e5 => h2 H5 ((((e.trans e2).trans e3).trans e4).trans e5) Q fun H6 e6 => q H6 ((((e2.trans e3).trans e4).trans e5).trans e6)
    | false =>
      show Q (.bl false) H4
      exact q H4 ((e2.trans e3).trans e4)⟩
theorem v_lele {i j k : Int} (ha : VX X a σ H (.int i)) (hb : VX X b σ H (.int j)) (hc : VX X c σ H (.int k)) (hm : lastMarks [.LtE, .LtE] [b, c] = false := by with_unfolding_all rfl) : VX X (.Compare a [.LtE, .LtE] [b, c] pos) σ H (.bl (decide (i ≤ j) && decide (j ≤ k))) :=
  v_of (pe_chain op_le op_le pe_w pe_w pe_w hm) (ev_chain ha hb hc rv_I0 rv_I0)
theorem vt_lele {i j k : Int} (ha : VX X a σ H (.int i)) (hb : VX X b σ H (.int j)) (hc : VX X c σ H (.int k)) (hm : lastMarks [.LtE, .LtE] [b, c] = false := by with_unfolding_all rfl) : VT X (.Compare a [.LtE, .LtE] [b, c] pos) σ H (decide (i ≤ j) && decide (j ≤ k)) :=
  vt_of (pt_chain op_le op_le pe_w pe_w pe_w hm) (et_test (ev_chain ha hb hc rv_I0 rv_I0))
/-! #### and, or, not -/
variable {rest : List Expr} {op : BoolOperator}
theorem v_one {op} (h : VX X a σ H v) : VX X (.BoolOp op [a] pos) σ H v := v_of (pe_one pe_w) h
theorem v_and {k l : Bool} (ha : VX X a σ H (.bl k)) (hb : k = true → VX X (.BoolOp .And (b :: rest) pos) σ H (.bl l)) : VX X (.BoolOp .And (a :: b :: rest) pos) σ H (.bl (k && l)) := v_of (pe_and pe_w pe_w) (ev_andV ha hb)
theorem v_or {k l : Bool} (ha : VX X a σ H (.bl k)) (hb : k = false → VX X (.BoolOp .Or (b :: rest) pos) σ H (.bl l)) : VX X (.BoolOp .Or (a :: b :: rest) pos) σ H (.bl (k || l)) := v_of (pe_or pe_w pe_w) fun H1 e Q q => ha H1 e _ fun H2 e2 => ⟨k, rfl, by
  cases k with
  | true =>
    show Q (.bl true) H2
    exact q H2 e2
  | false =>
    show wE X _ σ H2 Q
    exact hb rfl H2 (e.trans e2) Q fun H3 e3 => q H3 (e2.trans e3)⟩
theorem v_not {k : Bool} (ha : VX X a σ H (.bl k)) : VX X (.UnaryOp .Not a pos) σ H (.bl (!k)) := v_of (pe_not pe_w) fun H1 e Q q => ha H1 e _ fun H2 e2 => ⟨k, rfl, q H2 e2⟩
/-- tests -/
def VW (X : Cx) (e : Expr) (σ : L2.St) (H : Hp) (b : Bool) : Prop := ∃ t, PW X e t ∧ EvT t σ H b
theorem VW.t {k : Bool} (h : VW X a σ H k) : VT X a σ H k := let ⟨_, p, q⟩ := h; vt_of p.pt q
theorem vw_and1 {k : Bool} (ha : VT X a σ H k) : VW X (.BoolOp .And [a] pos) σ H k := ⟨_, pw_and1 pt_w, ha⟩
theorem vw_or1 {k : Bool} (ha : VT X a σ H k) : VW X (.BoolOp .Or [a] pos) σ H k := ⟨_, pw_or1 pt_w, ha⟩
/-- the weakest reading of a test whatever its whole is -/
def wW (X : Cx) (e : Expr) : TT := fun σ H Q => ∀ whole pins s, Inv X pins σ H s → wpAny (model X.prog X.w) X.A (isTrue e X.env whole) (TP X pins σ Q) X.xe s
theorem pw_w : PW X a (wW X a) := ⟨fun wh pins s _ _ _ I h => h wh pins s I⟩
theorem VW.w {k : Bool} (h : VW X a σ H k) : EvT (wW X a) σ H k := let ⟨_, p, q⟩ := h; fun H1 e Q k => fun wh pins s I => p.run wh pins s σ H1 Q I (q H1 e Q k)
theorem vw_and {k l : Bool} (ha : VT X a σ H k) (hb : k = true → VW X (.BoolOp .And (b :: rest) pos) σ H l) : VW X (.BoolOp .And (a :: b :: rest) pos) σ H (k && l) := ⟨_, pw_and pt_w pw_w, et_and ha fun h => (hb h).w⟩
theorem vw_or {k l : Bool} (ha : VT X a σ H k) (hb : k = false → VW X (.BoolOp .Or (b :: rest) pos) σ H l) : VW X (.BoolOp .Or (a :: b :: rest) pos) σ H (k || l) := ⟨_, pw_or pt_w pw_w, et_or ha fun h => (hb h).w⟩
theorem vt_not {k : Bool} (ha : VT X a σ H k) : VT X (.UnaryOp .Not a pos) σ H (!k) := vt_of (pt_not pt_w) (et_not ha)
/-- a if t else b -/
theorem v_if {k : Bool} (ht : VT X c σ H k) (h1 : k = true → VX X a σ H v) (h2 : k = false → VX X b σ H v) : VX X (.IfExp c a b pos) σ H v := v_of (pe_ifExp pt_w pe_w pe_w) fun H1 e Q q => ht H1 e _ fun H2 e2 => by
  cases k with
  | true =>
    show wE X a σ H2 Q
    exact h1 rfl H2 (e.trans e2) Q fun H3 e3 => q H3 (e2.trans e3)
  | false =>
    show wE X b σ H2 Q
    exact h2 rfl H2 (e.trans e2) Q fun H3 e3 => q H3 (e2.trans e3)
theorem vr_if {k : Bool} {R : V → Hp → Hp → Prop} (ht : VT X c σ H k) (h1 : k = true → VR X a σ H R) (h2 : k = false → VR X b σ H R) (hm : ∀ v H1 H2 H3, Ex H1 H2 → R v H2 H3 → R v H1 H3) : VR X (.IfExp c a b pos) σ H R := vr_of (pe_ifExp pt_w pe_w pe_w) fun H1 e Q q => ht H1 e _ fun H2 e2 => by
  cases k with
  | true =>
    show wE X a σ H2 Q
    exact h1 rfl H2 (e.trans e2) Q fun v H3 e3 r => q v H3 (e2.trans e3) (hm _ _ _ _ e2 r)
  | false =>
    show wE X b σ H2 Q
    exact h2 rfl H2 (e.trans e2) Q fun v H3 e3 r => q v H3 (e2.trans e3) (hm _ _ _ _ e2 r)
/-! #### calls of built-ins -/
variable {id T : String} {q : List V → Hp → VK → Prop} {n : Str} {p : Pos}
theorem v_callB (hc : CallR X (.builtin id) q) (hm : X.mg n = none) (hv : bootBuiltins n = some (.builtin id)) (ha : VA X (a :: es) σ H vs) (hr : RC q vs H z) (hg : Gl X n := by rfl) (hn : n ≠ "__name__" := by decide) (hdb : (n == ("__debug__" : Str)) = false := by decide)
    (he : starEach (a :: es) X.env = (false, eval a X.env) :: starEach es X.env := by rfl) (hpl : (backTo pos (starEach es X.env)).any (·.1) = false := by rfl) : VX X (.Call (.Name n p) (a :: es) [] pos) σ H z :=
  v_of (pe_callB hc hg hm hv pa_w hn hdb he hpl) fun H1 e Q k => ha H1 e _ fun H2 e2 => hr H2 (e.trans e2) Q fun H3 e3 => k H3 (e2.trans e3)
theorem v_callTy (hc : CallR X (.type T) q) (hm : X.mg n = none) (hv : bootBuiltins n = some (.type T)) (ha : VA X (a :: es) σ H vs) (hr : RC q vs H z) (hg : Gl X n := by rfl) (hn : n ≠ "__name__" := by decide) (hdb : (n == ("__debug__" : Str)) = false := by decide)
    (he : starEach (a :: es) X.env = (false, eval a X.env) :: starEach es X.env := by rfl) (hpl : (backTo pos (starEach es X.env)).any (·.1) = false := by rfl) : VX X (.Call (.Name n p) (a :: es) [] pos) σ H z :=
  v_of (pe_callTy hc hg hm hv pa_w hn hdb he hpl) fun H1 e Q k => ha H1 e _ fun H2 e2 => hr H2 (e.trans e2) Q fun H3 e3 => k H3 (e2.trans e3)
/-- general: arguments told by R, the answer by R' -/
def RCR (q : List V → Hp → VK → Prop) (R : List V → Hp → Hp → Prop) (H : Hp) (R' : V → Hp → Hp → Prop) : Prop := ∀ H1 H2 vs, Ex H H1 → Ex H1 H2 → R vs H1 H2 → ∀ Q : VK, (∀ v H3, Ex H2 H3 → R' v H1 H3 → Q v H3) → q vs H2 Q
theorem vr_callB {R : List V → Hp → Hp → Prop} {R' : V → Hp → Hp → Prop} (hc : CallR X (.builtin id) q) (hm : X.mg n = none) (hv : bootBuiltins n = some (.builtin id)) (ha : VAR X (a :: es) σ H R) (hr : RCR q R H R') (hg : Gl X n := by rfl) (hn : n ≠ "__name__" := by decide) (hdb : (n == ("__debug__" : Str)) = false := by decide)
    (he : starEach (a :: es) X.env = (false, eval a X.env) :: starEach es X.env := by rfl) (hpl : (backTo pos (starEach es X.env)).any (·.1) = false := by rfl) : VR X (.Call (.Name n p) (a :: es) [] pos) σ H R' :=
  vr_of (pe_callB hc hg hm hv pa_w hn hdb he hpl) fun H1 e Q k => ha H1 e _ fun vs H2 e2 r => hr H1 H2 vs e e2 r Q fun v H3 e3 r' => k v H3 (e2.trans e3) r'
theorem vr_callTy {R : List V → Hp → Hp → Prop} {R' : V → Hp → Hp → Prop} (hc : CallR X (.type T) q) (hm : X.mg n = none) (hv : bootBuiltins n = some (.type T)) (ha : VAR X (a :: es) σ H R) (hr : RCR q R H R') (hg : Gl X n := by rfl) (hn : n ≠ "__name__" := by decide) (hdb : (n == ("__debug__" : Str)) = false := by decide)
    (he : starEach (a :: es) X.env = (false, eval a X.env) :: starEach es X.env := by rfl) (hpl : (backTo pos (starEach es X.env)).any (·.1) = false := by rfl) : VR X (.Call (.Name n p) (a :: es) [] pos) σ H R' :=
  vr_of (pe_callTy hc hg hm hv pa_w hn hdb he hpl) fun H1 e Q k => ha H1 e _ fun vs H2 e2 r => hr H1 H2 vs e e2 r Q fun v H3 e3 r' => k v H3 (e2.trans e3) r'
end
end K75
/-! own words, further: lists, texts, walks, statements -/
namespace K75
open PySem PySem.Spec PyProof.Rows L2 Evl
def isS (K : PySem.W.Frag) (xs : List V) : V → Hp → Hp → Prop := fun v _ H2 => ∃ p, v = .ref p ∧ SqL K H2 p xs
def isM (xs : List V) : V → Hp → Hp → Prop := fun v _ H2 => ∃ p, v = .ref p ∧ H2 p = some (.lst xs)
abbrev VS (X : Cx) (e : Expr) (σ : L2.St) (H : Hp) (xs : List V) : Prop := VR X e σ H (isS X.K xs)
abbrev VM (X : Cx) (e : Expr) (σ : L2.St) (H : Hp) (xs : List V) : Prop := VR X e σ H (isM xs)
section
variable {X : Cx} {a b c e : Expr} {es : List Expr} {σ : L2.St} {H : Hp} {v x y z : V} {vs xs ys : List V} {r r' : R2} {pos p2 : Pos} {p : Addr}
theorem VX.seq (ha : VX X a σ H (.ref p)) (hx : SqL X.K H p xs) : VS X a σ H xs := fun H1 e1 Q q => ha H1 e1 Q fun H2 e2 => q _ H2 e2 ⟨p, rfl, ex_l (e1.trans e2) hx⟩
theorem VX.m (ha : VX X a σ H (.ref p)) (hx : H p = some (.lst xs)) : VM X a σ H xs := fun H1 e1 Q q => ha H1 e1 Q fun H2 e2 => q _ H2 e2 ⟨p, rfl, (e1.trans e2) _ _ hx⟩
theorem VL.seq (ha : VL X a σ H xs) : VS X a σ H xs := fun H1 e1 Q q => ha H1 e1 Q fun p H2 _ e2 h => q _ H2 e2 ⟨p, rfl, sq_of h⟩
theorem VL.m (ha : VL X a σ H xs) : VM X a σ H xs := fun H1 e1 Q q => ha H1 e1 Q fun p H2 _ e2 h => q _ H2 e2 ⟨p, rfl, h⟩
theorem VM.seq (ha : VM X a σ H xs) : VS X a σ H xs := VR.imp ha fun v H1 H2 _ _ h => by
  obtain ⟨p, rfl, h⟩ := h
  exact ⟨p, rfl, sq_of h⟩
/-! #### two operands told by relations -/
theorem vr_op {op : Operator} {R1 R2' R : V → Hp → Hp → Prop} (ho : OpR X (binaryOp op) r) (ha : VR X a σ H R1) (hb : VR X b σ H R2')
    (hr : ∀ H1 H2 H3 x y, Ex H H1 → Ex H1 H2 → Ex H2 H3 → R1 x H1 H2 → R2' y H2 H3 → ∀ Q : VK, (∀ v H4, Ex H3 H4 → R v H1 H4 → Q v H4) → r x y H3 Q) : VR X (.BinOp a op b pos) σ H R :=
  vr_of (pe_op ho pe_w pe_w) fun H1 e Q q => ha H1 e _ fun x H2 e2 r1 => hb H2 (e.trans e2) _ fun y H3 e3 r2 => hr H1 H2 H3 x y e e2 e3 r1 r2 Q fun v H4 e4 r => q v H4 ((e2.trans e3).trans e4) r
theorem v_cmpR {op : CmpOp} {R1 R2' : V → Hp → Hp → Prop} (ho : OpR X (compareOp op) r) (ha : VR X a σ H R1) (hb : VR X b σ H R2') (hm : behindInMarks op b = false)
    (hr : ∀ H1 H2 H3 x y, Ex H H1 → Ex H1 H2 → Ex H2 H3 → R1 x H1 H2 → R2' y H2 H3 → RV r x y H3 z) : VX X (.Compare a [op] [b] pos) σ H z :=
  v_of (pe_cmpR ho pe_w pe_w hm) fun H1 e Q q => ha H1 e _ fun x H2 e2 r1 => hb H2 (e.trans e2) _ fun y H3 e3 r2 => hr H1 H2 H3 x y e e2 e3 r1 r2 H3 (Ex.refl H3) Q fun H4 e4 => q H4 ((e2.trans e3).trans e4)
theorem vt_cmpR {op : CmpOp} {k : Bool} {R1 R2' : V → Hp → Hp → Prop} (ho : OpR X (compareOp op) r) (ha : VR X a σ H R1) (hb : VR X b σ H R2') (hm : behindInMarks op b = false)
    (hr : ∀ H1 H2 H3 x y, Ex H H1 → Ex H1 H2 → Ex H2 H3 → R1 x H1 H2 → R2' y H2 H3 → RV r x y H3 (.bl k)) : VT X (.Compare a [op] [b] pos) σ H k :=
  vt_of (pt_cmpR ho pe_w pe_w hm) fun H1 e Q q => ha H1 e _ fun x H2 e2 r1 => hb H2 (e.trans e2) _ fun y H3 e3 r2 => hr H1 H2 H3 x y e e2 e3 r1 r2 H3 (Ex.refl H3) _ fun H4 e4 => ⟨k, rfl, q H4 ((e2.trans e3).trans e4)⟩
theorem vl_cat (ha : VM X a σ H xs) (hb : VM X b σ H ys) (hz : xs.length + ys.length ≤ 1000000) : VL X (.BinOp a .Add b pos) σ H (xs ++ ys) := VR.lst (vr_op op_cat ha hb fun H1 H2 H3 x y e1 e2 e3 r1 r2 Q q => by
  obtain ⟨p, rfl, hp⟩ := r1
  obtain ⟨u, rfl, hu⟩ := r2
  exact ⟨p, u, xs, ys, rfl, rfl, e3 _ _ hp, hu, by rw [sizeLine_eq]; omega, fun n hn => q _ _ (Ex.new hn) ⟨n, rfl, fresh_back (e2.trans e3) hn, upd_same⟩⟩)
theorem vl_rep {k : Int} (ha : VM X a σ H xs) (hb : VX X b σ H (.int k)) (h1 : -(2 ^ 63) ≤ k) (h2 : k < 2 ^ 63) (hz : xs.length * k.toNat ≤ 1000000) : VL X (.BinOp a .Mult b pos) σ H (List.replicate k.toNat xs).flatten := VR.lst (vr_op op_rep ha hb.rel fun H1 H2 H3 x y e1 e2 e3 r1 r2 Q q => by
  obtain ⟨p, rfl, hp⟩ := r1
  subst r2
  refine ⟨p, k, xs, rfl, rfl, e3 _ _ hp, h1, h2, by rw [sizeLine_eq]; omega, fun n hn => q _ _ (Ex.new hn) ⟨n, rfl, fresh_back (e2.trans e3) hn, ?_⟩⟩
  rw [upd_same])
/-- xs[i] -/
theorem v_ix {i : Int} (ha : VS X a σ H xs) (hb : VX X b σ H (.int i)) (h : atI xs i = some v) (hs : PlainIx b := by intro _ _; rfl) : VX X (.Subscript a b pos) σ H v :=
  v_of (pe_ix ix_list pe_w pe_w hs) fun H1 e Q q => ha H1 e _ fun x H2 e2 r1 => hb H2 (e.trans e2) _ fun H3 e3 => by
    obtain ⟨p, rfl, hp⟩ := r1
    exact ⟨p, xs, i, v, rfl, rfl, ex_l e3 hp, h, q H3 (e2.trans e3)⟩
theorem v_ixN {i : Nat} (ha : VS X a σ H xs) (hb : VX X b σ H (.int (i : Int))) (h : xs[i]? = some v) (hs : PlainIx b := by intro _ _; rfl) : VX X (.Subscript a b pos) σ H v := v_ix ha hb (atI_nat h) hs
/-- x in xs -/
theorem v_in (ha : VX X a σ H x) (hb : VS X b σ H xs) (hx : flatV x = true) (hf : xs.all flatV = true) (hm : behindInMarks .In b = false := by with_unfolding_all rfl) : VX X (.Compare a [.In] [b] pos) σ H (.bl (inV x xs)) := v_cmpR op_in_seq ha.rel hb hm fun H1 H2 H3 x y e1 e2 e3 r1 r2 => by
  subst r1
  obtain ⟨p, rfl, hp⟩ := r2
  exact rv_isL hp hx hf
theorem v_notin (ha : VX X a σ H x) (hb : VS X b σ H xs) (hx : flatV x = true) (hf : xs.all flatV = true) (hm : behindInMarks .NotIn b = false := by with_unfolding_all rfl) : VX X (.Compare a [.NotIn] [b] pos) σ H (.bl (!inV x xs)) := v_cmpR op_notIn_seq ha.rel hb hm fun H1 H2 H3 x y e1 e2 e3 r1 r2 => by
  subst r1
  obtain ⟨p, rfl, hp⟩ := r2
  exact rv_niL hp hx hf
theorem vt_in (ha : VX X a σ H x) (hb : VS X b σ H xs) (hx : flatV x = true) (hf : xs.all flatV = true) (hm : behindInMarks .In b = false := by with_unfolding_all rfl) : VT X (.Compare a [.In] [b] pos) σ H (inV x xs) := vt_cmpR op_in_seq ha.rel hb hm fun H1 H2 H3 x y e1 e2 e3 r1 r2 => by
  subst r1
  obtain ⟨p, rfl, hp⟩ := r2
  exact rv_isL hp hx hf
theorem vt_notin (ha : VX X a σ H x) (hb : VS X b σ H xs) (hx : flatV x = true) (hf : xs.all flatV = true) (hm : behindInMarks .NotIn b = false := by with_unfolding_all rfl) : VT X (.Compare a [.NotIn] [b] pos) σ H (!inV x xs) := vt_cmpR op_notIn_seq ha.rel hb hm fun H1 H2 H3 x y e1 e2 e3 r1 r2 => by
  subst r1
  obtain ⟨p, rfl, hp⟩ := r2
  exact rv_niL hp hx hf
/-! #### len, all, isinstance, int, str, max -/
variable {n : Str} {q : Pos}
theorem vr_callB1 {id : String} {f : List V → Hp → VK → Prop} {R1 R : V → Hp → Hp → Prop} (hc : CallR X (.builtin id) f) (hm : X.mg n = none) (hv : bootBuiltins n = some (.builtin id)) (ha : VR X a σ H R1)
    (hr : ∀ H1 H2 x, Ex H H1 → Ex H1 H2 → R1 x H1 H2 → ∀ Q : VK, (∀ v H3, Ex H2 H3 → R v H1 H3 → Q v H3) → f [x] H2 Q) (hg : Gl X n := by rfl) (hn : n ≠ "__name__" := by decide) (hdb : (n == ("__debug__" : Str)) = false := by decide)
    (hs : starEach [a] X.env = (false, eval a X.env) :: starEach [] X.env := by rfl) (hpl : (backTo pos (starEach [] X.env)).any (·.1) = false := by rfl) : VR X (.Call (.Name n q) [a] [] pos) σ H R :=
  vr_callB hc hm hv (var_one ha hs) (fun H1 H2 vs e1 e2 r Q k => by
    obtain ⟨x, rfl, r⟩ := r
    exact hr H1 H2 x e1 e2 r Q k) hg hn hdb hs hpl
theorem vr_callTy1 {id : String} {f : List V → Hp → VK → Prop} {R1 R : V → Hp → Hp → Prop} (hc : CallR X (.type id) f) (hm : X.mg n = none) (hv : bootBuiltins n = some (.type id)) (ha : VR X a σ H R1)
    (hr : ∀ H1 H2 x, Ex H H1 → Ex H1 H2 → R1 x H1 H2 → ∀ Q : VK, (∀ v H3, Ex H2 H3 → R v H1 H3 → Q v H3) → f [x] H2 Q) (hg : Gl X n := by rfl) (hn : n ≠ "__name__" := by decide) (hdb : (n == ("__debug__" : Str)) = false := by decide)
    (hs : starEach [a] X.env = (false, eval a X.env) :: starEach [] X.env := by rfl) (hpl : (backTo pos (starEach [] X.env)).any (·.1) = false := by rfl) : VR X (.Call (.Name n q) [a] [] pos) σ H R :=
  vr_callTy hc hm hv (var_one ha hs) (fun H1 H2 vs e1 e2 r Q k => by
    obtain ⟨x, rfl, r⟩ := r
    exact hr H1 H2 x e1 e2 r Q k) hg hn hdb hs hpl
theorem v_len (hm : X.mg "len" = none) (ha : VS X a σ H xs) (hg : Gl X "len" := by rfl) (hs : starEach [a] X.env = (false, eval a X.env) :: starEach [] X.env := by rfl) (hpl : (backTo pos (starEach [] X.env)).any (·.1) = false := by rfl) :
    VX X (.Call (.Name "len" q) [a] [] pos) σ H (.int (xs.length : Int)) := VR.val (vr_callB1 call_len hm boot_len ha (fun H1 H2 x e1 e2 r Q k => by
  obtain ⟨p, rfl, hp⟩ := r
  exact ⟨_, xs.length, rfl, .inl ⟨xs, hp, rfl⟩, k _ H2 (Ex.refl _) rfl⟩) hg (by decide) (by decide) hs hpl)
theorem v_lenS {t : List Nat} (hm : X.mg "len" = none) (ha : VX X a σ H (.str (SX.S t))) (hz : t.length ≤ 1000000) (hg : Gl X "len" := by rfl) (hs : starEach [a] X.env = (false, eval a X.env) :: starEach [] X.env := by rfl) (hpl : (backTo pos (starEach [] X.env)).any (·.1) = false := by rfl) :
    VX X (.Call (.Name "len" q) [a] [] pos) σ H (.int (t.length : Int)) := VR.val (vr_callB1 call_len hm boot_len ha.rel (fun H1 H2 x e1 e2 r Q k => by
  subst r
  exact ⟨_, t.length, rfl, ⟨by rw [SX.S_len, sizeLine_eq]; omega, (SX.S_len t).symm⟩, k _ H2 (Ex.refl _) rfl⟩) hg (by decide) (by decide) hs hpl)
theorem v_lenT (hm : X.mg "len" = none) (ha : VX X a σ H (.ref p)) (hx : SqT X.K H p xs) (hg : Gl X "len" := by rfl) (hs : starEach [a] X.env = (false, eval a X.env) :: starEach [] X.env := by rfl) (hpl : (backTo pos (starEach [] X.env)).any (·.1) = false := by rfl) :
    VX X (.Call (.Name "len" q) [a] [] pos) σ H (.int (xs.length : Int)) := VR.val (vr_callB1 call_len hm boot_len ha.rel (fun H1 H2 x e1 e2 r Q k => by
  subst r
  exact ⟨_, xs.length, rfl, .inr ⟨xs, ex_t (e1.trans e2) hx, rfl⟩, k _ H2 (Ex.refl _) rfl⟩) hg (by decide) (by decide) hs hpl)
theorem v_all {bs : List Bool} (hc : X.calm = true) (hm : X.mg "all" = none) (ha : VS X a σ H (bs.map V.bl)) (hg : Gl X "all" := by rfl) (hs : starEach [a] X.env = (false, eval a X.env) :: starEach [] X.env := by rfl) (hpl : (backTo pos (starEach [] X.env)).any (·.1) = false := by rfl) :
    VX X (.Call (.Name "all" q) [a] [] pos) σ H (.bl (bs.all id)) := VR.val (vr_callB1 (cr_all hc) hm (by decide +kernel) ha (fun H1 H2 x e1 e2 r Q k => by
  obtain ⟨p, rfl, hp⟩ := r
  exact ⟨p, bs, rfl, hp, k _ H2 (Ex.refl _) rfl⟩) hg (by decide) (by decide) hs hpl)
theorem v_isi {u : Value} {t : Value} {k : Bool} {c' : V} (hm : X.mg "isinstance" = none) (ha : VX X a σ H x) (hb : VX X b σ H c') (hc : ClsV c' u) (ty : ∀ H1, Ex H H1 → TyX X.K H1 x t) (h : PySem.W.kitOne X.K t u = some k) (hg : Gl X "isinstance" := by rfl)
    (hs : starEach [a, b] X.env = (false, eval a X.env) :: starEach [b] X.env := by rfl) (hs2 : starEach [b] X.env = (false, eval b X.env) :: starEach [] X.env := by rfl) (hpl : (backTo pos (starEach [b] X.env)).any (·.1) = false := by rfl) :
    VX X (.Call (.Name "isinstance" q) [a, b] [] pos) σ H (.bl k) := v_callB call_isi hm (by decide +kernel) (va_cons ha (va_one hb hs2) hs) (fun H1 e Q k' => ⟨x, c', t, u, k, rfl, hc, ty H1 e, h, k' H1 (Ex.refl _)⟩) hg (by decide) (by decide) hs hpl
/-- isinstance(x, (c1, c2)) -/
theorem v_isi2 {u1 u2 t : Value} {k : Bool} {c1 c2 : V} {d1 d2 : Expr} {kk : Nat} {tp : Pos} (hm : X.mg "isinstance" = none) (ha : VX X a σ H x) (h1 : VX X d1 σ H c1) (h2 : VX X d2 σ H c2) (hc1 : ClsV c1 u1) (hc2 : ClsV c2 u2) (ty : ∀ H1, Ex H H1 → TyX X.K H1 x t) (h : PySem.W.kitAny X.K t [u1, u2] = some k) (hg : Gl X "isinstance" := by rfl)
    (hs : starEach [a, .Tuple [d1, d2] kk tp] X.env = (false, eval a X.env) :: starEach [.Tuple [d1, d2] kk tp] X.env := by rfl) (hs2 : starEach [.Tuple [d1, d2] kk tp] X.env = (false, eval (.Tuple [d1, d2] kk tp) X.env) :: starEach [] X.env := by rfl)
    (hs3 : starEach [d1, d2] X.env = (false, eval d1 X.env) :: starEach [d2] X.env := by rfl) (hs4 : starEach [d2] X.env = (false, eval d2 X.env) :: starEach [] X.env := by rfl) (hpl : (backTo pos (starEach [.Tuple [d1, d2] kk tp] X.env)).any (·.1) = false := by rfl) :
    VX X (.Call (.Name "isinstance" q) [a, .Tuple [d1, d2] kk tp] [] pos) σ H (.bl k) :=
  v_of (pe_callB call_isiT hg hm (by decide +kernel) (pa_cons pe_w (pa_cons (pe_tup (pa_cons pe_w (pa_cons pe_w pa_nil hs4) hs3)) pa_nil hs2) hs) (by decide) (by decide) hs hpl) fun H1 e Q k' =>
    ha H1 e _ fun H2 e2 => h1 H2 (e.trans e2) _ fun H3 e3 => h2 H3 ((e.trans e2).trans e3) _ fun H4 e4 => ⟨by show 2 ≤ sizeLine; decide, fun tp hn =>
      ⟨x, tp, [c1, c2], t, [u1, u2], k, rfl, upd_same, .cons hc1 (.cons hc2 .nil), ty _ ((((e.trans e2).trans e3).trans e4).trans (Ex.new hn)), h, k' _ (((e2.trans e3).trans e4).trans (Ex.new hn))⟩⟩
theorem v_intI {i : Int} (hm : X.mg "int" = none) (ha : VX X a σ H (.int i)) (hg : Gl X "int" := by rfl) (hs : starEach [a] X.env = (false, eval a X.env) :: starEach [] X.env := by rfl) (hpl : (backTo pos (starEach [] X.env)).any (·.1) = false := by rfl) :
    VX X (.Call (.Name "int" q) [a] [] pos) σ H (.int i) := VR.val (vr_callTy1 call_int1 hm (by decide +kernel) ha.rel (fun H1 H2 x e1 e2 r Q k => by
  subst r
  exact .inl ⟨i, rfl, k _ H2 (Ex.refl _) rfl⟩) hg (by decide) (by decide) hs hpl)
theorem v_intS {t : List Nat} (hm : X.mg "int" = none) (ha : VX X a σ H (.str (SX.S t))) (h1 : t.all (fun c => decide (48 ≤ c) && decide (c ≤ 57)) = true) (h2 : t ≠ []) (h3 : t.length ≤ 640) (hg : Gl X "int" := by rfl) (hs : starEach [a] X.env = (false, eval a X.env) :: starEach [] X.env := by rfl) (hpl : (backTo pos (starEach [] X.env)).any (·.1) = false := by rfl) :
    VX X (.Call (.Name "int" q) [a] [] pos) σ H (.int ((NumText.digitsVal t : Nat) : Int)) := VR.val (vr_callTy1 call_int_str hm (by decide +kernel) ha.rel (fun H1 H2 x e1 e2 r Q k => by
  subst r
  exact ⟨_, _, rfl, SX.int_S h1 h2 (by omega), by rw [SX.S_len]; exact h3, k _ H2 (Ex.refl _) rfl⟩) hg (by decide) (by decide) hs hpl)
theorem v_strN {i : Nat} (hm : X.mg "str" = none) (ha : VX X a σ H (.int (i : Int))) (hz : i < 2 ^ 1000) (hg : Gl X "str" := by rfl) (hs : starEach [a] X.env = (false, eval a X.env) :: starEach [] X.env := by rfl) (hpl : (backTo pos (starEach [] X.env)).any (·.1) = false := by rfl) :
    VX X (.Call (.Name "str" q) [a] [] pos) σ H (.str (SX.S (TL.numL i))) := VR.val (vr_callTy1 call_str_int hm (by decide +kernel) ha.rel (fun H1 H2 x e1 e2 r Q k => by
  subst r
  refine ⟨_, rfl, ?_, ?_⟩
  · show ((i : Int).natAbs).log2 < 1920
    rw [Int.natAbs_natCast]
    by_cases h0 : i = 0
    · subst h0
      decide
    · exact Nat.lt_of_lt_of_le ((Nat.log2_lt h0).mpr hz) (by decide)
  · exact k _ H2 (Ex.refl _) (by rw [← SX.num_S] <;> rfl)) hg (by decide) (by decide) hs hpl)
end
end K75
/-! own words, further: slices, methods of texts, new lists, comprehensions -/
namespace K75
open PySem PySem.Spec PyProof.Rows L2 Evl
theorem cutV_to (xs : List V) (k : Nat) : cutV xs none (some (k : Int)) = xs.take k := by
  unfold cutV
  rw [HT.sIx_none, HT.sIx_nat, List.drop_zero, Nat.sub_zero]
  by_cases h : k ≤ xs.length
  · rw [Nat.min_eq_left h]
  · rw [Nat.min_eq_right (by omega), List.take_length, List.take_of_length_le (by omega)]
theorem cutV_from (xs : List V) (k : Nat) : cutV xs (some (k : Int)) none = xs.drop k := by
  unfold cutV
  rw [HT.sIx_none, HT.sIx_nat]
  by_cases h : k ≤ xs.length
  · rw [Nat.min_eq_left h]
    exact List.take_of_length_le (by rw [List.length_drop]; omega)
  · rw [Nat.min_eq_right (by omega), List.drop_length, List.drop_of_length_le (by omega)]
    simp
theorem cutV_mid (xs : List V) (k l : Nat) (h : k ≤ xs.length) : cutV xs (some (k : Int)) (some (l : Int)) = (xs.drop k).take (l - k) := by
  unfold cutV
  rw [HT.sIx_nat, HT.sIx_nat, Nat.min_eq_left h]
  by_cases h2 : l ≤ xs.length
  · rw [Nat.min_eq_left h2]
  · rw [Nat.min_eq_right (by omega), List.take_of_length_le (by rw [List.length_drop]; omega), List.take_of_length_le (by rw [List.length_drop]; omega)]
section
variable {X : Cx} {a b c e : Expr} {es : List Expr} {σ : L2.St} {H : Hp} {v x y z : V} {vs xs ys : List V} {r r' : R2} {pos p2 apos cpos q : Pos} {p : Addr} {n : Str}
/-! #### slices -/
theorem vl_to {k : Nat} (ha : VS X a σ H xs) (hb : VX X b σ H (.int (k : Int))) : VL X (.Subscript a (.Slice none (some b) none p2) pos) σ H (xs.take k) := vl_of (pe_slice sl_list pe_w po_none (po_some pe_w)) fun H1 e1 Q kk => ha H1 e1 _ fun u H2 e2 r => hb H2 (e1.trans e2) _ fun H3 e3 => by
  obtain ⟨p, rfl, hp⟩ := r
  refine ⟨(k : Int), rfl, p, xs, rfl, ex_l e3 hp, fun l hl => ?_⟩
  rw [cutV_to]
  exact kk l _ (fresh_back (e2.trans e3) hl) ((e2.trans e3).trans (Ex.new hl)) upd_same
theorem vl_from {k : Nat} (ha : VS X a σ H xs) (hb : VX X b σ H (.int (k : Int))) : VL X (.Subscript a (.Slice (some b) none none p2) pos) σ H (xs.drop k) := vl_of (pe_slice sl_list pe_w (po_some pe_w) po_none) fun H1 e1 Q kk => ha H1 e1 _ fun u H2 e2 r => hb H2 (e1.trans e2) _ fun H3 e3 => by
  obtain ⟨p, rfl, hp⟩ := r
  refine ⟨(k : Int), rfl, p, xs, rfl, ex_l e3 hp, fun l hl => ?_⟩
  rw [cutV_from]
  exact kk l _ (fresh_back (e2.trans e3) hl) ((e2.trans e3).trans (Ex.new hl)) upd_same
theorem vl_mid {k l : Nat} (ha : VS X a σ H xs) (hb : VX X b σ H (.int (k : Int))) (hc : VX X c σ H (.int (l : Int))) (h : k ≤ xs.length) : VL X (.Subscript a (.Slice (some b) (some c) none p2) pos) σ H ((xs.drop k).take (l - k)) := vl_of (pe_slice sl_list pe_w (po_some pe_w) (po_some pe_w)) fun H1 e1 Q kk => ha H1 e1 _ fun u H2 e2 r => hb H2 (e1.trans e2) _ fun H3 e3 => ⟨(k : Int), rfl, hc H3 ((e1.trans e2).trans e3) _ fun H4 e4 => by
  obtain ⟨p, rfl, hp⟩ := r
  refine ⟨(l : Int), rfl, p, xs, rfl, ex_l (e3.trans e4) hp, fun m hl => ?_⟩
  rw [cutV_mid xs k l h]
  exact kk m _ (fresh_back ((e2.trans e3).trans e4) hl) (((e2.trans e3).trans e4).trans (Ex.new hl)) upd_same⟩
theorem vl_rev {k : Nat} {p1 p3 p4 : Pos} (ha : VS X a σ H xs) : VL X (.Subscript a (.Slice none none (some (.UnaryOp .USub (.Constant (.int 1) k p1) p3)) p4) pos) σ H xs.reverse := vl_of (pe_revL pe_w) fun H1 e1 Q kk => ha H1 e1 _ fun u H2 e2 r => by
  obtain ⟨p, rfl, hp⟩ := r
  exact ⟨p, xs, rfl, hp, fun l hl => kk l _ (fresh_back e2 hl) (e2.trans (Ex.new hl)) upd_same⟩
theorem v_toS {t : List Nat} {k : Nat} (ha : VX X a σ H (.str (SX.S t))) (hb : VX X b σ H (.int (k : Int))) (hz : t.length ≤ 1000000) : VX X (.Subscript a (.Slice none (some b) none p2) pos) σ H (.str (SX.S (t.take k))) := v_of (pe_slice C8.sl_txt pe_w po_none (po_some pe_w)) fun H1 e1 Q kk => ha H1 e1 _ fun H2 e2 => hb H2 (e1.trans e2) _ fun H3 e3 => by
  refine ⟨(k : Int), rfl, SX.S t, rfl, by rw [SX.S_len, sizeLine_eq]; omega, ?_⟩
  rw [SX.slice_to (by omega), Int.toNat_natCast]
  exact kk _ (e2.trans e3)
theorem v_fromS {t : List Nat} {k : Nat} (ha : VX X a σ H (.str (SX.S t))) (hb : VX X b σ H (.int (k : Int))) (hz : t.length ≤ 1000000) : VX X (.Subscript a (.Slice (some b) none none p2) pos) σ H (.str (SX.S (t.drop k))) := v_of (pe_slice C8.sl_txt pe_w (po_some pe_w) po_none) fun H1 e1 Q kk => ha H1 e1 _ fun H2 e2 => hb H2 (e1.trans e2) _ fun H3 e3 => by
  refine ⟨(k : Int), rfl, SX.S t, rfl, by rw [SX.S_len, sizeLine_eq]; omega, ?_⟩
  rw [SX.slice_from (by omega), Int.toNat_natCast]
  exact kk _ (e2.trans e3)
/-! #### split, join -/
def txts (ts : List (List Nat)) : List V := ts.map fun t => V.str (SX.S t)
theorem txts_map (ts : List (List Nat)) : txts ts = (ts.map SX.S).map V.str := by
  unfold txts
  rw [List.map_map] <;> rfl
theorem txts_len (ts : List (List Nat)) : (txts ts).length = ts.length := List.length_map _
theorem vl_split {t : List Nat} {s : Nat} (ha : VX X a σ H (.str (SX.S t))) (hb : VX X b σ H (.str (SX.S [s]))) (hs : s < 256) (hz : t.length ≤ 1000000) (hs1 : starEach [b] X.env = [(false, eval b X.env)] := by rfl) (hbase : attributeBase a "split" X.env (eval a X.env) = eval a X.env := by rfl) (hline : (apos.endLine == pos.line) = true := by rfl) :
    VL X (.Call (.Attribute a "split" apos) [b] [] pos) σ H (txts (TL.spl [s] 0 [] t)) := vl_of (pe_split pe_w pe_w hs1 hbase hline) fun H1 e1 Q kk => ha H1 e1 _ fun H2 e2 => ⟨⟨_, rfl⟩, hb H2 (e1.trans e2) _ fun H3 e3 => by
  refine ⟨_, _, rfl, rfl, rfl, by rw [SX.S_len, sizeLine_eq]; omega, fun l hl => ?_⟩
  rw [SX.split_S (by simp) (by simp [hs]), ← txts_map]
  exact kk l _ (fresh_back (e2.trans e3) hl) ((e2.trans e3).trans (Ex.new hl)) upd_same⟩
theorem v_join {s : List Nat} {ts : List (List Nat)} (ha : VX X a σ H (.str (SX.S s))) (hb : VS X b σ H (txts ts)) (hz : (ts.map (·.length)).sum + ts.length * s.length ≤ 16777216) (hs1 : starEach [b] X.env = [(false, eval b X.env)] := by rfl) (hbase : attributeBase a "join" X.env (eval a X.env) = eval a X.env := by rfl)
    (hline : (apos.endLine == pos.line) = true := by rfl) : VX X (.Call (.Attribute a "join" apos) [b] [] pos) σ H (.str (SX.S (TL.joinL s ts))) := v_of (pe_join pe_w pe_w hs1 hbase hline) fun H1 e1 Q kk => ha H1 e1 _ fun H2 e2 => ⟨⟨_, rfl⟩, hb H2 (e1.trans e2) _ fun u H3 e3 r => by
  obtain ⟨p, rfl, hp⟩ := r
  refine ⟨_, p, ts.map SX.S, rfl, rfl, .inl (by rw [← txts_map]; exact hp), ?_, ?_⟩
  · rw [SX.lens, SX.S_len, List.length_map]
    exact hz
  · rw [SX.join_S]
    exact kk H3 (e2.trans e3)⟩
/-! #### new lists -/
theorem vl_disp (ha : VA X es σ H vs) (hz : vs.length ≤ 1000000) : VL X (.List es pos) σ H vs := vl_of (pe_lst pa_w) fun H1 e Q k => ha H1 e _ fun H2 e2 => ⟨by rw [sizeLine_eq]; omega, fun p hp => k p _ (fresh_back e2 hp) (e2.trans (Ex.new hp)) upd_same⟩
/-- [e, *xs] and the like: the items told by a relation -/
theorem vr_disp {R : List V → Hp → Hp → Prop} (ha : VAR X es σ H R) (hz : ∀ vs H1 H2, R vs H1 H2 → vs.length ≤ 1000000) : VR X (.List es pos) σ H (fun v H1 H3 => ∃ p vs H2, v = .ref p ∧ H1 p = none ∧ H2 p = none ∧ Ex H1 H2 ∧ R vs H1 H2 ∧ H3 = upd H2 p (.lst vs)) :=
  vr_of (pe_lst pa_w) fun H1 e Q k => ha H1 e _ fun vs H2 e2 r => ⟨by have := hz vs H1 H2 r; rw [sizeLine_eq]; omega, fun p hp => k _ _ (e2.trans (Ex.new hp)) ⟨p, vs, H2, rfl, fresh_back e2 hp, hp, e2, r, rfl⟩⟩
/-- *xs, .. -/
theorem va_star {sp : Pos} (ha : VS X a σ H xs) (hr : VA X es σ H vs) (hs : starEach (.Starred a sp :: es) X.env = (true, eval a X.env) :: starEach es X.env := by rfl) : VA X (.Starred a sp :: es) σ H (xs ++ vs) :=
  va_of (StX.pa_star pe_w pa_w hs) fun H1 e1 Q k => ha H1 e1 _ fun u H2 e2 r => by
    obtain ⟨p, rfl, hp⟩ := r
    exact ⟨p, xs, rfl, .inr hp, hr H2 (e1.trans e2) _ fun H3 e3 => k H3 (e2.trans e3)⟩
theorem vl_list (hm : X.mg "list" = none) (ha : VX X a σ H (.ref p)) (hx : SqL X.K H p xs ∨ SqT X.K H p xs) (hg : Gl X "list" := by rfl) (hs : starEach [a] X.env = (false, eval a X.env) :: starEach [] X.env := by rfl) (hpl : (backTo pos (starEach [] X.env)).any (·.1) = false := by rfl) :
    VL X (.Call (.Name "list" q) [a] [] pos) σ H xs := VR.lst (vr_callTy1 call_list_of hm (by decide +kernel) ha.rel (fun H1 H2 x e1 e2 r Q k => by
  subst r
  exact ⟨p, xs, rfl, hx.elim (fun h => .inl (ex_l (e1.trans e2) h)) (fun h => .inr (ex_t (e1.trans e2) h)), fun l hl => k _ _ (Ex.new hl) ⟨l, rfl, fresh_back e2 hl, upd_same⟩⟩) hg (by decide) (by decide) hs hpl)
/-- sorted(a list of ints) -/
theorem vr_sorted {ns : List Int} (hm : X.mg "sorted" = none) (ha : VS X a σ H (ns.map V.int)) (hg : Gl X "sorted" := by rfl) (hs : starEach [a] X.env = (false, eval a X.env) :: starEach [] X.env := by rfl) (hpl : (backTo pos (starEach [] X.env)).any (·.1) = false := by rfl) :
    VR X (.Call (.Name "sorted" q) [a] [] pos) σ H (fun v H1 H2 => ∃ (p : Addr) (ns' : List Int), v = .ref p ∧ H1 p = none ∧ H2 p = some (.lst (ns'.map V.int)) ∧ ns'.Perm ns ∧ ns'.Pairwise (· ≤ ·)) := vr_callB1 cr_sortedI hm (by decide +kernel) ha (fun H1 H2 x e1 e2 r Q k => by
  obtain ⟨p, rfl, hp⟩ := r
  exact ⟨p, ns, rfl, hp, fun ns' l h1 h2 hl => k _ _ (Ex.new hl) ⟨l, ns', rfl, fresh_back e2 hl, upd_same, h1, h2⟩⟩) hg (by decide) (by decide) hs hpl
/-! #### what is walked -/
/-- what stands in it, but dicts, stands as it was -/
def Keeps (H H' : Hp) : Prop := ∀ b u, H b = some u → (∀ kvs, u ≠ .dK kvs) → H' b = some u
theorem Keeps.of {H H' : Hp} (e : Ex H H') : Keeps H H' := fun b u h _ => e b u h
theorem keeps_l {K : PySem.W.Frag} {H H' : Hp} {p : Addr} {xs : List V} (k : Keeps H H') (h : SqL K H p xs) : SqL K H' p xs := by
  rcases h with (h | ⟨o, h⟩) | h
  · exact .inl (.inl (k _ _ h fun _ z => nomatch z))
  · exact .inl (.inr ⟨o, k _ _ h fun _ z => nomatch z⟩)
  · exact .inr h
theorem keeps_t {K : PySem.W.Frag} {H H' : Hp} {p : Addr} {xs : List V} (k : Keeps H H') (h : SqT K H p xs) : SqT K H' p xs := by
  rcases h with (h | ⟨o, h⟩) | h
  · exact .inl (.inl (k _ _ h fun _ z => nomatch z))
  · exact .inl (.inr ⟨o, k _ _ h fun _ z => nomatch z⟩)
  · exact .inr h
structure GOk (J : It) (n : Nat) (G : Hp → Prop) (Y : Nat → Hp → V → Hp → Prop) : Prop where
  walk : Walk J n G Y
  mono : ∀ H H', Keeps H H' → G H → G H'
def EvI (wi : TI) (σ : L2.St) (H : Hp) (n : Nat) (Y : Nat → Hp → V → Hp → Prop) : Prop := ∀ H1, Ex H H1 → ∀ R : It → Hp → Prop, (∀ J H2 (G : Hp → Prop), Ex H1 H2 → GOk J n G Y → G H2 → R J H2) → wi σ H1 R
def VI (X : Cx) (tg iter : Expr) (σ : L2.St) (H : Hp) (n : Nat) (Y : Nat → Hp → V → Hp → Prop) : Prop := ∃ wi, PI X tg iter wi ∧ EvI wi σ H n Y
variable {tg : Expr}
theorem vi_list (ha : VS X a σ H xs) : VI X tg a σ H xs.length (YAt xs) := ⟨_, pi_list pe_w, fun H1 e R k => ha H1 e _ fun u H2 e2 r => by
  obtain ⟨p, rfl, hp⟩ := r
  exact ⟨p, rfl, ⟨xs, hp⟩, k _ H2 _ e2 ⟨walk_list, fun _ _ kk h => keeps_l kk h⟩ hp⟩⟩
theorem vi_tup (ha : VX X a σ H (.ref p)) (hx : SqT X.K H p xs) : VI X tg a σ H xs.length (YAt xs) := ⟨_, pi_tup pe_w, fun H1 e R k => ha H1 e _ fun H2 e2 =>
  ⟨p, rfl, ⟨xs, ex_t (e.trans e2) hx⟩, k _ H2 _ e2 ⟨walk_tup, fun _ _ kk h => keeps_t kk h⟩ (ex_t (e.trans e2) hx)⟩⟩
theorem vi_range1 {k : Nat} (hm : X.mg "range" = none) (ha : VX X a σ H (.int (k : Int))) (hz : k ≤ 1000000) (hg : Gl X "range" := by rfl) (hs : starEach [a] X.env = [(false, eval a X.env)] := by rfl) (hs2 : starEach [a] X.env = (false, eval a X.env) :: starEach [] X.env := by rfl) :
    VI X tg (.Call (.Name "range" q) [a] [] pos) σ H k (YFn fun i => .int (i : Int)) := ⟨_, pi_range1 hg hm (pa_cons pe_w pa_nil hs2) hs, fun H1 e R kk => ha H1 e _ fun H2 e2 =>
  ⟨_, rfl, by omega, by omega, by
    rw [Int.toNat_natCast]
    exact kk _ H2 (fun _ => True) e2 ⟨Walk.mono walk_range (fun _ h => h) fun i H x H' _ _ y => ⟨y.1, y.2.trans (by show V.int (0 + (i : Int)) = V.int (i : Int); rw [Int.zero_add])⟩, fun _ _ _ h => h⟩ trivial⟩⟩
theorem vi_range2 {l k : Nat} (hm : X.mg "range" = none) (ha : VX X a σ H (.int (l : Int))) (hb : VX X b σ H (.int (k : Int))) (hz : k ≤ 1000000) (hl : l ≤ 1000000) (hg : Gl X "range" := by rfl) (hs : starEach [a, b] X.env = [(false, eval a X.env), (false, eval b X.env)] := by rfl) (hs2 : starEach [b] X.env = [(false, eval b X.env)] := by rfl)
    (hs3 : starEach [a, b] X.env = (false, eval a X.env) :: starEach [b] X.env := by rfl) (hs4 : starEach [b] X.env = (false, eval b X.env) :: starEach [] X.env := by rfl) :
    VI X tg (.Call (.Name "range" q) [a, b] [] pos) σ H (k - l) (YFn fun i => .int ((l + i : Nat) : Int)) := ⟨_, pi_range2 hg hm (pa_cons pe_w (pa_cons pe_w pa_nil hs4) hs3) hs hs2, fun H1 e R kk => ha H1 e _ fun H2 e2 => hb H2 (e.trans e2) _ fun H3 e3 =>
  ⟨_, _, rfl, ⟨by omega, by omega, by omega, by omega⟩, by
    have e5 : ((k : Int) - (l : Int)).toNat = k - l := by omega
    rw [e5]
    exact kk _ H3 (fun _ => True) (e2.trans e3) ⟨Walk.mono walk_range (fun _ h => h) fun i H x H' _ _ y => ⟨y.1, y.2.trans (by show V.int ((l : Int) + (i : Int)) = V.int ((l + i : Nat) : Int); rw [Int.natCast_add])⟩, fun _ _ _ h => h⟩ trivial⟩⟩
theorem vi_str {t : List Nat} (ha : VX X a σ H (.str (SX.S t))) : VI X tg a σ H t.length (YFn fun i => .str (SX.S [t.getD i 0])) := ⟨_, pi_str pe_w, fun H1 e R k => ha H1 e _ fun H2 e2 =>
  ⟨_, rfl, k _ H2 (fun _ => True) e2 ⟨by
    have w := walk_str (z := SX.S t)
    have e3 : (SX.S t).cps.size = t.length := by simp [SX.S]
    rw [e3] at w
    refine Walk.mono w (fun _ h => h) fun i H x H' hi _ y => ⟨y.1, ?_⟩
    obtain ⟨_, c, hc, hv⟩ := y
    have hc2 : t[i]? = some c := by simpa [SX.S] using hc
    have hc3 : t.getD i 0 = c := by rw [List.getD_eq_getElem?_getD, hc2] <;> rfl
    show x = V.str (SX.S [t.getD i 0])
    rw [hc3, hv], fun _ _ _ h => h⟩ trivial⟩⟩
theorem vi_zip {elts : List Expr} {kk : Nat} {tpos : Pos} (hm : X.mg "zip" = none) (ha : VS X a σ H xs) (hb : VS X b σ H ys) (hg : Gl X "zip" := by rfl) (hs : starEach [a, b] X.env = (false, eval a X.env) :: starEach [b] X.env := by rfl) (hs2 : starEach [b] X.env = (false, eval b X.env) :: starEach [] X.env := by rfl)
    (hpl : (backTo pos (starEach [b] X.env)).any (·.1) = false := by rfl) : VI X (.Tuple elts kk tpos) (.Call (.Name "zip" q) [a, b] [] pos) σ H (min xs.length ys.length) (YPair (fun i => xs[i]?) (fun i => ys[i]?)) := ⟨_, pi_zip hg hm (pa_cons pe_w (pa_cons pe_w pa_nil hs2) hs) hs hpl, fun H1 e R k => ha H1 e _ fun u H2 e2 r => hb H2 (e.trans e2) _ fun u' H3 e3 r' => by
  obtain ⟨p, rfl, hp⟩ := r
  obtain ⟨p', rfl, hp'⟩ := r'
  exact ⟨p, p', xs, ys, rfl, ex_l e3 hp, hp', k _ H3 _ (e2.trans e3) ⟨walk_zip rfl, fun _ _ kk h => ⟨keeps_l kk h.1, keeps_l kk h.2⟩⟩ ⟨ex_l e3 hp, hp'⟩⟩⟩
theorem vi_enumF {elts : List Expr} {kk : Nat} {tpos : Pos} {k : Nat} (hm : X.mg "enumerate" = none) (ha : VS X a σ H xs) (hb : VX X b σ H (.int (k : Int))) (hk : k < 1000) (hg : Gl X "enumerate" := by rfl) (hs : starEach [a, b] X.env = (false, eval a X.env) :: starEach [b] X.env := by rfl) (hs2 : starEach [b] X.env = (false, eval b X.env) :: starEach [] X.env := by rfl)
    (hpl : (backTo pos (starEach [b] X.env)).any (·.1) = false := by rfl) : VI X (.Tuple elts kk tpos) (.Call (.Name "enumerate" q) [a, b] [] pos) σ H xs.length (YPair (fun i => some (.int ((k + i : Nat) : Int))) (fun i => xs[i]?)) := ⟨_, pi_enumF hg hm (pa_cons pe_w (pa_cons pe_w pa_nil hs2) hs) hs hpl, fun H1 e R kk => ha H1 e _ fun u H2 e2 r => hb H2 (e.trans e2) _ fun H3 e3 => by
  obtain ⟨p, rfl, hp⟩ := r
  refine ⟨p, xs, (k : Int), rfl, ex_l e3 hp, by omega, by omega, kk _ H3 (fun H => SqL X.K H p xs) (e2.trans e3) ⟨?_, fun _ _ k' h => keeps_l k' h⟩ (ex_l e3 hp)⟩
  refine Walk.mono walk_enumF (fun _ h => h) fun i H x H' _ _ y => ?_
  obtain ⟨T, x', y', h1, h2, h3, h4, h5⟩ := y
  exact ⟨T, x', y', h1, h2, h3, by show some (V.int ((k + i : Nat) : Int)) = some x'; rw [Int.natCast_add]; exact h4, h5⟩⟩
end
end K75
/-! own words, further: comprehensions, statements, own defs -/
namespace K75
open PySem PySem.Spec PyProof.Rows L2 Evl
/-! ### comprehensions -/
theorem YFn.ex {f : Nat → V} {i : Nat} {H H' : Hp} {x : V} (y : YFn f i H x H') : Ex H H' := by
  rw [y.1]
  exact Ex.refl H
theorem YAt.ex {xs : List V} {i : Nat} {H H' : Hp} {x : V} (y : YAt xs i H x H') : Ex H H' := by
  rw [y.1]
  exact Ex.refl H
theorem YPair.ex {f g : Nat → Option V} {i : Nat} {H H' : Hp} {x : V} (y : YPair f g i H x H') : Ex H H' := by
  obtain ⟨T, a, b, _, h, h2, _⟩ := y
  rw [h2]
  exact Ex.new h
def atF {α : Type} (zs : List α) (g : α → V) (i : Nat) : V := match zs[i]? with
  | some z => g z
  | none => .non
def atB {α : Type} (zs : List α) (p : α → Bool) (i : Nat) : Bool := match zs[i]? with
  | some z => p z
  | none => false
theorem given_at {α : Type} (p : α → Bool) (g : α → V) : ∀ (zs : List α), given zs.length (atB zs p) (atF zs g) = (zs.filter p).map g := by
  intro zs
  have key : ∀ k, k ≤ zs.length → given k (atB zs p) (atF zs g) = ((zs.take k).filter p).map g := by
    intro k
    induction k with
    | zero =>
      intro _
      rfl
    | succ k ih =>
      intro hk
      have hlt : k < zs.length := by omega
      have e : zs.take (k + 1) = zs.take k ++ [zs[k]] := by rw [List.take_succ, List.getElem?_eq_getElem hlt] <;> rfl
      have hb : atB zs p k = p zs[k] := by
        unfold atB
        rw [List.getElem?_eq_getElem hlt]
      have hf : atF zs g k = g zs[k] := by
        unfold atF
        rw [List.getElem?_eq_getElem hlt]
      rw [e, List.filter_append, List.map_append, ← ih (by omega)]
      cases hp : p zs[k] with
      | true =>
        rw [given_yes (by rw [hb]; exact hp), hf]
        simp [List.filter_cons, hp]
      | false =>
        rw [given_no (by rw [hb]; exact hp)]
        simp [List.filter_cons, hp]
  rw [key zs.length (Nat.le_refl _), List.take_length]
theorem given_all {n : Nat} {f : Nat → Bool} {v : Nat → V} (h : ∀ i, i < n → f i = true) : given n f v = (List.range n).map v := by
  unfold given
  rw [List.filter_eq_self.mpr fun i hi => h i (List.mem_range.mp hi)]
theorem range_at {α : Type} (zs : List α) (g : α → V) : (List.range zs.length).map (atF zs g) = zs.map g := by
  apply List.ext_getElem?
  intro i
  rw [List.getElem?_map, List.getElem?_map]
  by_cases h : i < zs.length
  · rw [List.getElem?_range h]
    show some (atF zs g i) = _
    unfold atF
    rw [List.getElem?_eq_getElem h] <;> rfl
  · rw [List.getElem?_eq_none (by simpa using h), List.getElem?_eq_none (by omega)] <;> rfl
section
variable {X : Cx} {elt tg iter : Expr} {scope : Scope} {own : List (Str × Nat)} {pos : Pos} {σ : L2.St} {H : Hp} {n : Nat} {Y : Nat → Hp → V → Hp → Prop} {g : TG}
/-- the block's contexts, all at once -/
def bE (X : Cx) (scope : Scope) (e : Expr) : TE := fun σ H Q => ∀ (s : Shared) (H0 : Hp) (C : Addr) (cl : List (Str × Addr)) (fp : List Addr), wE (X.blk s H0 scope (compEnvC scope cl C X.env) fp) e σ H Q
def bT (X : Cx) (scope : Scope) (e : Expr) : TT := fun σ H Q => ∀ (s : Shared) (H0 : Hp) (C : Addr) (cl : List (Str × Addr)) (fp : List Addr), wT (X.blk s H0 scope (compEnvC scope cl C X.env) fp) e σ H Q
theorem lc_go {f : Nat → Bool} {v : Nat → V} {wi : TI} {tt : TT} {te : TE} {vs : List Nat} (τ : Nat → L2.St) (hi : EvI wi σ H n Y) (hY : ∀ i H x H', Y i H x H' → Ex H H') (hn : n ≤ 40000) (hw : ∀ i, i < n → wipe (τ i) vs = wipe σ vs)
    (hg : ∀ i x H' H'', Ex H H' → i < n → Y i H' x H'' → ∀ Q : L2.St → Hp → Prop, Q (τ i) H'' → g x (wipe σ vs) H'' Q) (ht : ∀ i, i < n → EvT tt (τ i) H (f i)) (he : ∀ i, i < n → f i = true → Ev te (τ i) H (v i)) :
    EvL (tLc wi g tt te vs) σ H (given n f v) := fun H0 e Q q => hi H0 e _ fun J H1 G e1 gk hG D hD => lc_it gk.walk (fun i H' => Cw H1 f v D i H' ∧ G H') ⟨⟨hD, Ex.new hD, upd_same⟩, gk.mono _ _ (Keeps.of (Ex.new hD)) hG⟩ (fun _ _ _ h => h.2) (fun i x H2 H3 hlt hp hy => by
    obtain ⟨⟨p1, p2, p3⟩, pg⟩ := hp
    have eY := hY _ _ _ _ hy
    refine hg i x H2 H3 ((e.trans e1).trans p2) hlt hy _ ⟨hw i hlt, ?_⟩
    have p' : Cw H1 f v D i H3 := ⟨p1, p2.trans eY, eY _ _ p3⟩
    have gG : G H3 := gk.mono _ _ (Keeps.of eY) pg
    refine (ht i hlt) H3 ((e.trans e1).trans (p2.trans eY)) _ fun H4 e4 => ?_
    cases hf : f i with
    | true =>
      show te (τ i) H4 fun y H5 => ∃ acc, H5 D = some (.lst acc) ∧ acc.length < sizeLine ∧ Cw H1 f v D (i + 1) (upd H5 D (.lst (acc ++ [y]))) ∧ G (upd H5 D (.lst (acc ++ [y])))
      refine he i hlt hf H4 (((e.trans e1).trans (p2.trans eY)).trans e4) _ fun H5 e5 => ⟨given i f v, e5 D _ (e4 D _ p'.2.2), sz_lt (by have := given_len i f v; omega), ⟨p1, Ex.mut (((p2.trans eY).trans e4).trans e5) p1, ?_⟩, ?_⟩
      · rw [given_yes hf]
        exact upd_same
      · refine gk.mono H1 _ (Keeps.of (Ex.mut (((p2.trans eY).trans e4).trans e5) p1)) hG
    | false =>
      show Cw H1 f v D (i + 1) H4 ∧ G H4
      refine ⟨⟨p1, (p2.trans eY).trans e4, ?_⟩, gk.mono _ _ (Keeps.of e4) gG⟩
      rw [given_no hf]
      exact e4 D _ p'.2.2) fun H' p => q D H' (fresh_back e1 p.1.1) (e1.trans p.1.2.1) p.1.2.2
/-- [elt for tg in iter] -/
theorem vl_lc {v : Nat → V} (τ : Nat → L2.St) (hc : X.calm = true) (nd : X.N.Nodup) (hi : VI X tg iter σ H n Y) (hY : ∀ i H x H', Y i H x H' → Ex H H') (hn : n ≤ 40000) (ok : BlkOk X.N X.env.scope scope own)
    (hgT : ∀ (s : Shared) (H : Hp) (C : Addr) (cl : List (Str × Addr)) (fp : List Addr), PG (X.blk s H scope (compEnvC scope cl C X.env) fp) tg g) (hw : ∀ i, i < n → wipe (τ i) (own.map (·.2)) = wipe σ (own.map (·.2)))
    (hg : ∀ i x H' H'', Ex H H' → i < n → Y i H' x H'' → ∀ Q : L2.St → Hp → Prop, Q (τ i) H'' → g x (wipe σ (own.map (·.2))) H'' Q)
    (he : ∀ (s : Shared) (H0 : Hp) (C : Addr) (cl : List (Str × Addr)) (fp : List Addr) i, i < n → VX (X.blk s H0 scope (compEnvC scope cl C X.env) fp) elt (τ i) H (v i)) (hs : ∀ x, foldedSetIterable iter X.env x = pure x := by intro _; rfl) :
    VL X (.ListComp elt [⟨tg, iter, [], 0⟩] scope pos) σ H ((List.range n).map v) := by
  obtain ⟨wi, hpi, hev⟩ := hi
  refine VL.is (vl_of (pe_lc (te := bE X scope elt) hc nd hpi ok hgT (fun _ _ _ _ _ => pts_nil) (fun s H0 C cl fp => ⟨fun pins s' σ' H' Q I h => h s H0 C cl fp pins s' I⟩) hs) (lc_go (f := fun _ => true) (v := v) τ hev hY hn hw hg (fun _ _ H1 _ Q q => q H1 (Ex.refl _)) (fun i h _ H1 e1 Q q => fun s H0 C cl fp => he s H0 C cl fp i h H1 e1 Q q))) (given_all fun _ _ => rfl)
/-- [elt for tg in iter if t] -/
theorem vl_lcIf {c : Expr} {f : Nat → Bool} {v : Nat → V} (τ : Nat → L2.St) (hc : X.calm = true) (nd : X.N.Nodup) (hi : VI X tg iter σ H n Y) (hY : ∀ i H x H', Y i H x H' → Ex H H') (hn : n ≤ 40000) (ok : BlkOk X.N X.env.scope scope own)
    (hgT : ∀ (s : Shared) (H : Hp) (C : Addr) (cl : List (Str × Addr)) (fp : List Addr), PG (X.blk s H scope (compEnvC scope cl C X.env) fp) tg g) (hw : ∀ i, i < n → wipe (τ i) (own.map (·.2)) = wipe σ (own.map (·.2)))
    (hg : ∀ i x H' H'', Ex H H' → i < n → Y i H' x H'' → ∀ Q : L2.St → Hp → Prop, Q (τ i) H'' → g x (wipe σ (own.map (·.2))) H'' Q)
    (ht : ∀ (s : Shared) (H0 : Hp) (C : Addr) (cl : List (Str × Addr)) (fp : List Addr) i, i < n → VT (X.blk s H0 scope (compEnvC scope cl C X.env) fp) c (τ i) H (f i))
    (he : ∀ (s : Shared) (H0 : Hp) (C : Addr) (cl : List (Str × Addr)) (fp : List Addr) i, i < n → f i = true → VX (X.blk s H0 scope (compEnvC scope cl C X.env) fp) elt (τ i) H (v i)) (hs : ∀ x, foldedSetIterable iter X.env x = pure x := by intro _; rfl) :
    VL X (.ListComp elt [⟨tg, iter, [c], 0⟩] scope pos) σ H (given n f v) := by
  obtain ⟨wi, hpi, hev⟩ := hi
  exact vl_of (pe_lc (te := bE X scope elt) (tt := bT X scope c) hc nd hpi ok hgT (fun s H0 C cl fp => pts_one ⟨fun pins s' σ' H' Q I h => h s H0 C cl fp pins s' I⟩) (fun s H0 C cl fp => ⟨fun pins s' σ' H' Q I h => h s H0 C cl fp pins s' I⟩) hs)
    (lc_go τ hev hY hn hw hg (fun i h H1 e1 Q q => fun s H0 C cl fp => ht s H0 C cl fp i h H1 e1 Q q) (fun i h hf H1 e1 Q q => fun s H0 C cl fp => he s H0 C cl fp i h hf H1 e1 Q q))
/-- over the items of a list told by zs: the target is the name of slot j -/
theorem vl_map {α : Type} {zs : List α} {f g' : α → V} {j : Nat} (hc : X.calm = true) (nd : X.N.Nodup) (hi : VI X tg iter σ H zs.length (YAt (zs.map f))) (hn : zs.length ≤ 40000) (ok : BlkOk X.N X.env.scope scope own)
    (hgT : ∀ (s : Shared) (H : Hp) (C : Addr) (cl : List (Str × Addr)) (fp : List Addr), PG (X.blk s H scope (compEnvC scope cl C X.env) fp) tg (gName j)) (hw : ∀ x, wipe ((wipe σ (own.map (·.2))).set j (some x)) (own.map (·.2)) = wipe σ (own.map (·.2)))
    (he : ∀ (s : Shared) (H0 : Hp) (C : Addr) (cl : List (Str × Addr)) (fp : List Addr) z, z ∈ zs → VX (X.blk s H0 scope (compEnvC scope cl C X.env) fp) elt ((wipe σ (own.map (·.2))).set j (some (f z))) H (g' z)) (hs : ∀ x, foldedSetIterable iter X.env x = pure x := by intro _; rfl) :
    VL X (.ListComp elt [⟨tg, iter, [], 0⟩] scope pos) σ H (zs.map g') := by
  refine VL.is (vl_lc (g := gName j) (v := atF zs g') (fun i => (wipe σ (own.map (·.2))).set j (some (atF zs f i))) hc nd hi (fun _ _ _ _ y => YAt.ex y) hn ok hgT (fun i _ => hw _) (fun i x H' H'' _ hlt y Q q => ?_) (fun s H0 C cl fp i hlt => ?_) hs) (range_at zs g')
  · have e1 : x = atF zs f i := by
      have h2 := y.2
      rw [List.getElem?_map, List.getElem?_eq_getElem hlt] at h2
      unfold atF
      rw [List.getElem?_eq_getElem hlt]
      exact (Option.some.inj h2).symm
    show Q ((wipe σ (own.map (·.2))).set j (some x)) H''
    rw [e1]
    exact q
  · have h1 := he s H0 C cl fp zs[i] (List.getElem_mem hlt)
    have e1 : atF zs f i = f zs[i] := by
      unfold atF
      rw [List.getElem?_eq_getElem hlt]
    have e2 : atF zs g' i = g' zs[i] := by
      unfold atF
      rw [List.getElem?_eq_getElem hlt]
    rw [e1, e2]
    exact h1
/-- .. with a test -/
theorem vl_filter {α : Type} {c : Expr} {zs : List α} {p : α → Bool} {f g' : α → V} {j : Nat} (hc : X.calm = true) (nd : X.N.Nodup) (hi : VI X tg iter σ H zs.length (YAt (zs.map f))) (hn : zs.length ≤ 40000) (ok : BlkOk X.N X.env.scope scope own)
    (hgT : ∀ (s : Shared) (H : Hp) (C : Addr) (cl : List (Str × Addr)) (fp : List Addr), PG (X.blk s H scope (compEnvC scope cl C X.env) fp) tg (gName j)) (hw : ∀ x, wipe ((wipe σ (own.map (·.2))).set j (some x)) (own.map (·.2)) = wipe σ (own.map (·.2)))
    (ht : ∀ (s : Shared) (H0 : Hp) (C : Addr) (cl : List (Str × Addr)) (fp : List Addr) z, z ∈ zs → VT (X.blk s H0 scope (compEnvC scope cl C X.env) fp) c ((wipe σ (own.map (·.2))).set j (some (f z))) H (p z))
    (he : ∀ (s : Shared) (H0 : Hp) (C : Addr) (cl : List (Str × Addr)) (fp : List Addr) z, z ∈ zs → p z = true → VX (X.blk s H0 scope (compEnvC scope cl C X.env) fp) elt ((wipe σ (own.map (·.2))).set j (some (f z))) H (g' z)) (hs : ∀ x, foldedSetIterable iter X.env x = pure x := by intro _; rfl) :
    VL X (.ListComp elt [⟨tg, iter, [c], 0⟩] scope pos) σ H ((zs.filter p).map g') := by
  have at1 : ∀ {i : Nat} (hlt : i < zs.length) (h : α → V), atF zs h i = h zs[i] := fun {i} hlt h => by
    unfold atF
    rw [List.getElem?_eq_getElem hlt]
  have at2 : ∀ {i : Nat} (hlt : i < zs.length), atB zs p i = p zs[i] := fun {i} hlt => by
    unfold atB
    rw [List.getElem?_eq_getElem hlt]
  refine VL.is (vl_lcIf (g := gName j) (f := atB zs p) (v := atF zs g') (fun i => (wipe σ (own.map (·.2))).set j (some (atF zs f i))) hc nd hi (fun _ _ _ _ y => YAt.ex y) hn ok hgT (fun i _ => hw _) (fun i x H' H'' _ hlt y Q q => ?_) (fun s H0 C cl fp i hlt => ?_) (fun s H0 C cl fp i hlt hf => ?_) hs) (given_at p g' zs)
  · have e1 : x = atF zs f i := by
      have h2 := y.2
      rw [List.getElem?_map, List.getElem?_eq_getElem hlt] at h2
      rw [at1 hlt]
      exact (Option.some.inj h2).symm
    show Q ((wipe σ (own.map (·.2))).set j (some x)) H''
    rw [e1]
    exact q
  · rw [at1 hlt, at2 hlt]
    exact ht s H0 C cl fp zs[i] (List.getElem_mem hlt)
  · rw [at1 hlt, at1 hlt]
    exact he s H0 C cl fp zs[i] (List.getElem_mem hlt) (by rw [← at2 hlt]; exact hf)
/-- what numbers the turns as the items of a list -/
theorem VI.at_ {f : Nat → V} {xs : List V} (h : VI X tg iter σ H n (YFn f)) (hl : xs.length = n) (hx : ∀ i, i < n → xs[i]? = some (f i)) : VI X tg iter σ H xs.length (YAt xs) := by
  obtain ⟨wi, p, q⟩ := h
  subst hl
  refine ⟨wi, p, fun H1 e R k => q H1 e R fun J H2 G e2 gk hG => k J H2 G e2 ⟨Walk.mono gk.walk (fun _ h => h) fun i H x H' hi _ y => ⟨y.1, ?_⟩, gk.mono⟩ hG⟩
  rw [hx i hi, y.2]
end
end K75
/-! own words, further: own defs, statements, loops -/
namespace K75
open PySem PySem.Spec PyProof.Rows L2 Evl
section
variable {X : Cx} {tg iter : Expr} {σ : L2.St} {H : Hp} {n : Nat}
theorem VI.cast {k : Nat} {Y : Nat → Hp → V → Hp → Prop} (h : VI X tg iter σ H n Y) (e : n = k) : VI X tg iter σ H k Y := by
  subst e
  exact h
theorem VI.rg {f : Nat → V} (h : VI X tg iter σ H n (YFn f)) : VI X tg iter σ H (List.range n).length (YAt ((List.range n).map f)) :=
  (VI.at_ (xs := (List.range n).map f) h (by simp) (fun i hi => by rw [List.getElem?_map, List.getElem?_range hi] <;> rfl)).cast (by simp)
theorem VI.sg {t : List Nat} {f : Nat → V} (h : VI X tg iter σ H t.length (YFn fun i => f (t.getD i 0))) : VI X tg iter σ H t.length (YAt (t.map f)) :=
  (VI.at_ (xs := t.map f) h (by simp) (fun i hi => by rw [List.getElem?_map, List.getD_eq_getElem?_getD, List.getElem?_eq_getElem hi] <;> rfl)).cast (by simp)
end
/-! ### promises -/
/-- arguments f a, where pre holds; the answer and the heap behind it told by R; nothing that stood is changed -/
def SpR {α : Type} (f : α → List V) (pre : α → Hp → Prop) (R : α → V → Hp → Hp → Prop) : Sp := fun vs H Q _ => ∃ a, vs = f a ∧ pre a H ∧ ∀ v H', Ex H H' → R a v H H' → Q v H'
/-- .. that may raise: B tells the class, the dict, the heap -/
def SpX {α : Type} (f : α → List V) (pre : α → Hp → Prop) (R : α → V → Hp → Hp → Prop) (B : α → Value → Option Addr → Hp → Hp → Prop) : Sp := fun vs H Q E => ∃ a, vs = f a ∧ pre a H ∧ (∀ v H', Ex H H' → R a v H H' → Q v H') ∧ ∀ c d H', Ex H H' → B a c d H H' → E c d H'
structure CalX (P : Program) (w : World) (K : PySem.W.Frag) (mg : Str → Option Value) (base : Heap) (CX : CXT) (k : Nat) (d : Df) (ps : List Str) (sp : Sp) : Prop where
  ex : ∃ fd, Fun K d.name d.qual d.st (d.ad K) fd ∧ Binds K fd ps [] ∧ FnOk P w K mg base CX k (d.ad K) fd ps sp
theorem CalX.mono {P : Program} {w : World} {K : PySem.W.Frag} {mg : Str → Option Value} {base : Heap} {CX : CXT} {j k : Nat} {d : Df} {ps : List Str} {sp : Sp} (c : CalX P w K mg base CX j d ps sp) (h : j ≤ k) : CalX P w K mg base CX k d ps sp :=
  let ⟨fd, a, b, f⟩ := c.ex; ⟨fd, a, b, f.mono h⟩
theorem CalX.imp {P : Program} {w : World} {K : PySem.W.Frag} {mg : Str → Option Value} {base : Heap} {CX : CXT} {k : Nat} {d : Df} {ps : List Str} {sp sp' : Sp} (c : CalX P w K mg base CX k d ps sp) (h : ∀ vs H Q E, sp' vs H Q E → sp vs H Q E) : CalX P w K mg base CX k d ps sp' :=
  let ⟨fd, a, b, f⟩ := c.ex; ⟨fd, a, b, f.imp h⟩
/-- the context of a def's body -/
abbrev Cx0 (P : Program) (w : World) (K : PySem.W.Frag) (mg : Str → Option Value) (base : Heap) (d : Df) (N : List Str) (cdv : Value) (A : Around) (outer : List Env) (s : Shared) (H : Hp) (E : XK) : Cx := (cxOf CX0 P w K mg base N d.qual (defScope d.st) (d.ad K) cdv A outer s H E).nox
abbrev CxX (CX : CXT) (P : Program) (w : World) (K : PySem.W.Frag) (mg : Str → Option Value) (base : Heap) (d : Df) (N : List Str) (cdv : Value) (A : Around) (outer : List Env) (s : Shared) (H : Hp) (E : XK) : Cx := cxOf CX P w K mg base N d.qual (defScope d.st) (d.ad K) cdv A outer s H E
section
variable {P : Program} {w : World} {K : PySem.W.Frag} {mg : Str → Option Value} {base : Heap}
/-- a def that raises nothing -/
theorem CalX.of0 {d : Df} {N ps : List Str} {k : Nat} {sp : Sp} (F : ∃ fd, Fun K d.name d.qual d.st (d.ad K) fd) (hb : ∀ fd, Fun K d.name d.qual d.st (d.ad K) fd → Binds K fd ps []) (S : FnScope N ps (defScope d.st)) (len : ∀ vs H Q E, sp vs H Q E → vs.length = ps.length)
    (body : ∀ (cdv : Value) (A : Around) (outer : List Env) (s : Shared) (H : Hp) (vs : List V) (Q : VK) (E : XK), Room k (Cx0 P w K mg base d N cdv A outer s H E).A → sp vs H Q E → wSs (Cx0 P w K mg base d N cdv A outer s H E) (defBody d.st) { nx := fun _ H' => Q .non H', rt := Q } (start N vs) H) :
    CalX P w K mg base CX0 (k + 1) d ps sp := by
  obtain ⟨fd, F⟩ := F
  exact ⟨fd, F, hb fd F, F.ok S len fun cdv A outer s H vs Q E hr h => ⟨_, ps_w, body cdv A outer s H vs Q E hr h⟩⟩
theorem CalX.ofX {CX : CXT} {d : Df} {N ps : List Str} {k : Nat} {sp : Sp} (F : ∃ fd, Fun K d.name d.qual d.st (d.ad K) fd) (hb : ∀ fd, Fun K d.name d.qual d.st (d.ad K) fd → Binds K fd ps []) (S : FnScope N ps (defScope d.st)) (len : ∀ vs H Q E, sp vs H Q E → vs.length = ps.length)
    (body : ∀ (cdv : Value) (A : Around) (outer : List Env) (s : Shared) (H : Hp) (vs : List V) (Q : VK) (E : XK), Room k (CxX CX P w K mg base d N cdv A outer s H E).A → sp vs H Q E → wSs (CxX CX P w K mg base d N cdv A outer s H E) (defBody d.st) { nx := fun _ H' => Q .non H', rt := Q } (start N vs) H) :
    CalX P w K mg base CX (k + 1) d ps sp := by
  obtain ⟨fd, F⟩ := F
  refine ⟨fd, F, hb fd F, ?_⟩
  obtain ⟨oc, od, kV, doc, pm, an, cdv, ct, osl, rfl, lk, hcd⟩ := F.ex
  exact fn_of lk hcd S len fun A outer s H vs Q E hr h => ⟨_, ps_w, body cdv A outer s H vs Q E hr h⟩
end
section
variable {X : Cx} {d : Df} {k j : Nat} {ps : List Str} {sp : Sp} {e : Expr} {es : List Expr} {σ : L2.St} {H : Hp} {x : Str} {p pos : Pos} {v : V} {vs : List V}
/-- the call of a def that raises nothing -/
theorem pe_c0 {t : TA} (c : CalX X.prog X.w X.K X.mg X.base CX0 k d ps sp) (hr : Room j X.A) (hk : k ≤ j) (hm : X.mg x = some (.ref (d.ad X.K))) (ha : PA X (e :: es) t) (hg : Gl X x := by rfl) (hdb : (x == ("__debug__" : Str)) = false := by decide)
    (he : starEach (e :: es) X.env = (false, eval e X.env) :: starEach es X.env := by rfl) (hpl : (backTo pos (starEach es X.env)).any (·.1) = false := by rfl) : PE X (.Call (.Name x p) (e :: es) [] pos) (tCall sp [] E0 t) :=
  let ⟨_, F, b, G⟩ := c.ex; pe_call G (hr.mono hk) hg hm F.kp b .nil pass0 ha hdb he hpl
theorem pe_c00 (c : CalX X.prog X.w X.K X.mg X.base CX0 k d ps sp) (hr : Room j X.A) (hk : k ≤ j) (hm : X.mg x = some (.ref (d.ad X.K))) (hg : Gl X x := by rfl) (hdb : (x == ("__debug__" : Str)) = false := by decide) : PE X (.Call (.Name x p) [] [] pos) (tCall sp [] E0 tNil) :=
  let ⟨_, F, b, G⟩ := c.ex; pe_call0 G (hr.mono hk) hg hm F.kp b .nil pass0 hdb
theorem vr_call {α : Type} {f : α → List V} {pre : α → Hp → Prop} {R : α → V → Hp → Hp → Prop} (a : α) (c : CalX X.prog X.w X.K X.mg X.base CX0 k d ps (SpR f pre R)) (hr : Room j X.A) (hk : k ≤ j) (hm : X.mg x = some (.ref (d.ad X.K))) (ha : VA X (e :: es) σ H (f a)) (hp : ∀ H1, Ex H H1 → pre a H1)
    (hR : ∀ v H1 H2 H3, Ex H1 H2 → R a v H2 H3 → R a v H1 H3) (hg : Gl X x := by rfl) (hdb : (x == ("__debug__" : Str)) = false := by decide)
    (he : starEach (e :: es) X.env = (false, eval e X.env) :: starEach es X.env := by rfl) (hpl : (backTo pos (starEach es X.env)).any (·.1) = false := by rfl) : VR X (.Call (.Name x p) (e :: es) [] pos) σ H (R a) :=
  vr_of (pe_c0 c hr hk hm pa_w hg hdb he hpl) fun H1 e1 Q q => ha H1 e1 _ fun H2 e2 => ⟨a, List.append_nil _, hp H2 (e1.trans e2), fun v H3 e3 r => q v H3 (e2.trans e3) (hR v H1 H2 H3 e2 r)⟩
/-- where an argument is a new list, or the like -/
theorem vr_callR {α : Type} {f : α → List V} {pre : α → Hp → Prop} {R : α → V → Hp → Hp → Prop} {Ra : List V → Hp → Hp → Prop} {R' : V → Hp → Hp → Prop} (c : CalX X.prog X.w X.K X.mg X.base CX0 k d ps (SpR f pre R)) (hr : Room j X.A) (hk : k ≤ j) (hm : X.mg x = some (.ref (d.ad X.K))) (ha : VAR X (e :: es) σ H Ra)
    (hp : ∀ vs H1 H2, Ex H H1 → Ex H1 H2 → Ra vs H1 H2 → ∃ a, vs = f a ∧ pre a H2 ∧ ∀ v H3, Ex H2 H3 → R a v H2 H3 → R' v H1 H3) (hg : Gl X x := by rfl) (hdb : (x == ("__debug__" : Str)) = false := by decide)
    (he : starEach (e :: es) X.env = (false, eval e X.env) :: starEach es X.env := by rfl) (hpl : (backTo pos (starEach es X.env)).any (·.1) = false := by rfl) : VR X (.Call (.Name x p) (e :: es) [] pos) σ H R' :=
  vr_of (pe_c0 c hr hk hm pa_w hg hdb he hpl) fun H1 e1 Q q => ha H1 e1 _ fun vs H2 e2 r => by
    obtain ⟨a, ea, hpre, hk'⟩ := hp vs H1 H2 e1 e2 r
    exact ⟨a, by rw [List.append_nil]; exact ea, hpre, fun v H3 e3 r' => q v H3 (e2.trans e3) (hk' v H3 e3 r')⟩
theorem v_call {α : Type} {f : α → List V} {pre : α → Hp → Prop} {g : α → V} (a : α) (c : CalX X.prog X.w X.K X.mg X.base CX0 k d ps (SpR f pre fun a v _ _ => v = g a)) (hr : Room j X.A) (hk : k ≤ j) (hm : X.mg x = some (.ref (d.ad X.K))) (ha : VA X (e :: es) σ H (f a)) (hp : ∀ H1, Ex H H1 → pre a H1)
    (hg : Gl X x := by rfl) (hdb : (x == ("__debug__" : Str)) = false := by decide) (he : starEach (e :: es) X.env = (false, eval e X.env) :: starEach es X.env := by rfl) (hpl : (backTo pos (starEach es X.env)).any (·.1) = false := by rfl) : VX X (.Call (.Name x p) (e :: es) [] pos) σ H (g a) :=
  VR.val (vr_call a c hr hk hm ha hp (fun _ _ _ _ _ r => r) hg hdb he hpl)
end
/-! ### statements: what follows holds in every heap that bears what stood -/
def WS (X : Cx) (sts : List Stmt) (D : Ends) (σ : L2.St) (H : Hp) : Prop := ∀ H1, Ex H H1 → wSs X sts D σ H1
section
variable {X : Cx} {e c : Expr} {sts rest A B : List Stmt} {st : Stmt} {σ : L2.St} {H H' : Hp} {v : V} {xs : List V} {D : Ends} {n : Str} {np pos : Pos} {i : Nat}
theorem WS.here (h : WS X sts D σ H) : wSs X sts D σ H := h H (Ex.refl H)
theorem WS.mono (a : Ex H H') (h : WS X sts D σ H) : WS X sts D σ H' := fun H1 b => h H1 (a.trans b)
theorem w_nil (h : ∀ H1, Ex H H1 → D.nx σ H1) : WS X [] D σ H := fun H1 a => ws_nil (h H1 a)
theorem w_cons {ts : TS} (h : PS X st ts) (r : ∀ H1, Ex H H1 → ts { D with nx := wSs X rest D } σ H1) : WS X (st :: rest) D σ H := fun H1 a => ws_cons h (r H1 a)
/-- n = e -/
theorem w_set (i : Nat) (nd : X.N.Nodup) (hv : VX X e σ H v) (k : WS X rest D (σ.set i (some v)) H) (hi : X.N[i]? = some n := by rfl) (hx : Loc X.env.scope n := by first | exact Or.inl rfl | exact Or.inr rfl) (hs : swapsWith e (some (.Name n np)) pos.line X.env = pure false := by rfl)
    (hf : X.fn n = true ∨ X.env.scope.names.lookup n = some .local := by first | exact .inl rfl | exact .inr rfl) : WS X (.Assign [.Name n np] e pos :: rest) D σ H := w_cons (ps_set nd hi hx pe_w hs hf) fun H1 a => hv H1 a _ fun H2 b => k H2 (a.trans b)
theorem w_setR (i : Nat) {R : V → Hp → Hp → Prop} (nd : X.N.Nodup) (hv : VR X e σ H R) (k : ∀ v H1 H2, Ex H H1 → Ex H1 H2 → R v H1 H2 → WS X rest D (σ.set i (some v)) H2) (hi : X.N[i]? = some n := by rfl) (hx : Loc X.env.scope n := by first | exact Or.inl rfl | exact Or.inr rfl)
    (hs : swapsWith e (some (.Name n np)) pos.line X.env = pure false := by rfl) (hf : X.fn n = true ∨ X.env.scope.names.lookup n = some .local := by first | exact .inl rfl | exact .inr rfl) : WS X (.Assign [.Name n np] e pos :: rest) D σ H :=
  w_cons (ps_set nd hi hx pe_w hs hf) fun H1 a => hv H1 a _ fun v H2 b r => (k v H1 H2 a b r).here
theorem w_setL (i : Nat) (nd : X.N.Nodup) (hv : VL X e σ H xs) (k : ∀ p H2, H p = none → Ex H H2 → H2 p = some (.lst xs) → WS X rest D (σ.set i (some (.ref p))) H2) (hi : X.N[i]? = some n := by rfl) (hx : Loc X.env.scope n := by first | exact Or.inl rfl | exact Or.inr rfl)
    (hs : swapsWith e (some (.Name n np)) pos.line X.env = pure false := by rfl) (hf : X.fn n = true ∨ X.env.scope.names.lookup n = some .local := by first | exact .inl rfl | exact .inr rfl) : WS X (.Assign [.Name n np] e pos :: rest) D σ H :=
  w_cons (ps_set nd hi hx pe_w hs hf) fun H1 a => hv H1 a _ fun p H2 hp b h => (k p H2 (fresh_back a hp) (a.trans b) h).here
/-- an expression alone -/
theorem w_do (hv : VX X e σ H v) (k : WS X rest D σ H) (hs : swapsWith e none pos.line X.env = pure false := by rfl) : WS X (.Expr e pos :: rest) D σ H := w_cons (ps_expr pe_w hs) fun H1 a => hv H1 a _ fun H2 b => k H2 (a.trans b)
/-- return e -/
theorem w_ret (hv : VX X e σ H v) (k : ∀ H1, Ex H H1 → D.rt v H1) : WS X (.Return (some e) pos :: rest) D σ H := fun H1 a => ws_of (pss_cons (ps_ret pe_w) ps_w) (hv H1 a _ fun H2 b => k H2 (a.trans b))
theorem w_retR {R : V → Hp → Hp → Prop} (hv : VR X e σ H R) (k : ∀ v H1 H2, Ex H H1 → Ex H1 H2 → R v H1 H2 → D.rt v H2) : WS X (.Return (some e) pos :: rest) D σ H := fun H1 a => ws_of (pss_cons (ps_ret pe_w) ps_w) (hv H1 a _ fun v H2 b r => k v H1 H2 a b r)
theorem w_retL (hv : VL X e σ H xs) (k : ∀ p H2, H p = none → Ex H H2 → H2 p = some (.lst xs) → D.rt (.ref p) H2) : WS X (.Return (some e) pos :: rest) D σ H := fun H1 a => ws_of (pss_cons (ps_ret pe_w) ps_w) (hv H1 a _ fun p H2 hp b r => k p H2 (fresh_back a hp) (a.trans b) r)
/-- if c: A else: B -/
theorem w_if {b : Bool} (ht : VT X c σ H b) (h1 : b = true → WS X A { D with nx := wSs X rest D } σ H) (h2 : b = false → WS X B { D with nx := wSs X rest D } σ H) : WS X (.If c A B pos :: rest) D σ H := w_cons (ps_if pt_w ps_w ps_w) fun H1 a => ht H1 a _ fun H2 b' => by
  cases b with
  | true =>
    show wSs X A { D with nx := wSs X rest D } σ H2
    exact h1 rfl H2 (a.trans b')
  | false =>
    show wSs X B { D with nx := wSs X rest D } σ H2
    exact h2 rfl H2 (a.trans b')
/-- if c: A, where A does not reach its end or the rest is told once more -/
theorem w_when {b : Bool} (ht : VT X c σ H b) (h1 : b = true → WS X A { D with nx := wSs X rest D } σ H) (h2 : b = false → WS X rest D σ H) : WS X (.If c A [] pos :: rest) D σ H := w_if ht h1 fun hb => w_nil (h2 hb)
/-- a statement that can't be reached -/
theorem w_if_never {b : Bool} (hn : b = false) (ht : VT X c σ H b) (h2 : WS X rest D σ H) : WS X (.If c A [] pos :: rest) D σ H := w_when ht (fun h => by rw [hn] at h; cases h) fun _ => h2
end
section
variable {X : Cx} {a b e c tg iter : Expr} {body rest : List Stmt} {σ : L2.St} {H H' : Hp} {D : Ends} {n m l : Str} {pos px py pz pt : Pos} {i j q : Nat} {kt k2 : Nat} {pt2 : Pos}
/-- x, y = a, b -/
theorem w_par {R1 R2' : V → Hp → Hp → Prop} (i j : Nat) (nd : X.N.Nodup) (ha : VR X a σ H R1) (hb : VR X b σ H R2') (k : ∀ v w H1 H2 H3, Ex H H1 → Ex H1 H2 → Ex H2 H3 → R1 v H1 H2 → R2' w H2 H3 → WS X rest D ((σ.set i (some v)).set j (some w)) H3)
    (hc : X.calm = true := by rfl) (hi : X.N[i]? = some n := by rfl) (hj : X.N[j]? = some m := by rfl) (hij : i ≠ j := by decide) (hx : X.env.scope.names.lookup n = some .local := by rfl) (hy : X.env.scope.names.lookup m = some .local := by rfl)
    (hs : starEach [a, b] X.env = (false, eval a X.env) :: starEach [b] X.env := by rfl) (hs2 : starEach [b] X.env = (false, eval b X.env) :: starEach [] X.env := by rfl) (hsw : swappedStores [.Tuple [.Name n px, .Name m py] kt pt] (.Tuple [a, b] k2 pt2) X.env = pure (some [n, m]) := by rfl) (hso : swapsWithSole [.Tuple [.Name n px, .Name m py] kt pt] (.Tuple [a, b] k2 pt2) pos.line X.env = pure false := by rfl) :
    WS X (.Assign [.Tuple [.Name n px, .Name m py] kt pt] (.Tuple [a, b] k2 pt2) pos :: rest) D σ H :=
  w_cons (ps_par hc nd hi hj hij hx hy (pa_cons pe_w (pa_cons pe_w pa_nil hs2) hs) hsw hso) fun H1 e1 => ha H1 e1 _ fun v H2 e2 r1 => hb H2 (e1.trans e2) _ fun w H3 e3 r2 => ⟨v, w, rfl, (k v w H1 H2 H3 e1 e2 e3 r1 r2).here⟩
/-- x, y, z = a, b, c -/
theorem w_par3 {R1 R2' R3 : V → Hp → Hp → Prop} (i j q : Nat) (nd : X.N.Nodup) (ha : VR X a σ H R1) (hb : VR X b σ H R2') (hcc : VR X c σ H R3)
    (k : ∀ u v w H1 H2 H3 H4, Ex H H1 → Ex H1 H2 → Ex H2 H3 → Ex H3 H4 → R1 u H1 H2 → R2' v H2 H3 → R3 w H3 H4 → WS X rest D (((σ.set i (some u)).set j (some v)).set q (some w)) H4)
    (hc : X.calm = true := by rfl) (hi : X.N[i]? = some n := by rfl) (hj : X.N[j]? = some m := by rfl) (hl : X.N[q]? = some l := by rfl) (hij : i ≠ j := by decide) (hil : i ≠ q := by decide) (hjl : j ≠ q := by decide)
    (hx : X.env.scope.names.lookup n = some .local := by rfl) (hy : X.env.scope.names.lookup m = some .local := by rfl) (hz : X.env.scope.names.lookup l = some .local := by rfl)
    (hs : starEach [a, b, c] X.env = (false, eval a X.env) :: starEach [b, c] X.env := by rfl) (hs2 : starEach [b, c] X.env = (false, eval b X.env) :: starEach [c] X.env := by rfl) (hs3 : starEach [c] X.env = (false, eval c X.env) :: starEach [] X.env := by rfl)
    (hsw : swappedStores [.Tuple [.Name n px, .Name m py, .Name l pz] kt pt] (.Tuple [a, b, c] k2 pt2) X.env = pure (some [n, m, l]) := by rfl) (hso : swapsWithSole [.Tuple [.Name n px, .Name m py, .Name l pz] kt pt] (.Tuple [a, b, c] k2 pt2) pos.line X.env = pure false := by rfl) :
    WS X (.Assign [.Tuple [.Name n px, .Name m py, .Name l pz] kt pt] (.Tuple [a, b, c] k2 pt2) pos :: rest) D σ H :=
  w_cons (ps_par3 hc nd hi hj hl hij hil hjl hx hy hz (pa_cons pe_w (pa_cons pe_w (pa_cons pe_w pa_nil hs3) hs2) hs) hsw hso) fun H1 e1 => ha H1 e1 _ fun u H2 e2 r1 => hb H2 (e1.trans e2) _ fun v H3 e3 r2 => hcc H3 ((e1.trans e2).trans e3) _ fun w H4 e4 r3 => ⟨u, v, w, rfl, (k u v w H1 H2 H3 H4 e1 e2 e3 e4 r1 r2 r3).here⟩
/-! ### loops -/
/-- for tg in iter: body. Pv by the turn, the slots, the heap; G: the walked thing stands -/
theorem w_for {g : TG} {N : Nat} {Y : Nat → Hp → V → Hp → Prop} (hi : VI X tg iter σ H N Y) (hgT : PG X tg g) (Pv : Nat → L2.St → Hp → Prop) (h0 : ∀ H1, Ex H H1 → Pv 0 σ H1)
    (hs : ∀ (G : Hp → Prop), (∀ H1 H2, Keeps H1 H2 → G H1 → G H2) → ∀ i x σ' H1 H2, i < N → Pv i σ' H1 → G H1 → Y i H1 x H2 → g x σ' H2 fun σ2 H3 => wSs X body { D with nx := fun σ3 H4 => Pv (i + 1) σ3 H4 ∧ G H4, ct := fun σ3 H4 => Pv (i + 1) σ3 H4 ∧ G H4, bk := wSs X rest D } σ2 H3)
    (hd : ∀ σ' H1, Pv N σ' H1 → wSs X rest D σ' H1) (hp : PassesOwn (model X.prog X.w) X.A X.env X.xe) (hc : X.calm = true := by rfl) (hfs : ∀ x, foldedSetIterable iter X.env x = pure x := by intro _; rfl) : WS X (.For tg iter body [] pos :: rest) D σ H := by
  obtain ⟨wi, hpi, hev⟩ := hi
  refine w_cons (ps_for hp hc hpi hgT ps_w hfs) fun H1 a => hev H1 a _ fun J H2 G e2 gk hG => ?_
  exact for_it gk.walk (D := { D with nx := wSs X rest D }) (fun i σ' H' => Pv i σ' H' ∧ G H') ⟨h0 H2 (a.trans e2), hG⟩ (fun _ _ _ _ h => h.2) (fun i x σ' H3 H4 hlt hp' hy => hs G gk.mono i x σ' H3 H4 hlt hp'.1 hp'.2 hy) fun σ' H' hp' => hd σ' H' hp'.1
/-- while c: body -/
theorem w_while (W : Nat → L2.St → Hp → Prop) (m0 : Nat) (h0 : ∀ H1, Ex H H1 → W m0 σ H1)
    (hs : ∀ k σ' H', W k σ' H' → ∃ t, VT X c σ' H' t ∧ (t = true → ∃ Nx : L2.St → Hp → Prop, (∀ σ2 H2, Nx σ2 H2 → ∃ k', k' < k ∧ W k' σ2 H2) ∧ WS X body { D with nx := Nx, ct := Nx, bk := wSs X rest D } σ' H') ∧ (t = false → WS X rest D σ' H'))
    (hp : PassesOwn (model X.prog X.w) X.A X.env X.xe) : WS X (.While c body [] pos :: rest) D σ H := by
  refine w_cons (ps_while hp pt_w ps_w) fun H1 a => s_while (D := { D with nx := wSs X rest D }) W m0 (h0 H1 a) fun k σ' H' w => ?_
  obtain ⟨t, h1, h2, h3⟩ := hs k σ' H' w
  refine ⟨t, h1, fun ht H2 e2 => ?_, fun ht H2 e2 => h3 ht H2 e2⟩
  obtain ⟨Nx, n1, n2⟩ := h2 ht
  exact ⟨Nx, n1, n2 H2 e2⟩
end
end K75
/-! what the head's facts say, by names (printed by gen_fac.py) -/
namespace K75
open PySem PySem.Spec PyProof.Rows L2 He
structure Tx (K : PySem.W.Frag) (mg : Str → Option Value) : Prop where
  sy : Says K
  gl : ∀ x ∈ glos, mg x = some (.ref (ga K x))
  fr : ∀ x ∈ frees, mg x = none
  nu : ∀ p ∈ nums, ∃ t, mg p.1 = some (.int p.2 t)
  fig : ∃ t, mg "FIGURES" = some (.str "0123456789" t)
theorem Says.ex {K : PySem.W.Frag} (c : Says K) : exB K = true := (ba (show (exB K && dfs.all fun d => d.ok K) = true from congrArg (fun z : AlM => z.1) c)).1
theorem Says.fn {K : PySem.W.Frag} (c : Says K) (i : Nat) {d : Df} (h : dfs[i]? = some d) : ∃ fd, Fun K d.name d.qual d.st (d.ad K) fd := by
  have c2 := (ba (show (exB K && dfs.all fun d => d.ok K) = true from congrArg (fun z : AlM => z.1) c)).2
  have e : dfs.map (fun d => fnA K (d.ad K)) = dfs.map Df.val := congrArg (fun z : AlM => z.2) c
  have e2 : (dfs.map fun d => fnA K (d.ad K))[i]? = (dfs.map Df.val)[i]? := by rw [e]
  rw [List.getElem?_map, List.getElem?_map, h] at e2
  exact Df.fun_ (Option.some.inj e2) (List.all_eq_true.mp c2 d (List.mem_of_getElem? h))
/-- exB, part by part -/
structure ExP (K : PySem.W.Frag) : Prop where
  glo : ∀ x ∈ glos, (Fa.glo x).ok K = true
  free : ∀ x ∈ frees, (Fa.free x).ok K = true
  num : ∀ p ∈ nums, (Fa.int p.1 p.2).ok K = true
  fig : (Fa.str "FIGURES" "0123456789").ok K = true
  pages : tupB K "PAGES" [.int 2, .int 4, .int 8, .int 16, .int 32] = true
  oex : ∀ x ∈ oexs, oexB K (ga K x) = true
  clsS : clsB K "Steps" = true
  clsT : clsB K "Tree" = true
  prS : propB K "Steps" "bounds" = true
  prT : propB K "Tree" "told" = true
  oc1 : PySem.W.specialIn K (.builtin "object.__class__") "__get__" = some (some (.builtin "getset_descriptor.__get__"))
  oc2 : PySem.W.takesIn K (.builtin "object.__class__") = some true
  naS : ∀ f ∈ (["most", "rows"] : List Str), (Fa.noat "Steps" f).ok K = true
  naT : ∀ f ∈ (["classes", "told_row", "pages", "leaves"] : List Str), (Fa.noat "Tree" f).ok K = true
  ini : ∀ x ∈ (["BadSteps", "BadTree", "BadArgument", "BadText"] : List Str), initB K x = true
  na1 : (Fa.noat "BadSteps" "part").ok K = true
  na2 : (Fa.noat "BadTree" "part").ok K = true
  na3 : (Fa.noat "BadArgument" "value").ok K = true
  na4 : (Fa.noat "BadText" "line").ok K = true
  xf : xfB K (ga K "BadText") = true
  rm : rmB K = true
  exm : ∀ q ∈ ([("BadSteps", "RoomError", true), ("BadTree", "RoomError", true), ("BadArgument", "RoomError", true), ("BadText", "BadText", true)] : List (Str × Str × Bool)), (Fa.exm q.1 q.2.1 q.2.2).ok K = true
theorem Says.p {K : PySem.W.Frag} (c : Says K) : ExP K := by
  obtain ⟨h1, r⟩ := ba c.ex
  obtain ⟨h2, r⟩ := ba r
  obtain ⟨h3, r⟩ := ba r
  obtain ⟨h4, r⟩ := ba r
  obtain ⟨h5, r⟩ := ba r
  obtain ⟨h6, r⟩ := ba r
  obtain ⟨h7, r⟩ := ba r
  obtain ⟨h7a, h7⟩ := ba h7
  obtain ⟨h7b, h7⟩ := ba h7
  obtain ⟨h7c, h7d⟩ := ba h7
  obtain ⟨h8, r⟩ := ba r
  obtain ⟨h9, r⟩ := ba r
  obtain ⟨h10, r⟩ := ba r
  obtain ⟨h11, r⟩ := ba r
  obtain ⟨h12, r⟩ := ba r
  obtain ⟨h13, r⟩ := ba r
  obtain ⟨h14, r⟩ := ba r
  obtain ⟨h15, r⟩ := ba r
  obtain ⟨h16, r⟩ := ba r
  obtain ⟨h17, r⟩ := ba r
  obtain ⟨h18, h19⟩ := ba r
  exact ⟨List.all_eq_true.mp h1, List.all_eq_true.mp h2, List.all_eq_true.mp h3, h4, h5, List.all_eq_true.mp h6, h7a, h7b, h7c, h7d, of_decide_eq_true h8, of_decide_eq_true h9, List.all_eq_true.mp h10, List.all_eq_true.mp h11, List.all_eq_true.mp h12, h13, h14, h15, h16, h17, h18, List.all_eq_true.mp h19⟩
theorem Tx.of {K : PySem.W.Frag} {h : Heap} {mg : Str → Option Value} (X : K.In h) (G : h.Ns mainGlobals mg) (c : Says K) : Tx K mg :=
  ⟨c, fun x hx => glo_ok X G (c.p.glo x hx), fun x hx => free_ok X G (c.p.free x hx), fun p hp => int_ok X G (c.p.num p hp), str_ok X G c.p.fig⟩
section
variable {K : PySem.W.Frag} {mg : Str → Option Value}
theorem oexB_ok {C : Addr} (h : oexB K C = true) : OexC K C := by
  obtain ⟨h1, r⟩ := ba h
  obtain ⟨h2, r⟩ := ba r
  obtain ⟨h3, r⟩ := ba r
  obtain ⟨h4, h5⟩ := ba r
  refine ⟨?_, of_decide_eq_true h2, of_decide_eq_true h3, of_decide_eq_true h4, h5⟩
  cases q : K.lookup C with
  | none =>
    rw [q] at h1
    cases h1
  | some ob =>
    obtain ⟨oc, od, dt, sl⟩ := ob
    rw [q] at h1
    cases oc with
    | type t =>
      cases dt with
      | cls cd =>
        obtain ⟨i1, i2⟩ := ba (show (decide (t = "type") && (match cd.mro, sl.toList with
          | c :: bm, [_, _, _, _, some (.builtin n), _] => decide (c = .ref C) && (PySem.HandSPX.refsVE bm && (decide (n = "ValueError.__new__") && (cd.hasDict && !cd.hasDel)))
          | _, _ => false)) = true from h1)
        have et := of_decide_eq_true i1
        subst et
        obtain ⟨nm, bs, mro, ns, qn, hd, sn, sb, ab, col, del⟩ := cd
        obtain ⟨arr⟩ := sl
        dsimp only at i2
        split at i2
        · skip
          obtain ⟨j1, i3⟩ := ba i2
          obtain ⟨j2, i4⟩ := ba i3
          obtain ⟨j3, i5⟩ := ba i4
          obtain ⟨j4, j5⟩ := ba i5
          have ec := of_decide_eq_true j1
          have en := of_decide_eq_true j3
          have ed : del = false := by
            cases del with
            | false => rfl
            | true => cases j5
          subst ec en ed
          subst j4
          exact ⟨_, _, _, _, _, _, _, _, _, _, _, _, _, _, _, rfl, j2⟩
        · cases i2
      | _ => cases h1
    | _ => cases dt <;> cases h1
theorem clsB_ok {x : Str} (h : clsB K x = true) (h1 : PySem.W.specialIn K (.builtin "object.__class__") "__get__" = some (some (.builtin "getset_descriptor.__get__"))) (h2 : PySem.W.takesIn K (.builtin "object.__class__") = some true) :
    Cls K (ga K x) ∧ Mk K (ga K x) (ma K (ga K x) "__init__") ∧ ∀ (H : Hp) (a dx : Addr) (fs : List (Str × V)), H a = some (.ins (ga K x) dx fs) → TyX K H (.ref a) (.ref (ga K x)) := by
  obtain ⟨i1, r⟩ := ba h
  obtain ⟨i2, r⟩ := ba r
  obtain ⟨i3, i4⟩ := ba r
  exact ⟨cls_ok i1, mkr_ok i2, fun H a dx fs e => .base (.ins e (cls_ok i1) (of_decide_eq_true i3) h1 h2 (of_decide_eq_true i4))⟩
theorem propB_ok {x f : Str} (h : propB K x f = true) : PropOf K (ga K x) f (propOf K (ga K x) f) (getterOf K (ga K x) f) := by
  obtain ⟨i1, r⟩ := ba h
  obtain ⟨i2, r⟩ := ba r
  obtain ⟨i3, i4⟩ := ba r
  refine ⟨of_decide_eq_true i1, of_decide_eq_true i2, of_decide_eq_true i3, ?_⟩
  unfold getterOf
  split at i4
  · rename_i g' rest e
    refine ⟨rest, ?_⟩
    rw [e]
  · cases i4
namespace Tx
variable (T : Tx K mg)
include T
theorem clS : Cls K (ga K "Steps") := (clsB_ok T.sy.p.clsS T.sy.p.oc1 T.sy.p.oc2).1
theorem clT : Cls K (ga K "Tree") := (clsB_ok T.sy.p.clsT T.sy.p.oc1 T.sy.p.oc2).1
theorem mkS : Mk K (ga K "Steps") (ma K (ga K "Steps") "__init__") := (clsB_ok T.sy.p.clsS T.sy.p.oc1 T.sy.p.oc2).2.1
theorem mkT : Mk K (ga K "Tree") (ma K (ga K "Tree") "__init__") := (clsB_ok T.sy.p.clsT T.sy.p.oc1 T.sy.p.oc2).2.1
theorem tyS {H : Hp} {a dx : Addr} {fs : List (Str × V)} (h : H a = some (.ins (ga K "Steps") dx fs)) : TyX K H (.ref a) (.ref (ga K "Steps")) := (clsB_ok T.sy.p.clsS T.sy.p.oc1 T.sy.p.oc2).2.2 H a dx fs h
theorem tyT {H : Hp} {a dx : Addr} {fs : List (Str × V)} (h : H a = some (.ins (ga K "Tree") dx fs)) : TyX K H (.ref a) (.ref (ga K "Tree")) := (clsB_ok T.sy.p.clsT T.sy.p.oc1 T.sy.p.oc2).2.2 H a dx fs h
theorem prS : PropOf K (ga K "Steps") "bounds" (propOf K (ga K "Steps") "bounds") (getterOf K (ga K "Steps") "bounds") := propB_ok T.sy.p.prS
theorem prT : PropOf K (ga K "Tree") "told" (propOf K (ga K "Tree") "told") (getterOf K (ga K "Tree") "told") := propB_ok T.sy.p.prT
theorem naS (f : Str) (h : f ∈ (["most", "rows"] : List Str)) : NoAttr K (ga K "Steps") f := noat_ok (T.sy.p.naS f h)
theorem naT (f : Str) (h : f ∈ (["classes", "told_row", "pages", "leaves"] : List Str)) : NoAttr K (ga K "Tree") f := noat_ok (T.sy.p.naT f h)
theorem pages (H : Hp) : SqT K H (ga K "PAGES") [.int 2, .int 4, .int 8, .int 16, .int 32] := tupB_ok T.sy.p.pages H
theorem oex (x : Str) (h : x ∈ oexs) : OexC K (ga K x) := oexB_ok (T.sy.p.oex x h)
theorem ini (x : Str) (h : x ∈ (["BadSteps", "BadTree", "BadArgument", "BadText"] : List Str)) : PySem.W.findIn K (.ref (ga K x)) "__init__" = some (some (.ref (ma K (ga K x) "__init__"))) ∧ PySem.W.typeIn K (.ref (ma K (ga K x) "__init__")) = some (.type "function") :=
  let ⟨a, b⟩ := ba (T.sy.p.ini x h); ⟨of_decide_eq_true a, of_decide_eq_true b⟩
theorem xf : XfC K (ga K "BadText") := xfB_ok T.sy.p.xf
theorem noPart1 : PySem.W.findIn K (.ref (ga K "BadSteps")) "part" = some none := noat_ok T.sy.p.na1
theorem noPart2 : PySem.W.findIn K (.ref (ga K "BadTree")) "part" = some none := noat_ok T.sy.p.na2
theorem noValue : PySem.W.findIn K (.ref (ga K "BadArgument")) "value" = some none := noat_ok T.sy.p.na3
theorem noLine : PySem.W.findIn K (.ref (ga K "BadText")) "line" = some none := noat_ok T.sy.p.na4
theorem rm : PySem.W.readsIn K (ga K "RoomError") (.type "type") = true ∧ PySem.W.specialIn K (.ref (ga K "RoomError")) "__getattribute__" = some (some (.builtin "type.__getattribute__")) ∧ PySem.W.findCls K (.ref (ga K "RoomError")) (.type "type") "__init__" = some (.val (.builtin "ValueError.__init__")) := by
  obtain ⟨a, r⟩ := ba T.sy.p.rm
  obtain ⟨b, c⟩ := ba r
  refine ⟨a, of_decide_eq_true b, ?_⟩
  split at c
  · rename_i n e
    have en := of_decide_eq_true c
    subst en
    exact e
  · cases c
theorem exm (x y : Str) (b : Bool) (h : (x, y, b) ∈ ([("BadSteps", "RoomError", true), ("BadTree", "RoomError", true), ("BadArgument", "RoomError", true), ("BadText", "BadText", true)] : List (Str × Str × Bool))) : PySem.W.exmOne K (.ref (ga K x)) (.ref (ga K y)) = some b := exm_ok (T.sy.p.exm (x, y, b) h)
theorem g_is_count : mg "is_count" = some (.ref (ga K "is_count")) := T.gl _ (by decide +kernel)
theorem g_are_bounds : mg "are_bounds" = some (.ref (ga K "are_bounds")) := T.gl _ (by decide +kernel)
theorem g_check_steps : mg "check_steps" = some (.ref (ga K "check_steps")) := T.gl _ (by decide +kernel)
theorem g_are_told : mg "are_told" = some (.ref (ga K "are_told")) := T.gl _ (by decide +kernel)
theorem g_check_tree : mg "check_tree" = some (.ref (ga K "check_tree")) := T.gl _ (by decide +kernel)
theorem g_are_sizes : mg "are_sizes" = some (.ref (ga K "are_sizes")) := T.gl _ (by decide +kernel)
theorem g_are_weights : mg "are_weights" = some (.ref (ga K "are_weights")) := T.gl _ (by decide +kernel)
theorem g_check_weights : mg "check_weights" = some (.ref (ga K "check_weights")) := T.gl _ (by decide +kernel)
theorem g_in_order : mg "in_order" = some (.ref (ga K "in_order")) := T.gl _ (by decide +kernel)
theorem g_are_figures : mg "are_figures" = some (.ref (ga K "are_figures")) := T.gl _ (by decide +kernel)
theorem g_line_of : mg "line_of" = some (.ref (ga K "line_of")) := T.gl _ (by decide +kernel)
theorem g_numbers_of : mg "numbers_of" = some (.ref (ga K "numbers_of")) := T.gl _ (by decide +kernel)
theorem g_lines_of : mg "lines_of" = some (.ref (ga K "lines_of")) := T.gl _ (by decide +kernel)
theorem g_check_line : mg "check_line" = some (.ref (ga K "check_line")) := T.gl _ (by decide +kernel)
theorem g_steps_text : mg "steps_text" = some (.ref (ga K "steps_text")) := T.gl _ (by decide +kernel)
theorem g_read_steps : mg "read_steps" = some (.ref (ga K "read_steps")) := T.gl _ (by decide +kernel)
theorem g_tree_text : mg "tree_text" = some (.ref (ga K "tree_text")) := T.gl _ (by decide +kernel)
theorem g_read_tree : mg "read_tree" = some (.ref (ga K "read_tree")) := T.gl _ (by decide +kernel)
theorem g_weights_text : mg "weights_text" = some (.ref (ga K "weights_text")) := T.gl _ (by decide +kernel)
theorem g_read_weights : mg "read_weights" = some (.ref (ga K "read_weights")) := T.gl _ (by decide +kernel)
theorem g_law_numbers : mg "_law_numbers" = some (.ref (ga K "_law_numbers")) := T.gl _ (by decide +kernel)
theorem g_law_opened : mg "_law_opened" = some (.ref (ga K "_law_opened")) := T.gl _ (by decide +kernel)
theorem g_law_draw : mg "_law_draw" = some (.ref (ga K "_law_draw")) := T.gl _ (by decide +kernel)
theorem g_law_pick : mg "_law_pick" = some (.ref (ga K "_law_pick")) := T.gl _ (by decide +kernel)
theorem g_law_sizes : mg "_law_sizes" = some (.ref (ga K "_law_sizes")) := T.gl _ (by decide +kernel)
theorem g_law_steps : mg "_law_steps" = some (.ref (ga K "_law_steps")) := T.gl _ (by decide +kernel)
theorem g_law_weights : mg "_law_weights" = some (.ref (ga K "_law_weights")) := T.gl _ (by decide +kernel)
theorem g_law_tree_text : mg "_law_tree_text" = some (.ref (ga K "_law_tree_text")) := T.gl _ (by decide +kernel)
theorem g_law_steps_text : mg "_law_steps_text" = some (.ref (ga K "_law_steps_text")) := T.gl _ (by decide +kernel)
theorem g_law_weights_text : mg "_law_weights_text" = some (.ref (ga K "_law_weights_text")) := T.gl _ (by decide +kernel)
theorem g_law_number : mg "_law_number" = some (.ref (ga K "_law_number")) := T.gl _ (by decide +kernel)
theorem g_law_line : mg "_law_line" = some (.ref (ga K "_law_line")) := T.gl _ (by decide +kernel)
theorem g_law_are_bounds : mg "_law_are_bounds" = some (.ref (ga K "_law_are_bounds")) := T.gl _ (by decide +kernel)
theorem g_law_read_steps : mg "_law_read_steps" = some (.ref (ga K "_law_read_steps")) := T.gl _ (by decide +kernel)
theorem g_law_read_tree : mg "_law_read_tree" = some (.ref (ga K "_law_read_tree")) := T.gl _ (by decide +kernel)
theorem g_law_read_weights : mg "_law_read_weights" = some (.ref (ga K "_law_read_weights")) := T.gl _ (by decide +kernel)
theorem g_law_written : mg "_law_written" = some (.ref (ga K "_law_written")) := T.gl _ (by decide +kernel)
theorem g_law_reading : mg "_law_reading" = some (.ref (ga K "_law_reading")) := T.gl _ (by decide +kernel)
theorem g_law_heard : mg "_law_heard" = some (.ref (ga K "_law_heard")) := T.gl _ (by decide +kernel)
theorem g_law_bent : mg "_law_bent" = some (.ref (ga K "_law_bent")) := T.gl _ (by decide +kernel)
theorem g_law_ends_right : mg "_law_ends_right" = some (.ref (ga K "_law_ends_right")) := T.gl _ (by decide +kernel)
theorem g_law : mg "law" = some (.ref (ga K "law")) := T.gl _ (by decide +kernel)
theorem g_Steps : mg "Steps" = some (.ref (ga K "Steps")) := T.gl _ (by decide +kernel)
theorem g_Tree : mg "Tree" = some (.ref (ga K "Tree")) := T.gl _ (by decide +kernel)
theorem g_BadSteps : mg "BadSteps" = some (.ref (ga K "BadSteps")) := T.gl _ (by decide +kernel)
theorem g_BadTree : mg "BadTree" = some (.ref (ga K "BadTree")) := T.gl _ (by decide +kernel)
theorem g_BadArgument : mg "BadArgument" = some (.ref (ga K "BadArgument")) := T.gl _ (by decide +kernel)
theorem g_BadText : mg "BadText" = some (.ref (ga K "BadText")) := T.gl _ (by decide +kernel)
theorem g_RoomError : mg "RoomError" = some (.ref (ga K "RoomError")) := T.gl _ (by decide +kernel)
theorem g_PAGES : mg "PAGES" = some (.ref (ga K "PAGES")) := T.gl _ (by decide +kernel)
theorem n_isinstance : mg "isinstance" = none := T.fr _ (by decide +kernel)
theorem n_int : mg "int" = none := T.fr _ (by decide +kernel)
theorem n_bool : mg "bool" = none := T.fr _ (by decide +kernel)
theorem n_list : mg "list" = none := T.fr _ (by decide +kernel)
theorem n_tuple : mg "tuple" = none := T.fr _ (by decide +kernel)
theorem n_str : mg "str" = none := T.fr _ (by decide +kernel)
theorem n_dict : mg "dict" = none := T.fr _ (by decide +kernel)
theorem n_len : mg "len" = none := T.fr _ (by decide +kernel)
theorem n_all : mg "all" = none := T.fr _ (by decide +kernel)
theorem n_zip : mg "zip" = none := T.fr _ (by decide +kernel)
theorem n_range : mg "range" = none := T.fr _ (by decide +kernel)
theorem n_sorted : mg "sorted" = none := T.fr _ (by decide +kernel)
theorem n_enumerate : mg "enumerate" = none := T.fr _ (by decide +kernel)
theorem n_max : mg "max" = none := T.fr _ (by decide +kernel)
theorem n_min : mg "min" = none := T.fr _ (by decide +kernel)
theorem n_ValueError : mg "ValueError" = none := T.fr _ (by decide +kernel)
theorem i_MOST_ROOM : ∃ t, mg "MOST_ROOM" = some (.int 1000 t) := T.nu ("MOST_ROOM", 1000) (by decide +kernel)
theorem i_MOST_BOUNDS : ∃ t, mg "MOST_BOUNDS" = some (.int 8 t) := T.nu ("MOST_BOUNDS", 8) (by decide +kernel)
theorem i_MOST_SIZES : ∃ t, mg "MOST_SIZES" = some (.int 30 t) := T.nu ("MOST_SIZES", 30) (by decide +kernel)
theorem i_MOST_WEIGHT : ∃ t, mg "MOST_WEIGHT" = some (.int 1000 t) := T.nu ("MOST_WEIGHT", 1000) (by decide +kernel)
theorem i_MOST_FIGURES : ∃ t, mg "MOST_FIGURES" = some (.int 4 t) := T.nu ("MOST_FIGURES", 4) (by decide +kernel)
theorem i_MOST_LEVELS : ∃ t, mg "MOST_LEVELS" = some (.int 6 t) := T.nu ("MOST_LEVELS", 6) (by decide +kernel)
end Tx
end
def d_is_count : Df := ⟨fun K => ga K "is_count", "is_count", "is_count", top 12⟩
theorem f_is_count {K : PySem.W.Frag} {mg : Str → Option Value} (T : Tx K mg) : ∃ fd, Fun K d_is_count.name d_is_count.qual d_is_count.st (d_is_count.ad K) fd := T.sy.fn 0 (d := d_is_count) rfl
theorem b_is_count {K : PySem.W.Frag} (fd : FuncData) (F : Fun K d_is_count.name d_is_count.qual d_is_count.st (d_is_count.ad K) fd) : Binds K fd ["value", "least", "most"] [] := Fun.binds (ps := ["value", "least", "most"]) F fun _ _ _ _ _ _ us hl => match us, hl with | [_, _, _], _ => rfl
def d_are_bounds : Df := ⟨fun K => ga K "are_bounds", "are_bounds", "are_bounds", top 13⟩
theorem f_are_bounds {K : PySem.W.Frag} {mg : Str → Option Value} (T : Tx K mg) : ∃ fd, Fun K d_are_bounds.name d_are_bounds.qual d_are_bounds.st (d_are_bounds.ad K) fd := T.sy.fn 1 (d := d_are_bounds) rfl
theorem b_are_bounds {K : PySem.W.Frag} (fd : FuncData) (F : Fun K d_are_bounds.name d_are_bounds.qual d_are_bounds.st (d_are_bounds.ad K) fd) : Binds K fd ["value", "most"] [] := Fun.binds (ps := ["value", "most"]) F fun _ _ _ _ _ _ us hl => match us, hl with | [_, _], _ => rfl
def d_check_steps : Df := ⟨fun K => ga K "check_steps", "check_steps", "check_steps", top 16⟩
theorem f_check_steps {K : PySem.W.Frag} {mg : Str → Option Value} (T : Tx K mg) : ∃ fd, Fun K d_check_steps.name d_check_steps.qual d_check_steps.st (d_check_steps.ad K) fd := T.sy.fn 2 (d := d_check_steps) rfl
theorem b_check_steps {K : PySem.W.Frag} (fd : FuncData) (F : Fun K d_check_steps.name d_check_steps.qual d_check_steps.st (d_check_steps.ad K) fd) : Binds K fd ["value"] [] := Fun.binds (ps := ["value"]) F fun _ _ _ _ _ _ us hl => match us, hl with | [_], _ => rfl
def d_are_told : Df := ⟨fun K => ga K "are_told", "are_told", "are_told", top 19⟩
theorem f_are_told {K : PySem.W.Frag} {mg : Str → Option Value} (T : Tx K mg) : ∃ fd, Fun K d_are_told.name d_are_told.qual d_are_told.st (d_are_told.ad K) fd := T.sy.fn 3 (d := d_are_told) rfl
theorem b_are_told {K : PySem.W.Frag} (fd : FuncData) (F : Fun K d_are_told.name d_are_told.qual d_are_told.st (d_are_told.ad K) fd) : Binds K fd ["value", "classes"] [] := Fun.binds (ps := ["value", "classes"]) F fun _ _ _ _ _ _ us hl => match us, hl with | [_, _], _ => rfl
def d_check_tree : Df := ⟨fun K => ga K "check_tree", "check_tree", "check_tree", top 21⟩
theorem f_check_tree {K : PySem.W.Frag} {mg : Str → Option Value} (T : Tx K mg) : ∃ fd, Fun K d_check_tree.name d_check_tree.qual d_check_tree.st (d_check_tree.ad K) fd := T.sy.fn 4 (d := d_check_tree) rfl
theorem b_check_tree {K : PySem.W.Frag} (fd : FuncData) (F : Fun K d_check_tree.name d_check_tree.qual d_check_tree.st (d_check_tree.ad K) fd) : Binds K fd ["value"] [] := Fun.binds (ps := ["value"]) F fun _ _ _ _ _ _ us hl => match us, hl with | [_], _ => rfl
def d_are_sizes : Df := ⟨fun K => ga K "are_sizes", "are_sizes", "are_sizes", top 25⟩
theorem f_are_sizes {K : PySem.W.Frag} {mg : Str → Option Value} (T : Tx K mg) : ∃ fd, Fun K d_are_sizes.name d_are_sizes.qual d_are_sizes.st (d_are_sizes.ad K) fd := T.sy.fn 5 (d := d_are_sizes) rfl
theorem b_are_sizes {K : PySem.W.Frag} (fd : FuncData) (F : Fun K d_are_sizes.name d_are_sizes.qual d_are_sizes.st (d_are_sizes.ad K) fd) : Binds K fd ["value"] [] := Fun.binds (ps := ["value"]) F fun _ _ _ _ _ _ us hl => match us, hl with | [_], _ => rfl
def d_are_weights : Df := ⟨fun K => ga K "are_weights", "are_weights", "are_weights", top 26⟩
theorem f_are_weights {K : PySem.W.Frag} {mg : Str → Option Value} (T : Tx K mg) : ∃ fd, Fun K d_are_weights.name d_are_weights.qual d_are_weights.st (d_are_weights.ad K) fd := T.sy.fn 6 (d := d_are_weights) rfl
theorem b_are_weights {K : PySem.W.Frag} (fd : FuncData) (F : Fun K d_are_weights.name d_are_weights.qual d_are_weights.st (d_are_weights.ad K) fd) : Binds K fd ["value"] [] := Fun.binds (ps := ["value"]) F fun _ _ _ _ _ _ us hl => match us, hl with | [_], _ => rfl
def d_check_weights : Df := ⟨fun K => ga K "check_weights", "check_weights", "check_weights", top 27⟩
theorem f_check_weights {K : PySem.W.Frag} {mg : Str → Option Value} (T : Tx K mg) : ∃ fd, Fun K d_check_weights.name d_check_weights.qual d_check_weights.st (d_check_weights.ad K) fd := T.sy.fn 7 (d := d_check_weights) rfl
theorem b_check_weights {K : PySem.W.Frag} (fd : FuncData) (F : Fun K d_check_weights.name d_check_weights.qual d_check_weights.st (d_check_weights.ad K) fd) : Binds K fd ["value"] [] := Fun.binds (ps := ["value"]) F fun _ _ _ _ _ _ us hl => match us, hl with | [_], _ => rfl
def d_in_order : Df := ⟨fun K => ga K "in_order", "in_order", "in_order", top 28⟩
theorem f_in_order {K : PySem.W.Frag} {mg : Str → Option Value} (T : Tx K mg) : ∃ fd, Fun K d_in_order.name d_in_order.qual d_in_order.st (d_in_order.ad K) fd := T.sy.fn 8 (d := d_in_order) rfl
theorem b_in_order {K : PySem.W.Frag} (fd : FuncData) (F : Fun K d_in_order.name d_in_order.qual d_in_order.st (d_in_order.ad K) fd) : Binds K fd ["sizes"] [] := Fun.binds (ps := ["sizes"]) F fun _ _ _ _ _ _ us hl => match us, hl with | [_], _ => rfl
def d_are_figures : Df := ⟨fun K => ga K "are_figures", "are_figures", "are_figures", top 33⟩
theorem f_are_figures {K : PySem.W.Frag} {mg : Str → Option Value} (T : Tx K mg) : ∃ fd, Fun K d_are_figures.name d_are_figures.qual d_are_figures.st (d_are_figures.ad K) fd := T.sy.fn 9 (d := d_are_figures) rfl
theorem b_are_figures {K : PySem.W.Frag} (fd : FuncData) (F : Fun K d_are_figures.name d_are_figures.qual d_are_figures.st (d_are_figures.ad K) fd) : Binds K fd ["word"] [] := Fun.binds (ps := ["word"]) F fun _ _ _ _ _ _ us hl => match us, hl with | [_], _ => rfl
def d_line_of : Df := ⟨fun K => ga K "line_of", "line_of", "line_of", top 34⟩
theorem f_line_of {K : PySem.W.Frag} {mg : Str → Option Value} (T : Tx K mg) : ∃ fd, Fun K d_line_of.name d_line_of.qual d_line_of.st (d_line_of.ad K) fd := T.sy.fn 10 (d := d_line_of) rfl
theorem b_line_of {K : PySem.W.Frag} (fd : FuncData) (F : Fun K d_line_of.name d_line_of.qual d_line_of.st (d_line_of.ad K) fd) : Binds K fd ["word", "numbers"] [] := Fun.binds (ps := ["word", "numbers"]) F fun _ _ _ _ _ _ us hl => match us, hl with | [_, _], _ => rfl
def d_numbers_of : Df := ⟨fun K => ga K "numbers_of", "numbers_of", "numbers_of", top 35⟩
theorem f_numbers_of {K : PySem.W.Frag} {mg : Str → Option Value} (T : Tx K mg) : ∃ fd, Fun K d_numbers_of.name d_numbers_of.qual d_numbers_of.st (d_numbers_of.ad K) fd := T.sy.fn 11 (d := d_numbers_of) rfl
theorem b_numbers_of {K : PySem.W.Frag} (fd : FuncData) (F : Fun K d_numbers_of.name d_numbers_of.qual d_numbers_of.st (d_numbers_of.ad K) fd) : Binds K fd ["line", "word"] [] := Fun.binds (ps := ["line", "word"]) F fun _ _ _ _ _ _ us hl => match us, hl with | [_, _], _ => rfl
def d_lines_of : Df := ⟨fun K => ga K "lines_of", "lines_of", "lines_of", top 36⟩
theorem f_lines_of {K : PySem.W.Frag} {mg : Str → Option Value} (T : Tx K mg) : ∃ fd, Fun K d_lines_of.name d_lines_of.qual d_lines_of.st (d_lines_of.ad K) fd := T.sy.fn 12 (d := d_lines_of) rfl
theorem b_lines_of {K : PySem.W.Frag} (fd : FuncData) (F : Fun K d_lines_of.name d_lines_of.qual d_lines_of.st (d_lines_of.ad K) fd) : Binds K fd ["text"] [] := Fun.binds (ps := ["text"]) F fun _ _ _ _ _ _ us hl => match us, hl with | [_], _ => rfl
def d_check_line : Df := ⟨fun K => ga K "check_line", "check_line", "check_line", top 37⟩
theorem f_check_line {K : PySem.W.Frag} {mg : Str → Option Value} (T : Tx K mg) : ∃ fd, Fun K d_check_line.name d_check_line.qual d_check_line.st (d_check_line.ad K) fd := T.sy.fn 13 (d := d_check_line) rfl
theorem b_check_line {K : PySem.W.Frag} (fd : FuncData) (F : Fun K d_check_line.name d_check_line.qual d_check_line.st (d_check_line.ad K) fd) : Binds K fd ["number", "numbers", "is_so"] [] := Fun.binds (ps := ["number", "numbers", "is_so"]) F fun _ _ _ _ _ _ us hl => match us, hl with | [_, _, _], _ => rfl
def d_steps_text : Df := ⟨fun K => ga K "steps_text", "steps_text", "steps_text", top 38⟩
theorem f_steps_text {K : PySem.W.Frag} {mg : Str → Option Value} (T : Tx K mg) : ∃ fd, Fun K d_steps_text.name d_steps_text.qual d_steps_text.st (d_steps_text.ad K) fd := T.sy.fn 14 (d := d_steps_text) rfl
theorem b_steps_text {K : PySem.W.Frag} (fd : FuncData) (F : Fun K d_steps_text.name d_steps_text.qual d_steps_text.st (d_steps_text.ad K) fd) : Binds K fd ["steps"] [] := Fun.binds (ps := ["steps"]) F fun _ _ _ _ _ _ us hl => match us, hl with | [_], _ => rfl
def d_read_steps : Df := ⟨fun K => ga K "read_steps", "read_steps", "read_steps", top 39⟩
theorem f_read_steps {K : PySem.W.Frag} {mg : Str → Option Value} (T : Tx K mg) : ∃ fd, Fun K d_read_steps.name d_read_steps.qual d_read_steps.st (d_read_steps.ad K) fd := T.sy.fn 15 (d := d_read_steps) rfl
theorem b_read_steps {K : PySem.W.Frag} (fd : FuncData) (F : Fun K d_read_steps.name d_read_steps.qual d_read_steps.st (d_read_steps.ad K) fd) : Binds K fd ["text"] [] := Fun.binds (ps := ["text"]) F fun _ _ _ _ _ _ us hl => match us, hl with | [_], _ => rfl
def d_tree_text : Df := ⟨fun K => ga K "tree_text", "tree_text", "tree_text", top 40⟩
theorem f_tree_text {K : PySem.W.Frag} {mg : Str → Option Value} (T : Tx K mg) : ∃ fd, Fun K d_tree_text.name d_tree_text.qual d_tree_text.st (d_tree_text.ad K) fd := T.sy.fn 16 (d := d_tree_text) rfl
theorem b_tree_text {K : PySem.W.Frag} (fd : FuncData) (F : Fun K d_tree_text.name d_tree_text.qual d_tree_text.st (d_tree_text.ad K) fd) : Binds K fd ["tree"] [] := Fun.binds (ps := ["tree"]) F fun _ _ _ _ _ _ us hl => match us, hl with | [_], _ => rfl
def d_read_tree : Df := ⟨fun K => ga K "read_tree", "read_tree", "read_tree", top 41⟩
theorem f_read_tree {K : PySem.W.Frag} {mg : Str → Option Value} (T : Tx K mg) : ∃ fd, Fun K d_read_tree.name d_read_tree.qual d_read_tree.st (d_read_tree.ad K) fd := T.sy.fn 17 (d := d_read_tree) rfl
theorem b_read_tree {K : PySem.W.Frag} (fd : FuncData) (F : Fun K d_read_tree.name d_read_tree.qual d_read_tree.st (d_read_tree.ad K) fd) : Binds K fd ["text"] [] := Fun.binds (ps := ["text"]) F fun _ _ _ _ _ _ us hl => match us, hl with | [_], _ => rfl
def d_weights_text : Df := ⟨fun K => ga K "weights_text", "weights_text", "weights_text", top 42⟩
theorem f_weights_text {K : PySem.W.Frag} {mg : Str → Option Value} (T : Tx K mg) : ∃ fd, Fun K d_weights_text.name d_weights_text.qual d_weights_text.st (d_weights_text.ad K) fd := T.sy.fn 18 (d := d_weights_text) rfl
theorem b_weights_text {K : PySem.W.Frag} (fd : FuncData) (F : Fun K d_weights_text.name d_weights_text.qual d_weights_text.st (d_weights_text.ad K) fd) : Binds K fd ["weights"] [] := Fun.binds (ps := ["weights"]) F fun _ _ _ _ _ _ us hl => match us, hl with | [_], _ => rfl
def d_read_weights : Df := ⟨fun K => ga K "read_weights", "read_weights", "read_weights", top 43⟩
theorem f_read_weights {K : PySem.W.Frag} {mg : Str → Option Value} (T : Tx K mg) : ∃ fd, Fun K d_read_weights.name d_read_weights.qual d_read_weights.st (d_read_weights.ad K) fd := T.sy.fn 19 (d := d_read_weights) rfl
theorem b_read_weights {K : PySem.W.Frag} (fd : FuncData) (F : Fun K d_read_weights.name d_read_weights.qual d_read_weights.st (d_read_weights.ad K) fd) : Binds K fd ["text"] [] := Fun.binds (ps := ["text"]) F fun _ _ _ _ _ _ us hl => match us, hl with | [_], _ => rfl
def d_law_numbers : Df := ⟨fun K => ga K "_law_numbers", "_law_numbers", "_law_numbers", top 45⟩
theorem f_law_numbers {K : PySem.W.Frag} {mg : Str → Option Value} (T : Tx K mg) : ∃ fd, Fun K d_law_numbers.name d_law_numbers.qual d_law_numbers.st (d_law_numbers.ad K) fd := T.sy.fn 20 (d := d_law_numbers) rfl
theorem b_law_numbers {K : PySem.W.Frag} (fd : FuncData) (F : Fun K d_law_numbers.name d_law_numbers.qual d_law_numbers.st (d_law_numbers.ad K) fd) : Binds K fd ["_law_cell", "_law_salt", "_law_often"] [] := Fun.binds (ps := ["_law_cell", "_law_salt", "_law_often"]) F fun _ _ _ _ _ _ us hl => match us, hl with | [_, _, _], _ => rfl
def d_law_opened : Df := ⟨fun K => ga K "_law_opened", "_law_opened", "_law_opened", top 46⟩
theorem f_law_opened {K : PySem.W.Frag} {mg : Str → Option Value} (T : Tx K mg) : ∃ fd, Fun K d_law_opened.name d_law_opened.qual d_law_opened.st (d_law_opened.ad K) fd := T.sy.fn 21 (d := d_law_opened) rfl
theorem b_law_opened {K : PySem.W.Frag} (fd : FuncData) (F : Fun K d_law_opened.name d_law_opened.qual d_law_opened.st (d_law_opened.ad K) fd) : Binds K fd ["_law_script", "_law_k", "_law_often"] [] := Fun.binds (ps := ["_law_script", "_law_k", "_law_often"]) F fun _ _ _ _ _ _ us hl => match us, hl with | [_, _, _], _ => rfl
def d_law_draw : Df := ⟨fun K => ga K "_law_draw", "_law_draw", "_law_draw", top 47⟩
theorem f_law_draw {K : PySem.W.Frag} {mg : Str → Option Value} (T : Tx K mg) : ∃ fd, Fun K d_law_draw.name d_law_draw.qual d_law_draw.st (d_law_draw.ad K) fd := T.sy.fn 22 (d := d_law_draw) rfl
theorem b_law_draw {K : PySem.W.Frag} (fd : FuncData) (F : Fun K d_law_draw.name d_law_draw.qual d_law_draw.st (d_law_draw.ad K) fd) : Binds K fd ["_law_pool", "_law_often"] [] := Fun.binds (ps := ["_law_pool", "_law_often"]) F fun _ _ _ _ _ _ us hl => match us, hl with | [_, _], _ => rfl
def d_law_pick : Df := ⟨fun K => ga K "_law_pick", "_law_pick", "_law_pick", top 48⟩
theorem f_law_pick {K : PySem.W.Frag} {mg : Str → Option Value} (T : Tx K mg) : ∃ fd, Fun K d_law_pick.name d_law_pick.qual d_law_pick.st (d_law_pick.ad K) fd := T.sy.fn 23 (d := d_law_pick) rfl
theorem b_law_pick {K : PySem.W.Frag} (fd : FuncData) (F : Fun K d_law_pick.name d_law_pick.qual d_law_pick.st (d_law_pick.ad K) fd) : Binds K fd ["_law_pool", "_law_some"] [] := Fun.binds (ps := ["_law_pool", "_law_some"]) F fun _ _ _ _ _ _ us hl => match us, hl with | [_, _], _ => rfl
def d_law_sizes : Df := ⟨fun K => ga K "_law_sizes", "_law_sizes", "_law_sizes", top 49⟩
theorem f_law_sizes {K : PySem.W.Frag} {mg : Str → Option Value} (T : Tx K mg) : ∃ fd, Fun K d_law_sizes.name d_law_sizes.qual d_law_sizes.st (d_law_sizes.ad K) fd := T.sy.fn 24 (d := d_law_sizes) rfl
theorem b_law_sizes {K : PySem.W.Frag} (fd : FuncData) (F : Fun K d_law_sizes.name d_law_sizes.qual d_law_sizes.st (d_law_sizes.ad K) fd) : Binds K fd ["_law_pool", "_law_often", "_law_most"] [] := Fun.binds (ps := ["_law_pool", "_law_often", "_law_most"]) F fun _ _ _ _ _ _ us hl => match us, hl with | [_, _, _], _ => rfl
def d_law_steps : Df := ⟨fun K => ga K "_law_steps", "_law_steps", "_law_steps", top 50⟩
theorem f_law_steps {K : PySem.W.Frag} {mg : Str → Option Value} (T : Tx K mg) : ∃ fd, Fun K d_law_steps.name d_law_steps.qual d_law_steps.st (d_law_steps.ad K) fd := T.sy.fn 25 (d := d_law_steps) rfl
theorem b_law_steps {K : PySem.W.Frag} (fd : FuncData) (F : Fun K d_law_steps.name d_law_steps.qual d_law_steps.st (d_law_steps.ad K) fd) : Binds K fd ["_law_pool", "_law_most"] [] := Fun.binds (ps := ["_law_pool", "_law_most"]) F fun _ _ _ _ _ _ us hl => match us, hl with | [_, _], _ => rfl
def d_law_weights : Df := ⟨fun K => ga K "_law_weights", "_law_weights", "_law_weights", top 51⟩
theorem f_law_weights {K : PySem.W.Frag} {mg : Str → Option Value} (T : Tx K mg) : ∃ fd, Fun K d_law_weights.name d_law_weights.qual d_law_weights.st (d_law_weights.ad K) fd := T.sy.fn 26 (d := d_law_weights) rfl
theorem b_law_weights {K : PySem.W.Frag} (fd : FuncData) (F : Fun K d_law_weights.name d_law_weights.qual d_law_weights.st (d_law_weights.ad K) fd) : Binds K fd ["_law_pool", "_law_some"] [] := Fun.binds (ps := ["_law_pool", "_law_some"]) F fun _ _ _ _ _ _ us hl => match us, hl with | [_, _], _ => rfl
def d_law_tree_text : Df := ⟨fun K => ga K "_law_tree_text", "_law_tree_text", "_law_tree_text", top 53⟩
theorem f_law_tree_text {K : PySem.W.Frag} {mg : Str → Option Value} (T : Tx K mg) : ∃ fd, Fun K d_law_tree_text.name d_law_tree_text.qual d_law_tree_text.st (d_law_tree_text.ad K) fd := T.sy.fn 27 (d := d_law_tree_text) rfl
theorem b_law_tree_text {K : PySem.W.Frag} (fd : FuncData) (F : Fun K d_law_tree_text.name d_law_tree_text.qual d_law_tree_text.st (d_law_tree_text.ad K) fd) : Binds K fd ["_law_plan"] [] := Fun.binds (ps := ["_law_plan"]) F fun _ _ _ _ _ _ us hl => match us, hl with | [_], _ => rfl
def d_law_steps_text : Df := ⟨fun K => ga K "_law_steps_text", "_law_steps_text", "_law_steps_text", top 54⟩
theorem f_law_steps_text {K : PySem.W.Frag} {mg : Str → Option Value} (T : Tx K mg) : ∃ fd, Fun K d_law_steps_text.name d_law_steps_text.qual d_law_steps_text.st (d_law_steps_text.ad K) fd := T.sy.fn 28 (d := d_law_steps_text) rfl
theorem b_law_steps_text {K : PySem.W.Frag} (fd : FuncData) (F : Fun K d_law_steps_text.name d_law_steps_text.qual d_law_steps_text.st (d_law_steps_text.ad K) fd) : Binds K fd ["_law_most", "_law_bounds"] [] := Fun.binds (ps := ["_law_most", "_law_bounds"]) F fun _ _ _ _ _ _ us hl => match us, hl with | [_, _], _ => rfl
def d_law_weights_text : Df := ⟨fun K => ga K "_law_weights_text", "_law_weights_text", "_law_weights_text", top 55⟩
theorem f_law_weights_text {K : PySem.W.Frag} {mg : Str → Option Value} (T : Tx K mg) : ∃ fd, Fun K d_law_weights_text.name d_law_weights_text.qual d_law_weights_text.st (d_law_weights_text.ad K) fd := T.sy.fn 29 (d := d_law_weights_text) rfl
theorem b_law_weights_text {K : PySem.W.Frag} (fd : FuncData) (F : Fun K d_law_weights_text.name d_law_weights_text.qual d_law_weights_text.st (d_law_weights_text.ad K) fd) : Binds K fd ["_law_weights_here"] [] := Fun.binds (ps := ["_law_weights_here"]) F fun _ _ _ _ _ _ us hl => match us, hl with | [_], _ => rfl
def d_law_number : Df := ⟨fun K => ga K "_law_number", "_law_number", "_law_number", top 56⟩
theorem f_law_number {K : PySem.W.Frag} {mg : Str → Option Value} (T : Tx K mg) : ∃ fd, Fun K d_law_number.name d_law_number.qual d_law_number.st (d_law_number.ad K) fd := T.sy.fn 30 (d := d_law_number) rfl
theorem b_law_number {K : PySem.W.Frag} (fd : FuncData) (F : Fun K d_law_number.name d_law_number.qual d_law_number.st (d_law_number.ad K) fd) : Binds K fd ["_law_word"] [] := Fun.binds (ps := ["_law_word"]) F fun _ _ _ _ _ _ us hl => match us, hl with | [_], _ => rfl
def d_law_line : Df := ⟨fun K => ga K "_law_line", "_law_line", "_law_line", top 57⟩
theorem f_law_line {K : PySem.W.Frag} {mg : Str → Option Value} (T : Tx K mg) : ∃ fd, Fun K d_law_line.name d_law_line.qual d_law_line.st (d_law_line.ad K) fd := T.sy.fn 31 (d := d_law_line) rfl
theorem b_law_line {K : PySem.W.Frag} (fd : FuncData) (F : Fun K d_law_line.name d_law_line.qual d_law_line.st (d_law_line.ad K) fd) : Binds K fd ["_law_line_here", "_law_word"] [] := Fun.binds (ps := ["_law_line_here", "_law_word"]) F fun _ _ _ _ _ _ us hl => match us, hl with | [_, _], _ => rfl
def d_law_are_bounds : Df := ⟨fun K => ga K "_law_are_bounds", "_law_are_bounds", "_law_are_bounds", top 58⟩
theorem f_law_are_bounds {K : PySem.W.Frag} {mg : Str → Option Value} (T : Tx K mg) : ∃ fd, Fun K d_law_are_bounds.name d_law_are_bounds.qual d_law_are_bounds.st (d_law_are_bounds.ad K) fd := T.sy.fn 32 (d := d_law_are_bounds) rfl
theorem b_law_are_bounds {K : PySem.W.Frag} (fd : FuncData) (F : Fun K d_law_are_bounds.name d_law_are_bounds.qual d_law_are_bounds.st (d_law_are_bounds.ad K) fd) : Binds K fd ["_law_numbers_here"] [] := Fun.binds (ps := ["_law_numbers_here"]) F fun _ _ _ _ _ _ us hl => match us, hl with | [_], _ => rfl
def d_law_read_steps : Df := ⟨fun K => ga K "_law_read_steps", "_law_read_steps", "_law_read_steps", top 59⟩
theorem f_law_read_steps {K : PySem.W.Frag} {mg : Str → Option Value} (T : Tx K mg) : ∃ fd, Fun K d_law_read_steps.name d_law_read_steps.qual d_law_read_steps.st (d_law_read_steps.ad K) fd := T.sy.fn 33 (d := d_law_read_steps) rfl
theorem b_law_read_steps {K : PySem.W.Frag} (fd : FuncData) (F : Fun K d_law_read_steps.name d_law_read_steps.qual d_law_read_steps.st (d_law_read_steps.ad K) fd) : Binds K fd ["_law_lines"] [] := Fun.binds (ps := ["_law_lines"]) F fun _ _ _ _ _ _ us hl => match us, hl with | [_], _ => rfl
def d_law_read_tree : Df := ⟨fun K => ga K "_law_read_tree", "_law_read_tree", "_law_read_tree", top 60⟩
theorem f_law_read_tree {K : PySem.W.Frag} {mg : Str → Option Value} (T : Tx K mg) : ∃ fd, Fun K d_law_read_tree.name d_law_read_tree.qual d_law_read_tree.st (d_law_read_tree.ad K) fd := T.sy.fn 34 (d := d_law_read_tree) rfl
theorem b_law_read_tree {K : PySem.W.Frag} (fd : FuncData) (F : Fun K d_law_read_tree.name d_law_read_tree.qual d_law_read_tree.st (d_law_read_tree.ad K) fd) : Binds K fd ["_law_lines"] [] := Fun.binds (ps := ["_law_lines"]) F fun _ _ _ _ _ _ us hl => match us, hl with | [_], _ => rfl
def d_law_read_weights : Df := ⟨fun K => ga K "_law_read_weights", "_law_read_weights", "_law_read_weights", top 61⟩
theorem f_law_read_weights {K : PySem.W.Frag} {mg : Str → Option Value} (T : Tx K mg) : ∃ fd, Fun K d_law_read_weights.name d_law_read_weights.qual d_law_read_weights.st (d_law_read_weights.ad K) fd := T.sy.fn 35 (d := d_law_read_weights) rfl
theorem b_law_read_weights {K : PySem.W.Frag} (fd : FuncData) (F : Fun K d_law_read_weights.name d_law_read_weights.qual d_law_read_weights.st (d_law_read_weights.ad K) fd) : Binds K fd ["_law_lines"] [] := Fun.binds (ps := ["_law_lines"]) F fun _ _ _ _ _ _ us hl => match us, hl with | [_], _ => rfl
def d_law_written : Df := ⟨fun K => ga K "_law_written", "_law_written", "_law_written", top 62⟩
theorem f_law_written {K : PySem.W.Frag} {mg : Str → Option Value} (T : Tx K mg) : ∃ fd, Fun K d_law_written.name d_law_written.qual d_law_written.st (d_law_written.ad K) fd := T.sy.fn 36 (d := d_law_written) rfl
theorem b_law_written {K : PySem.W.Frag} (fd : FuncData) (F : Fun K d_law_written.name d_law_written.qual d_law_written.st (d_law_written.ad K) fd) : Binds K fd ["_law_told"] [] := Fun.binds (ps := ["_law_told"]) F fun _ _ _ _ _ _ us hl => match us, hl with | [_], _ => rfl
def d_law_reading : Df := ⟨fun K => ga K "_law_reading", "_law_reading", "_law_reading", top 63⟩
theorem f_law_reading {K : PySem.W.Frag} {mg : Str → Option Value} (T : Tx K mg) : ∃ fd, Fun K d_law_reading.name d_law_reading.qual d_law_reading.st (d_law_reading.ad K) fd := T.sy.fn 37 (d := d_law_reading) rfl
theorem b_law_reading {K : PySem.W.Frag} (fd : FuncData) (F : Fun K d_law_reading.name d_law_reading.qual d_law_reading.st (d_law_reading.ad K) fd) : Binds K fd ["_law_kind", "_law_lines"] [] := Fun.binds (ps := ["_law_kind", "_law_lines"]) F fun _ _ _ _ _ _ us hl => match us, hl with | [_, _], _ => rfl
def d_law_heard : Df := ⟨fun K => ga K "_law_heard", "_law_heard", "_law_heard", top 64⟩
theorem f_law_heard {K : PySem.W.Frag} {mg : Str → Option Value} (T : Tx K mg) : ∃ fd, Fun K d_law_heard.name d_law_heard.qual d_law_heard.st (d_law_heard.ad K) fd := T.sy.fn 38 (d := d_law_heard) rfl
theorem b_law_heard {K : PySem.W.Frag} (fd : FuncData) (F : Fun K d_law_heard.name d_law_heard.qual d_law_heard.st (d_law_heard.ad K) fd) : Binds K fd ["_law_kind", "_law_text"] [] := Fun.binds (ps := ["_law_kind", "_law_text"]) F fun _ _ _ _ _ _ us hl => match us, hl with | [_, _], _ => rfl
def d_law_bent : Df := ⟨fun K => ga K "_law_bent", "_law_bent", "_law_bent", top 65⟩
theorem f_law_bent {K : PySem.W.Frag} {mg : Str → Option Value} (T : Tx K mg) : ∃ fd, Fun K d_law_bent.name d_law_bent.qual d_law_bent.st (d_law_bent.ad K) fd := T.sy.fn 39 (d := d_law_bent) rfl
theorem b_law_bent {K : PySem.W.Frag} (fd : FuncData) (F : Fun K d_law_bent.name d_law_bent.qual d_law_bent.st (d_law_bent.ad K) fd) : Binds K fd ["_law_pool", "_law_text"] [] := Fun.binds (ps := ["_law_pool", "_law_text"]) F fun _ _ _ _ _ _ us hl => match us, hl with | [_, _], _ => rfl
def d_law_ends_right : Df := ⟨fun K => ga K "_law_ends_right", "_law_ends_right", "_law_ends_right", top 66⟩
theorem f_law_ends_right {K : PySem.W.Frag} {mg : Str → Option Value} (T : Tx K mg) : ∃ fd, Fun K d_law_ends_right.name d_law_ends_right.qual d_law_ends_right.st (d_law_ends_right.ad K) fd := T.sy.fn 40 (d := d_law_ends_right) rfl
theorem b_law_ends_right {K : PySem.W.Frag} (fd : FuncData) (F : Fun K d_law_ends_right.name d_law_ends_right.qual d_law_ends_right.st (d_law_ends_right.ad K) fd) : Binds K fd [] [] := Fun.binds (ps := []) F fun _ _ _ _ _ _ us hl => match us, hl with | [], _ => rfl
def d_law : Df := ⟨fun K => ga K "law", "law", "law", top 67⟩
theorem f_law {K : PySem.W.Frag} {mg : Str → Option Value} (T : Tx K mg) : ∃ fd, Fun K d_law.name d_law.qual d_law.st (d_law.ad K) fd := T.sy.fn 41 (d := d_law) rfl
theorem b_law {K : PySem.W.Frag} (fd : FuncData) (F : Fun K d_law.name d_law.qual d_law.st (d_law.ad K) fd) : Binds K fd ["_law_script"] [] := Fun.binds (ps := ["_law_script"]) F fun _ _ _ _ _ _ us hl => match us, hl with | [_], _ => rfl
def d_Steps_init : Df := ⟨fun K => ma K (ga K "Steps") "__init__", "__init__", "Steps.__init__", inClass (top 14) 0⟩
theorem f_Steps_init {K : PySem.W.Frag} {mg : Str → Option Value} (T : Tx K mg) : ∃ fd, Fun K d_Steps_init.name d_Steps_init.qual d_Steps_init.st (d_Steps_init.ad K) fd := T.sy.fn 42 (d := d_Steps_init) rfl
theorem b_Steps_init {K : PySem.W.Frag} (fd : FuncData) (F : Fun K d_Steps_init.name d_Steps_init.qual d_Steps_init.st (d_Steps_init.ad K) fd) : Binds K fd ["self", "most", "bounds"] [] := Fun.binds (ps := ["self", "most", "bounds"]) F fun _ _ _ _ _ _ us hl => match us, hl with | [_, _, _], _ => rfl
def d_Tree_init : Df := ⟨fun K => ma K (ga K "Tree") "__init__", "__init__", "Tree.__init__", inClass (top 20) 0⟩
theorem f_Tree_init {K : PySem.W.Frag} {mg : Str → Option Value} (T : Tx K mg) : ∃ fd, Fun K d_Tree_init.name d_Tree_init.qual d_Tree_init.st (d_Tree_init.ad K) fd := T.sy.fn 43 (d := d_Tree_init) rfl
theorem b_Tree_init {K : PySem.W.Frag} (fd : FuncData) (F : Fun K d_Tree_init.name d_Tree_init.qual d_Tree_init.st (d_Tree_init.ad K) fd) : Binds K fd ["self", "classes", "told"] [] := Fun.binds (ps := ["self", "classes", "told"]) F fun _ _ _ _ _ _ us hl => match us, hl with | [_, _, _], _ => rfl
def d_BadSteps_init : Df := ⟨fun K => ma K (ga K "BadSteps") "__init__", "__init__", "BadSteps.__init__", inClass (top 3) 0⟩
theorem f_BadSteps_init {K : PySem.W.Frag} {mg : Str → Option Value} (T : Tx K mg) : ∃ fd, Fun K d_BadSteps_init.name d_BadSteps_init.qual d_BadSteps_init.st (d_BadSteps_init.ad K) fd := T.sy.fn 44 (d := d_BadSteps_init) rfl
theorem b_BadSteps_init {K : PySem.W.Frag} (fd : FuncData) (F : Fun K d_BadSteps_init.name d_BadSteps_init.qual d_BadSteps_init.st (d_BadSteps_init.ad K) fd) : Binds K fd ["self", "part"] [] := Fun.binds (ps := ["self", "part"]) F fun _ _ _ _ _ _ us hl => match us, hl with | [_, _], _ => rfl
def d_BadTree_init : Df := ⟨fun K => ma K (ga K "BadTree") "__init__", "__init__", "BadTree.__init__", inClass (top 4) 0⟩
theorem f_BadTree_init {K : PySem.W.Frag} {mg : Str → Option Value} (T : Tx K mg) : ∃ fd, Fun K d_BadTree_init.name d_BadTree_init.qual d_BadTree_init.st (d_BadTree_init.ad K) fd := T.sy.fn 45 (d := d_BadTree_init) rfl
theorem b_BadTree_init {K : PySem.W.Frag} (fd : FuncData) (F : Fun K d_BadTree_init.name d_BadTree_init.qual d_BadTree_init.st (d_BadTree_init.ad K) fd) : Binds K fd ["self", "part"] [] := Fun.binds (ps := ["self", "part"]) F fun _ _ _ _ _ _ us hl => match us, hl with | [_, _], _ => rfl
def d_BadArgument_init : Df := ⟨fun K => ma K (ga K "BadArgument") "__init__", "__init__", "BadArgument.__init__", inClass (top 7) 0⟩
theorem f_BadArgument_init {K : PySem.W.Frag} {mg : Str → Option Value} (T : Tx K mg) : ∃ fd, Fun K d_BadArgument_init.name d_BadArgument_init.qual d_BadArgument_init.st (d_BadArgument_init.ad K) fd := T.sy.fn 46 (d := d_BadArgument_init) rfl
theorem b_BadArgument_init {K : PySem.W.Frag} (fd : FuncData) (F : Fun K d_BadArgument_init.name d_BadArgument_init.qual d_BadArgument_init.st (d_BadArgument_init.ad K) fd) : Binds K fd ["self", "value"] [] := Fun.binds (ps := ["self", "value"]) F fun _ _ _ _ _ _ us hl => match us, hl with | [_, _], _ => rfl
def d_BadText_init : Df := ⟨fun K => ma K (ga K "BadText") "__init__", "__init__", "BadText.__init__", inClass (top 8) 0⟩
theorem f_BadText_init {K : PySem.W.Frag} {mg : Str → Option Value} (T : Tx K mg) : ∃ fd, Fun K d_BadText_init.name d_BadText_init.qual d_BadText_init.st (d_BadText_init.ad K) fd := T.sy.fn 47 (d := d_BadText_init) rfl
theorem b_BadText_init {K : PySem.W.Frag} (fd : FuncData) (F : Fun K d_BadText_init.name d_BadText_init.qual d_BadText_init.st (d_BadText_init.ad K) fd) : Binds K fd ["self", "line"] [] := Fun.binds (ps := ["self", "line"]) F fun _ _ _ _ _ _ us hl => match us, hl with | [_, _], _ => rfl
def d_Steps_bounds : Df := ⟨fun K => getterOf K (ga K "Steps") "bounds", "bounds", "Steps.bounds", inClass (top 14) 1⟩
theorem f_Steps_bounds {K : PySem.W.Frag} {mg : Str → Option Value} (T : Tx K mg) : ∃ fd, Fun K d_Steps_bounds.name d_Steps_bounds.qual d_Steps_bounds.st (d_Steps_bounds.ad K) fd := T.sy.fn 48 (d := d_Steps_bounds) rfl
theorem b_Steps_bounds {K : PySem.W.Frag} (fd : FuncData) (F : Fun K d_Steps_bounds.name d_Steps_bounds.qual d_Steps_bounds.st (d_Steps_bounds.ad K) fd) : Binds K fd ["self"] [] := Fun.binds (ps := ["self"]) F fun _ _ _ _ _ _ us hl => match us, hl with | [_], _ => rfl
def d_Tree_told : Df := ⟨fun K => getterOf K (ga K "Tree") "told", "told", "Tree.told", inClass (top 20) 3⟩
theorem f_Tree_told {K : PySem.W.Frag} {mg : Str → Option Value} (T : Tx K mg) : ∃ fd, Fun K d_Tree_told.name d_Tree_told.qual d_Tree_told.st (d_Tree_told.ad K) fd := T.sy.fn 49 (d := d_Tree_told) rfl
theorem b_Tree_told {K : PySem.W.Frag} (fd : FuncData) (F : Fun K d_Tree_told.name d_Tree_told.qual d_Tree_told.st (d_Tree_told.ad K) fd) : Binds K fd ["self"] [] := Fun.binds (ps := ["self"]) F fun _ _ _ _ _ _ us hl => match us, hl with | [_], _ => rfl
end K75
/-! the plain law: texts as lists of signs; what is read, what is written -/
namespace K75
open PySem
/-! ### lists cut and joined -/
theorem spl_one (s : Nat) (acc l : List Nat) : TL.spl [s] 0 acc l = match l with
    | [] => [acc]
    | c :: r => if c = s then acc :: TL.spl [s] 0 [] r else TL.spl [s] 0 (acc ++ [c]) r := by
  cases l with
  | nil => rfl
  | cons c r =>
    by_cases h : c = s
    · subst h
      rw [TL.spl_hit (by simp [TL.pre])]
      simp
    · rw [TL.spl_miss (by simp [TL.pre, h])]
      simp [h]
theorem spl_ne (s : Nat) : ∀ (l acc : List Nat), TL.spl [s] 0 acc l ≠ []
  | [], acc => by simp [TL.spl_nil]
  | c :: r, acc => by
    rw [spl_one]
    dsimp only
    split
    · simp
    · exact spl_ne s r _
theorem joinL_cons {s : List Nat} {p : List Nat} {r : List (List Nat)} (h : r ≠ []) : TL.joinL s (p :: r) = p ++ (s ++ TL.joinL s r) := by
  cases r with
  | nil => exact absurd rfl h
  | cons q r => rfl
theorem join_spl (s : Nat) : ∀ (l acc : List Nat), TL.joinL [s] (TL.spl [s] 0 acc l) = acc ++ l
  | [], acc => by simp [TL.spl_nil, TL.joinL]
  | c :: r, acc => by
    rw [spl_one]
    dsimp only
    split
    · rename_i h
      subst h
      rw [joinL_cons (spl_ne _ _ _), join_spl c r []]
      simp
    · rw [join_spl s r (acc ++ [c])]
      simp
theorem spl_free (s : Nat) : ∀ (l acc : List Nat), s ∉ acc → ∀ p ∈ TL.spl [s] 0 acc l, s ∉ p
  | [], acc, ha, p, hp => by
    rw [TL.spl_nil, List.mem_singleton] at hp
    subst hp
    exact ha
  | c :: r, acc, ha, p, hp => by
    rw [spl_one] at hp
    dsimp only at hp
    split at hp
    · rcases List.mem_cons.mp hp with h | h
      · subst h
        exact ha
      · exact spl_free s r [] (by simp) p h
    · rename_i h
      exact spl_free s r (acc ++ [c]) (by
        intro hm
        rcases List.mem_append.mp hm with hm | hm
        · exact ha hm
        · exact h (List.mem_singleton.mp hm).symm) p hp
def sumL (ts : List (List Nat)) : Nat := (ts.map (·.length)).sum
theorem join_len (s : List Nat) : ∀ ts : List (List Nat), (TL.joinL s ts).length + s.length = sumL ts + ts.length * s.length ∨ ts = []
  | [] => .inr rfl
  | [p] => .inl (by simp [TL.joinL, sumL])
  | p :: q :: r => .inl (by
    rw [joinL_cons (by simp)]
    have h := (join_len s (q :: r)).resolve_right (by simp)
    simp only [sumL, List.map_cons, List.sum_cons, List.length_append, List.length_cons] at h ⊢
    rw [Nat.add_mul, Nat.one_mul]
    omega)
theorem join_le (s : List Nat) (ts : List (List Nat)) : (TL.joinL s ts).length ≤ sumL ts + ts.length * s.length := by
  rcases join_len s ts with h | h
  · omega
  · subst h
    simp [TL.joinL]
theorem spl_sum (s : Nat) (t : List Nat) : sumL (TL.spl [s] 0 [] t) + (TL.spl [s] 0 [] t).length = t.length + 1 := by
  have h := (join_len [s] (TL.spl [s] 0 [] t)).resolve_right (spl_ne _ _ _)
  rw [join_spl] at h
  simp at h
  omega
theorem sumL_mem {ts : List (List Nat)} {p : List Nat} (h : p ∈ ts) : p.length ≤ sumL ts := by
  induction ts with
  | nil => cases h
  | cons q r ih =>
    simp only [sumL, List.map_cons, List.sum_cons]
    rcases List.mem_cons.mp h with h | h
    · subst h
      omega
    · have := ih h
      simp only [sumL] at this
      omega
theorem sumL_le {ts : List (List Nat)} {k : Nat} (h : ∀ p ∈ ts, p.length ≤ k) : sumL ts ≤ ts.length * k := by
  induction ts with
  | nil => simp [sumL]
  | cons q r ih =>
    have h1 := ih fun p hp => h p (List.mem_cons_of_mem _ hp)
    have h2 := h q (List.mem_cons_self ..)
    simp only [sumL, List.map_cons, List.sum_cons, List.length_cons] at h1 ⊢
    rw [Nat.add_mul]
    omega
/-! ### numbers of a line -/
def isDig (c : Nat) : Bool := decide (48 ≤ c) && decide (c ≤ 57)
def isFig (w : List Nat) : Bool := (decide (1 ≤ w.length) && decide (w.length ≤ 4)) && w.all isDig
def val (w : List Nat) : Nat := NumText.digitsVal w
def words (l : List Nat) : List (List Nat) := TL.spl [32] 0 [] l
def linesOf (t : List Nat) : List (List Nat) := TL.spl [10] 0 [] t
def numsOf (l word : List Nat) : Option (List Nat) := match words l with
  | w :: ws => if w = word ∧ ws.all isFig = true then some (ws.map val) else none
  | [] => none
def lineT (word : List Nat) (ns : List Nat) : List Nat := TL.joinL [32] (word :: ns.map TL.numL)
theorem numL_all (n : Nat) : (TL.numL n).all isDig = true := by
  rw [List.all_eq_true]
  intro c hc
  have h := TL.numL_digits n c hc
  simp [isDig, h.1, h.2]
theorem numL_fig {n : Nat} (h : n < 10000) : isFig (TL.numL n) = true := by
  unfold isFig
  have h1 : (TL.numL n).length ≤ 4 := TL.numL_len (by decide) (by omega)
  have h2 : 1 ≤ (TL.numL n).length := by
    have := TL.numL_ne n
    cases q : TL.numL n with
    | nil => exact absurd q this
    | cons a r => simp
  simp [h1, h2, numL_all]
theorem val_lt_ {w : List Nat} (h : w.all isDig = true) : val w < 10 ^ w.length := by
  have key : ∀ (w : List Nat) (a : Nat), w.all isDig = true → w.foldl (fun acc c => acc * 10 + (c - 48)) a < (a + 1) * 10 ^ w.length := by
    intro w
    induction w with
    | nil =>
      intro a _
      simp
    | cons c r ih =>
      intro a h
      rw [List.all_cons, Bool.and_eq_true] at h
      have h1 := ih (a * 10 + (c - 48)) h.2
      have hd : c ≤ 57 := by
        have := h.1
        simp [isDig] at this
        exact this.2
      rw [List.foldl_cons, List.length_cons, Nat.pow_succ]
      refine Nat.lt_of_lt_of_le h1 ?_
      rw [Nat.mul_comm (10 ^ r.length) 10, ← Nat.mul_assoc]
      refine Nat.mul_le_mul_right _ ?_
      omega
  have h1 := key w 0 h
  simpa [val, NumText.digitsVal] using h1
theorem val_lt {w : List Nat} (h : isFig w = true) : val w < 10000 := by
  unfold isFig at h
  rw [Bool.and_eq_true, Bool.and_eq_true] at h
  have h1 := val_lt_ h.2
  have h2 := of_decide_eq_true h.1.2
  exact Nat.lt_of_lt_of_le h1 (Nat.le_trans (Nat.pow_le_pow_right (by decide) h2) (by decide))
theorem numsOf_lt {l word ns : List Nat} (h : numsOf l word = some ns) : ∀ n ∈ ns, n < 10000 := by
  unfold numsOf at h
  split at h
  · rename_i w ws e
    split at h
    · rename_i hc
      cases h
      intro n hn
      obtain ⟨v, hv, rfl⟩ := List.mem_map.mp hn
      exact val_lt (List.all_eq_true.mp hc.2 v hv)
    · cases h
  · cases h
theorem numsOf_len {l word ns : List Nat} (h : numsOf l word = some ns) : ns.length ≤ l.length := by
  unfold numsOf at h
  split at h
  · rename_i w ws e
    split at h
    · cases h
      have h1 := spl_sum 32 l
      unfold words at e
      rw [e] at h1
      simp only [List.length_cons, List.length_map] at h1 ⊢
      omega
    · cases h
  · cases h
theorem numsOf_lineT {word ns : List Nat} (hw : 32 ∉ word) (h : ∀ n ∈ ns, n < 10000) : numsOf (lineT word ns) word = some ns := by
  have e : words (lineT word ns) = word :: ns.map TL.numL := by
    unfold words lineT
    refine TL.spl_join (by simp) fun p hp => ?_
    rcases List.mem_cons.mp hp with hp | hp
    · subst hp
      exact hw
    · obtain ⟨n, _, rfl⟩ := List.mem_map.mp hp
      exact TL.numL_free (by omega)
  unfold numsOf
  rw [e]
  dsimp only
  rw [if_pos ⟨rfl, by
    rw [List.all_eq_true]
    intro w hm
    obtain ⟨n, hn, rfl⟩ := List.mem_map.mp hm
    exact numL_fig (h n hn)⟩, List.map_map]
  congr 1
  conv => rhs; rw [← List.map_id ns]
  refine List.map_congr_left fun n _ => ?_
  exact TL.numL_val n
/-! ### what a reading tells -/
inductive Rs where
  | line (i : Option Nat) | steps (ns : List Nat) | tree (c : Nat) (told : List Nat) | weights (rows : List (Nat × Nat))
  deriving DecidableEq
def wSteps : List Nat := [115, 116, 101, 112, 115]
def wTree : List Nat := [116, 114, 101, 101]
def wTold : List Nat := [116, 111, 108, 100]
def wSize : List Nat := [115, 105, 122, 101]
def wWeights : List Nat := [119, 101, 105, 103, 104, 116, 115]
/-! #### steps -/
def asc : List Nat → Bool
  | a :: b :: r => decide (a < b) && asc (b :: r)
  | _ => true
def boundsB (most : Nat) (bs : List Nat) : Bool := (decide (1 ≤ bs.length) && decide (bs.length ≤ 8)) && (bs.all (fun b => decide (1 ≤ b) && decide (b ≤ most)) && asc bs)
def stepsOk : List Nat → Bool
  | m :: bs => (decide (1 ≤ m) && decide (m ≤ 1000)) && boundsB m bs
  | [] => false
def readSteps (ls : List (List Nat)) : Rs := match numsOf (ls.headD []) wSteps with
  | some ns => if ns.length ≤ 1 then .line (some 0) else if 1 < ls.length then .line (some 1) else if stepsOk ns = true ∧ lineT wSteps ns = TL.joinL [10] ls then .steps ns else .line none
  | none => .line (some 0)
def lawBounds : List Nat → Bool
  | m :: bs => ((decide (1 ≤ m) && decide (m ≤ 1000)) && decide (bs.length ≤ 8)) && ((decide (1 ≤ bs.headD 0) && decide (bs.getD (bs.length - 1) 0 ≤ m)) && asc bs)
  | [] => false
theorem asc_get : ∀ {l : List Nat}, asc l = true → ∀ x ∈ l, l.headD 0 ≤ x ∧ x ≤ l.getD (l.length - 1) 0
  | [], _, x, hx => by cases hx
  | [a], _, x, hx => by
    rw [List.mem_singleton] at hx
    subst hx
    simp
  | a :: b :: r, h, x, hx => by
    rw [asc, Bool.and_eq_true] at h
    have hlt := of_decide_eq_true h.1
    have ih := asc_get h.2
    have e1 : (a :: b :: r).getD ((a :: b :: r).length - 1) 0 = (b :: r).getD ((b :: r).length - 1) 0 := by simp
    rw [e1]
    rcases List.mem_cons.mp hx with hx | hx
    · subst hx
      refine ⟨by simp, ?_⟩
      have := (ih b (List.mem_cons_self ..)).2
      omega
    · have h1 := ih x hx
      refine ⟨?_, h1.2⟩
      have h2 : (b :: r).headD 0 = b := rfl
      rw [h2] at h1
      show a ≤ x
      omega
theorem lawBounds_eq {ns : List Nat} (h : 1 < ns.length) : lawBounds ns = stepsOk ns := by
  cases ns with
  | nil => simp at h
  | cons m bs =>
    have hb : 1 ≤ bs.length := by
      rw [List.length_cons] at h
      omega
    have hb' : bs ≠ [] := by
      intro e
      subst e
      simp at hb
    rw [lawBounds, stepsOk, boundsB]
    cases hA : asc bs with
    | false => simp
    | true =>
      have g := asc_get hA
      have e : (decide (1 ≤ bs.headD 0) && decide (bs.getD (bs.length - 1) 0 ≤ m)) = bs.all (fun b => decide (1 ≤ b) && decide (b ≤ m)) := by
        rw [Bool.eq_iff_iff]
        simp only [Bool.and_eq_true, decide_eq_true_eq, List.all_eq_true]
        refine ⟨fun ⟨h1, h2⟩ x hx => ?_, fun hall => ?_⟩
        · have := g x hx
          omega
        · refine ⟨?_, ?_⟩
          · obtain ⟨a, r, e⟩ := List.exists_cons_of_ne_nil hb'
            subst e
            exact (hall a (List.mem_cons_self ..)).1
          · have hl : bs.length - 1 < bs.length := by omega
            rw [List.getD_eq_getElem?_getD, List.getElem?_eq_getElem hl]
            exact (hall _ (List.getElem_mem hl)).2
      rw [e]
      cases decide (1 ≤ m) <;> cases decide (m ≤ 1000) <;> simp [hb]
end K75
/-! the plain law, further: trees, weights -/
namespace K75
open PySem
/-! #### trees -/
/-- the levels of a tree's text: the number of the first line left, what is told so far, how many the next level has -/
def levels : Nat → List Nat → Nat → List (List Nat) → Nat ⊕ List Nat
  | _, told, _, [] => .inr told
  | i, told, many, l :: r => match numsOf l wTold with
    | some lv => if i ≤ 6 ∧ lv.length = many then levels (i + 1) (told ++ lv) (2 * many) r else .inl i
    | none => .inl i
def sizesT : List Nat := [4, 8, 16, 32, 64]
def toldB (c : Nat) (told : List Nat) : Bool := decide (told.length + 1 ∈ sizesT) && told.all fun x => decide (x ≤ c)
def treeOk (c : Nat) (told : List Nat) : Bool := (decide (1 ≤ c) && decide (c ≤ 8)) && toldB c told
def lawTree (c : Nat) (told : List Nat) : Bool := (decide (1 ≤ c) && decide (c ≤ 8)) && told.all fun x => decide (x ≤ c)
def chunks : Nat → Nat → List Nat → List (List Nat)
  | 0, _, _ => []
  | f + 1, m, t => if t = [] then [] else t.take m :: chunks f (2 * m) (t.drop m)
def treeT (c : Nat) (told : List Nat) : List Nat := TL.joinL [10] (lineT wTree [c] :: (chunks 6 1 told).map (lineT wTold))
def readTree (ls : List (List Nat)) : Rs := match numsOf (ls.headD []) wTree with
  | some [c] => (match levels 1 [] 1 ls.tail with
    | .inl i => .line (some i)
    | .inr told => if ls.length < 3 then .line (some ls.length) else if treeOk c told = true ∧ treeT c told = TL.joinL [10] ls then .tree c told else .line none)
  | _ => .line (some 0)
theorem levels_inv : ∀ (ls : List (List Nat)) (i : Nat) (told : List Nat) (out : List Nat), 1 ≤ i → told.length + 1 = 2 ^ (i - 1) → levels i told (2 ^ (i - 1)) ls = .inr out → out.length + 1 = 2 ^ (i - 1 + ls.length) ∧ (ls = [] ∨ i - 1 + ls.length ≤ 6)
  | [], i, told, out, hi, hl, h => by
    unfold levels at h
    cases h
    exact ⟨by simpa using hl, .inl rfl⟩
  | l :: r, i, told, out, hi, hl, h => by
    unfold levels at h
    split at h
    · rename_i lv _
      split at h
      · rename_i hc
        obtain ⟨h6, hm⟩ := hc
        obtain ⟨j, rfl⟩ : ∃ j, i = j + 1 := ⟨i - 1, by omega⟩
        have e : 2 * 2 ^ (j + 1 - 1) = 2 ^ (j + 1 + 1 - 1) := by
          simp [Nat.pow_succ, Nat.mul_comm]
        rw [e] at h
        have ih := levels_inv r (j + 1 + 1) (told ++ lv) out (by omega) (by rw [List.length_append, hm]; omega) h
        refine ⟨?_, .inr ?_⟩
        · have e2 : j + 1 + 1 - 1 + r.length = j + 1 - 1 + (l :: r).length := by simp; omega
          rw [← e2]
          exact ih.1
        · rcases ih.2 with h0 | h0
          · subst h0
            simp
            omega
          · simp
            omega
      · cases h
    · cases h
theorem levels_all {p : Nat → Prop} : ∀ (ls : List (List Nat)) (i : Nat) (told : List Nat) (m : Nat) (out : List Nat), (∀ x ∈ told, p x) → (∀ l ∈ ls, ∀ ns, numsOf l wTold = some ns → ∀ x ∈ ns, p x) → levels i told m ls = .inr out → ∀ x ∈ out, p x
  | [], i, told, m, out, h1, h2, h => by
    unfold levels at h
    cases h
    exact h1
  | l :: r, i, told, m, out, h1, h2, h => by
    unfold levels at h
    split at h
    · rename_i lv e
      split at h
      · refine levels_all r _ _ _ out (fun x hx => ?_) (fun l' hl' => h2 l' (List.mem_cons_of_mem _ hl')) h
        rcases List.mem_append.mp hx with hx | hx
        · exact h1 x hx
        · exact h2 l (List.mem_cons_self ..) lv e x hx
      · cases h
    · cases h
/-- where three lines or more were read, the told row has a size that may be -/
theorem levels_size {ls : List (List Nat)} {told : List Nat} (h : levels 1 [] 1 ls = .inr told) (h2 : 2 ≤ ls.length) : told.length + 1 ∈ sizesT ∧ told.length ≤ 63 := by
  obtain ⟨h3, h4⟩ := levels_inv ls 1 [] told (by omega) (by simp) h
  have h5 : ls.length ≤ 6 := by
    rcases h4 with h4 | h4
    · subst h4
      simp at h2
    · simpa using h4
  simp only [Nat.sub_self, Nat.zero_add] at h3
  have : ls.length = 2 ∨ ls.length = 3 ∨ ls.length = 4 ∨ ls.length = 5 ∨ ls.length = 6 := by omega
  rcases this with e | e | e | e | e <;> rw [e] at h3 <;> (have : told.length = 2 ^ ls.length - 1 := by rw [e]; omega) <;> rw [e] at this <;> rw [this] <;> decide
theorem lawTree_eq {c : Nat} {told : List Nat} (h : told.length + 1 ∈ sizesT) : lawTree c told = treeOk c told := by
  unfold lawTree treeOk toldB
  rw [decide_eq_true h, Bool.true_and]
theorem chunks_nil (f m : Nat) : chunks f m [] = [] := by cases f <;> simp [chunks]
theorem chunks_cons {f m : Nat} {t : List Nat} (h : t ≠ []) : chunks (f + 1) m t = t.take m :: chunks f (2 * m) (t.drop m) := by
  rw [chunks, if_neg h]
theorem chunks_more : ∀ (f m : Nat) (t : List Nat), t.length + m ≤ m * 2 ^ f → chunks (f + 1) m t = chunks f m t
  | 0, m, t, h => by
    have : t = [] := by
      cases t with
      | nil => rfl
      | cons a r =>
        simp at h
        omega
    subst this
    rw [chunks_nil, chunks_nil]
  | f + 1, m, t, h => by
    by_cases ht : t = []
    · subst ht
      rw [chunks_nil, chunks_nil]
    · rw [chunks_cons ht, chunks_cons ht, chunks_more f (2 * m) (t.drop m)]
      rw [List.length_drop]
      have e : 2 * m * 2 ^ f = m * 2 ^ (f + 1) := by rw [Nat.pow_succ, Nat.mul_comm 2 m, Nat.mul_assoc, Nat.mul_comm 2]
      rw [e]
      have : m ≤ m * 2 ^ f := Nat.le_mul_of_pos_right m (Nat.pos_of_ne_zero (by simp))
      have e2 : m * 2 ^ (f + 1) = 2 * (m * 2 ^ f) := by rw [Nat.pow_succ, ← Nat.mul_assoc, Nat.mul_comm]
      omega
theorem chunks_all {t : List Nat} {m f g : Nat} (hf : t.length + m ≤ m * 2 ^ f) (hg : f ≤ g) (hm : 1 ≤ m) : chunks g m t = chunks f m t := by
  obtain ⟨d, rfl⟩ := Nat.exists_eq_add_of_le hg
  clear hg
  induction d with
  | zero => rfl
  | succ d ih =>
    rw [← Nat.add_assoc, chunks_more (f + d) m t (Nat.le_trans hf (Nat.mul_le_mul_left _ (Nat.pow_le_pow_right (by decide) (by omega)))), ih]
/-! #### weights -/
def readRows : Nat → List (List Nat) → Nat ⊕ List (Nat × Nat)
  | _, [] => .inr []
  | i, l :: r => match numsOf l wSize with
    | some [s, w] => (match readRows (i + 1) r with
      | .inr rows => .inr ((s, w) :: rows)
      | .inl k => .inl k)
    | _ => .inl i
def rowOk (p : Nat × Nat) : Bool := (decide (1 ≤ p.1) && decide (p.1 ≤ 1000)) && decide (p.2 ≤ 1000)
def rowsOk (rows : List (Nat × Nat)) : Bool := (decide (rows.length ≤ 30) && rows.all rowOk) && asc (rows.map (·.1))
def rowT (p : Nat × Nat) : List Nat := lineT wSize [p.1, p.2]
def weightsT (rows : List (Nat × Nat)) : List Nat := TL.joinL [10] (wWeights :: rows.map rowT)
def readWeights (ls : List (List Nat)) : Rs := if ls.headD [] ≠ wWeights then .line (some 0) else match readRows 1 ls.tail with
  | .inl i => .line (some i)
  | .inr rows => if rows = [] then .line (some 1) else if rowsOk rows = true ∧ weightsT rows = TL.joinL [10] ls then .weights rows else .line none
/-- a row laid into the dict -/
def putR (p : Nat × Nat) : List (Nat × Nat) → List (Nat × Nat)
  | [] => [p]
  | q :: r => if q.1 = p.1 then (q.1, p.2) :: r else q :: putR p r
def dictOf (rows : List (Nat × Nat)) : List (Nat × Nat) := rows.foldl (fun d p => putR p d) []
def weightsOk (d : List (Nat × Nat)) : Bool := (decide (1 ≤ d.length) && decide (d.length ≤ 30)) && d.all rowOk
theorem putR_keys (p : Nat × Nat) : ∀ d : List (Nat × Nat), (putR p d).map (·.1) = if p.1 ∈ d.map (·.1) then d.map (·.1) else d.map (·.1) ++ [p.1]
  | [] => by simp [putR]
  | q :: r => by
    rw [putR]
    by_cases h : q.1 = p.1
    · rw [if_pos h]
      simp [h]
    · rw [if_neg h, List.map_cons, putR_keys p r]
      have h' : ¬ p.1 = q.1 := fun e => h e.symm
      by_cases hm : p.1 ∈ r.map (·.1)
      · rw [if_pos hm, if_pos (by simp only [List.map_cons, List.mem_cons]; exact .inr hm)]
        rfl
      · rw [if_neg hm, if_neg (by simp only [List.map_cons, List.mem_cons]; rintro (e | e); exact h' e; exact hm e)]
        rfl
theorem putR_new {p : Nat × Nat} : ∀ {d : List (Nat × Nat)}, p.1 ∉ d.map (·.1) → putR p d = d ++ [p]
  | [], _ => rfl
  | q :: r, h => by
    simp only [List.map_cons, List.mem_cons, not_or] at h
    rw [putR, if_neg (fun e => h.1 e.symm), putR_new h.2] <;> rfl
theorem putR_nodup {p : Nat × Nat} {d : List (Nat × Nat)} (h : (d.map (·.1)).Nodup) : ((putR p d).map (·.1)).Nodup := by
  rw [putR_keys]
  split
  · exact h
  · rename_i hm
    rw [List.nodup_append]
    exact ⟨h, by simp, fun a ha b hb e => by
      rw [List.mem_singleton] at hb
      subst hb
      subst e
      exact hm ha⟩
theorem dict_nodup (rows : List (Nat × Nat)) : ((dictOf rows).map (·.1)).Nodup := by
  have key : ∀ (rows d : List (Nat × Nat)), (d.map (·.1)).Nodup → ((rows.foldl (fun d p => putR p d) d).map (·.1)).Nodup := by
    intro rows
    induction rows with
    | nil => exact fun d h => h
    | cons p r ih => exact fun d h => ih (putR p d) (putR_nodup h)
  exact key rows [] (by simp)
theorem dict_same {rows : List (Nat × Nat)} (h : (rows.map (·.1)).Nodup) : dictOf rows = rows := by
  have key : ∀ (rows d : List (Nat × Nat)), ((d ++ rows).map (·.1)).Nodup → rows.foldl (fun d p => putR p d) d = d ++ rows := by
    intro rows
    induction rows with
    | nil =>
      intro d _
      simp
    | cons p r ih =>
      intro d h
      have hn : p.1 ∉ d.map (·.1) := by
        rw [List.map_append, List.nodup_append] at h
        intro hm
        exact h.2.2 p.1 hm p.1 (by simp) rfl
      rw [List.foldl_cons, putR_new hn, ih (d ++ [p]) (by simpa using h)]
      simp
  exact key rows [] (by simpa using h)
theorem dict_ne {rows : List (Nat × Nat)} (h : rows ≠ []) : dictOf rows ≠ [] := by
  have key : ∀ (rows d : List (Nat × Nat)), d ≠ [] → rows.foldl (fun d p => putR p d) d ≠ [] := by
    intro rows
    induction rows with
    | nil => exact fun d h => h
    | cons p r ih =>
      intro d h
      refine ih (putR p d) ?_
      cases d with
      | nil => exact absurd rfl h
      | cons q r =>
        rw [putR]
        split <;> simp
  cases rows with
  | nil => exact absurd rfl h
  | cons p r => exact key r (putR p []) (by simp [putR])
theorem asc_lt : ∀ {l : List Nat}, asc l = true → l.Pairwise (· < ·)
  | [], _ => .nil
  | [a], _ => by simp
  | a :: b :: r, h => by
    rw [asc, Bool.and_eq_true] at h
    have hlt := of_decide_eq_true h.1
    have ih := asc_lt h.2
    refine .cons (fun x hx => ?_) ih
    rcases List.mem_cons.mp hx with e | e
    · subst e
      exact hlt
    · have := (List.pairwise_cons.mp ih).1 x e
      omega
theorem asc_of : ∀ {l : List Nat}, l.Pairwise (· < ·) → asc l = true
  | [], _ => rfl
  | [a], _ => rfl
  | a :: b :: r, h => by
    obtain ⟨h1, h2⟩ := List.pairwise_cons.mp h
    rw [asc, Bool.and_eq_true]
    exact ⟨decide_eq_true (h1 b (List.mem_cons_self ..)), asc_of h2⟩
theorem asc_nodup {l : List Nat} (h : asc l = true) : l.Nodup := (asc_lt h).imp fun hab e => by omega
/-- a list of rising keys, by the keys' order, is told by its keys -/
theorem perm_sorted : ∀ {l m : List Nat}, l.Perm m → l.Pairwise (· ≤ ·) → m.Pairwise (· ≤ ·) → l = m := fun {l m} p h1 h2 => p.eq_of_pairwise (fun a b _ _ hab hba => Nat.le_antisymm hab hba) h1 h2
/-- the value at a key -/
def atK (d : List (Nat × Nat)) (s : Nat) : Nat := (d.lookup s).getD 0
theorem lookup_mem {d : List (Nat × Nat)} (h : (d.map (·.1)).Nodup) : ∀ p ∈ d, d.lookup p.1 = some p.2 := by
  induction d with
  | nil =>
    intro p hp
    cases hp
  | cons q r ih =>
    intro p hp
    rw [List.map_cons, List.nodup_cons] at h
    rw [List.lookup_cons]
    rcases List.mem_cons.mp hp with e | e
    · subst e
      simp
    · have hne : (p.1 == q.1) = false := by
        rw [beq_eq_false_iff_ne]
        intro e2
        exact h.1 (e2 ▸ List.mem_map_of_mem e)
      rw [hne]
      exact ih h.2 p e
theorem map_at {d : List (Nat × Nat)} (h : (d.map (·.1)).Nodup) : (d.map (·.1)).map (fun s => (s, atK d s)) = d := by
  rw [List.map_map]
  conv => rhs; rw [← List.map_id d]
  refine List.map_congr_left fun p hp => ?_
  show (p.1, atK d p.1) = p
  rw [atK, lookup_mem h p hp] <;> rfl
/-- the dict's rows by rising sizes; ks: the sorted keys -/
def rowsOf (d : List (Nat × Nat)) (ks : List Nat) : List (Nat × Nat) := ks.map fun s => (s, atK d s)
theorem readRows_rows : ∀ (rows : List (Nat × Nat)) (i : Nat), (∀ p ∈ rows, p.1 < 10000 ∧ p.2 < 10000) → readRows i (rows.map rowT) = .inr rows
  | [], _, _ => rfl
  | p :: r, i, h => by
    rw [List.map_cons, readRows]
    have h1 := h p (List.mem_cons_self ..)
    have e : numsOf (rowT p) wSize = some [p.1, p.2] := numsOf_lineT (by decide) (by
      intro n hn
      simp only [List.mem_cons, List.not_mem_nil, or_false] at hn
      rcases hn with e | e <;> subst e
      · exact h1.1
      · exact h1.2)
    rw [e]
    dsimp only
    rw [readRows_rows r (i + 1) fun q hq => h q (List.mem_cons_of_mem _ hq)]
theorem readRows_len : ∀ (ls : List (List Nat)) (i : Nat) (rows : List (Nat × Nat)), readRows i ls = .inr rows → rows.length = ls.length
  | [], i, rows, h => by
    unfold readRows at h
    cases h
    rfl
  | l :: r, i, rows, h => by
    unfold readRows at h
    split at h
    · split at h
      · rename_i rows' e
        cases h
        rw [List.length_cons, List.length_cons, readRows_len r _ _ e]
      · cases h
    · cases h
theorem lineT_free {word ns : List Nat} (h : 10 ∉ word) : 10 ∉ lineT word ns := by
  unfold lineT
  have key : ∀ ps : List (List Nat), (∀ p ∈ ps, 10 ∉ p) → 10 ∉ TL.joinL [32] ps := by
    intro ps
    induction ps with
    | nil => exact fun _ => by simp [TL.joinL]
    | cons p r ih =>
      intro h
      by_cases hr : r = []
      · subst hr
        exact h p (List.mem_cons_self ..)
      · rw [joinL_cons hr]
        have h1 := h p (List.mem_cons_self ..)
        have h2 := ih fun q hq => h q (List.mem_cons_of_mem _ hq)
        simp [h1, h2]
  refine key _ fun p hp => ?_
  rcases List.mem_cons.mp hp with e | e
  · subst e
    exact h
  · obtain ⟨n, _, rfl⟩ := List.mem_map.mp e
    exact TL.numL_free (by omega)
/-- THE POINT: the program's test of a dict tells what the law's test of the rows tells -/
theorem weights_point {rows : List (Nat × Nat)} {ls : List (List Nat)} {ks : List Nat} (hw : ls.headD [] = wWeights) (hl : ls ≠ []) (hf : ∀ p ∈ ls, 10 ∉ p) (hr : readRows 1 ls.tail = .inr rows) (hne : rows ≠ []) (hk : ks.Perm ((dictOf rows).map (·.1))) (hs : ks.Pairwise (· ≤ ·)) :
    (weightsOk (dictOf rows) = true ∧ weightsT (rowsOf (dictOf rows) ks) = TL.joinL [10] ls) ↔ (rowsOk rows = true ∧ weightsT rows = TL.joinL [10] ls) ∧ rowsOf (dictOf rows) ks = rows := by
  constructor
  · rintro ⟨h1, h2⟩
    have nd := dict_nodup rows
    have hall : ∀ p ∈ rowsOf (dictOf rows) ks, rowOk p = true := by
      intro p hp
      obtain ⟨s, hs', rfl⟩ := List.mem_map.mp hp
      have hm : s ∈ (dictOf rows).map (·.1) := hk.mem_iff.mp hs'
      obtain ⟨q, hq, rfl⟩ := List.mem_map.mp hm
      have e : atK (dictOf rows) q.1 = q.2 := by rw [atK, lookup_mem nd q hq] <;> rfl
      rw [e]
      unfold weightsOk at h1
      rw [Bool.and_eq_true] at h1
      exact List.all_eq_true.mp h1.2 q hq
    have hb : ∀ p ∈ rowsOf (dictOf rows) ks, p.1 < 10000 ∧ p.2 < 10000 := by
      intro p hp
      have h := hall p hp
      unfold rowOk at h
      simp only [Bool.and_eq_true, decide_eq_true_eq] at h
      omega
    have els : ls = wWeights :: (rowsOf (dictOf rows) ks).map rowT := by
      have e1 : TL.spl [10] 0 [] (TL.joinL [10] ls) = ls := TL.spl_join hl hf
      rw [← h2] at e1
      rw [← e1]
      unfold weightsT
      refine TL.spl_join (by simp) fun p hp => ?_
      rcases List.mem_cons.mp hp with e | e
      · subst e
        decide
      · obtain ⟨q, _, rfl⟩ := List.mem_map.mp e
        exact lineT_free (by decide)
    have er : rowsOf (dictOf rows) ks = rows := by
      rw [els, List.tail_cons, readRows_rows _ 1 hb] at hr
      exact Sum.inr.inj hr
    refine ⟨⟨?_, by rw [er] at h2; exact h2⟩, er⟩
    unfold rowsOk
    have hlen : rows.length ≤ 30 := by
      rw [← er, rowsOf, List.length_map, hk.length_eq, List.length_map]
      unfold weightsOk at h1
      simp only [Bool.and_eq_true, decide_eq_true_eq] at h1
      exact h1.1.2
    have hasc : asc (rows.map (·.1)) = true := by
      have e : rows.map (·.1) = ks := by
        rw [← er, rowsOf, List.map_map]
        conv => rhs; rw [← List.map_id ks]
        exact List.map_congr_left fun _ _ => rfl
      rw [e]
      have ndk : ks.Nodup := hk.nodup_iff.mpr nd
      exact asc_of (List.Pairwise.imp (fun {a b} h => by obtain ⟨h1, h2⟩ := h; omega) (hs.and ndk))
    rw [Bool.and_eq_true, Bool.and_eq_true]
    exact ⟨⟨decide_eq_true hlen, List.all_eq_true.mpr fun p hp => hall p (by rw [er]; exact hp)⟩, hasc⟩
  · rintro ⟨⟨h1, h2⟩, er⟩
    unfold rowsOk at h1
    rw [Bool.and_eq_true, Bool.and_eq_true] at h1
    obtain ⟨⟨h3, h4⟩, h5⟩ := h1
    have ed := dict_same (asc_nodup h5)
    rw [er]
    refine ⟨?_, h2⟩
    rw [ed]
    unfold weightsOk
    rw [Bool.and_eq_true, Bool.and_eq_true]
    refine ⟨⟨decide_eq_true ?_, h3⟩, h4⟩
    cases rows with
    | nil => exact absurd rfl hne
    | cons a r => simp
theorem rows_asc {rows : List (Nat × Nat)} {ks : List Nat} (h : rowsOk rows = true) (hk : ks.Perm ((dictOf rows).map (·.1))) (hs : ks.Pairwise (· ≤ ·)) : rowsOf (dictOf rows) ks = rows := by
  unfold rowsOk at h
  rw [Bool.and_eq_true] at h
  have ed := dict_same (asc_nodup h.2)
  rw [ed] at hk ⊢
  have e : ks = rows.map (·.1) := perm_sorted hk hs ((asc_lt h.2).imp fun h => Nat.le_of_lt h)
  rw [e]
  exact map_at (asc_nodup h.2)
/-- what the program's reading of weights tells -/
theorem weights_prog {rows : List (Nat × Nat)} {ls : List (List Nat)} {ks : List Nat} (hw : ls.headD [] = wWeights) (hl : ls ≠ []) (hf : ∀ p ∈ ls, 10 ∉ p) (hr : readRows 1 ls.tail = .inr rows) (hne : rows ≠ []) (hk : ks.Perm ((dictOf rows).map (·.1))) (hs : ks.Pairwise (· ≤ ·)) :
    (if weightsOk (dictOf rows) = true ∧ weightsT (rowsOf (dictOf rows) ks) = TL.joinL [10] ls then Rs.weights (rowsOf (dictOf rows) ks) else .line none) = readWeights ls := by
  have p := weights_point hw hl hf hr hne hk hs
  have e : readWeights ls = if rowsOk rows = true ∧ weightsT rows = TL.joinL [10] ls then .weights rows else .line none := by
    unfold readWeights
    rw [if_neg (fun z => z hw), hr]
    dsimp only
    rw [if_neg hne]
  rw [e]
  by_cases h : rowsOk rows = true ∧ weightsT rows = TL.joinL [10] ls
  · have er := rows_asc h.1 hk hs
    rw [if_pos (p.mpr ⟨h, er⟩), if_pos h, er]
  · rw [if_neg (fun z => h (p.mp z).1), if_neg h]
end K75
/-! own words, further: pairs -/
namespace K75
open PySem PySem.Spec PyProof.Rows L2 Evl
/-- the target (a, b) of a pair just laid -/
theorem pair_go {K : PySem.W.Frag} {f g : Nat → Option V} {i j1 j2 : Nat} {x u v : V} {H H' : Hp} {σ : L2.St} {Q : L2.St → Hp → Prop} (y : YPair f g i H x H') (hu : f i = some u) (hv : g i = some v) (q : Q ((σ.set j1 (some u)).set j2 (some v)) H') :
    gTup K 2 (gCons (gName j1) (gCons (gName j2) gNil)) x σ H' Q := by
  obtain ⟨T, a, b, e1, e2, e3, e4, e5⟩ := y
  rw [hu] at e4
  rw [hv] at e5
  cases e4
  cases e5
  exact ⟨T, [u, v], e1, st_of (by rw [e3]; exact upd_same), rfl, u, [v], rfl, v, [], rfl, rfl, q⟩
section
variable {X : Cx} {elt tg iter : Expr} {scope : Scope} {own : List (Str × Nat)} {pos : Pos} {σ : L2.St} {H : Hp}
theorem vl_zip {α β : Type} {zs : List α} {ws : List β} {f : α → V} {f' : β → V} {g' : α × β → V} {j1 j2 : Nat} (hc : X.calm = true) (nd : X.N.Nodup) (hi : VI X tg iter σ H (min (zs.map f).length (ws.map f').length) (YPair (fun i => (zs.map f)[i]?) (fun i => (ws.map f')[i]?))) (hn : zs.length ≤ 40000) (ok : BlkOk X.N X.env.scope scope own)
    (hgT : ∀ (s : Shared) (H : Hp) (C : Addr) (cl : List (Str × Addr)) (fp : List Addr), PG (X.blk s H scope (compEnvC scope cl C X.env) fp) tg (gTup X.K 2 (gCons (gName j1) (gCons (gName j2) gNil))))
    (hw : ∀ x y, wipe (((wipe σ (own.map (·.2))).set j1 (some x)).set j2 (some y)) (own.map (·.2)) = wipe σ (own.map (·.2)))
    (he : ∀ (s : Shared) (H0 : Hp) (C : Addr) (cl : List (Str × Addr)) (fp : List Addr) (p : α × β), VX (X.blk s H0 scope (compEnvC scope cl C X.env) fp) elt (((wipe σ (own.map (·.2))).set j1 (some (f p.1))).set j2 (some (f' p.2))) H (g' p)) (hs : ∀ x, foldedSetIterable iter X.env x = pure x := by intro _; rfl) :
    VL X (.ListComp elt [⟨tg, iter, [], 0⟩] scope pos) σ H ((zs.zip ws).map g') := by
  have el : min (zs.map f).length (ws.map f').length = (zs.zip ws).length := by rw [List.length_zip, List.length_map, List.length_map]
  have e1 : ∀ {i : Nat} (hlt : i < (zs.zip ws).length), atF (zs.zip ws) (fun p => f p.1) i = f (zs.zip ws)[i].1 := fun {i} hlt => by
    unfold atF
    rw [List.getElem?_eq_getElem hlt]
  have e2 : ∀ {i : Nat} (hlt : i < (zs.zip ws).length), atF (zs.zip ws) (fun p => f' p.2) i = f' (zs.zip ws)[i].2 := fun {i} hlt => by
    unfold atF
    rw [List.getElem?_eq_getElem hlt]
  have e3 : ∀ {i : Nat} (hlt : i < (zs.zip ws).length), atF (zs.zip ws) g' i = g' (zs.zip ws)[i] := fun {i} hlt => by
    unfold atF
    rw [List.getElem?_eq_getElem hlt]
  refine VL.is (vl_lc (v := atF (zs.zip ws) g') (fun i => ((wipe σ (own.map (·.2))).set j1 (some (atF (zs.zip ws) (fun p => f p.1) i))).set j2 (some (atF (zs.zip ws) (fun p => f' p.2) i))) hc nd (hi.cast el) (fun _ _ _ _ y => YPair.ex y) (by rw [List.length_zip]; omega) ok hgT (fun i _ => hw _ _)
    (fun i x H' H'' _ hlt y Q q => ?_) (fun s H0 C cl fp i hlt => ?_) hs) (range_at _ g')
  · have hl := hlt
    rw [List.length_zip] at hl
    refine pair_go y ?_ ?_ q
    · rw [e1 hlt, List.getElem_zip]
      show (zs.map f)[i]? = _
      rw [List.getElem?_map, List.getElem?_eq_getElem (by omega)] <;> rfl
    · rw [e2 hlt, List.getElem_zip]
      show (ws.map f')[i]? = _
      rw [List.getElem?_map, List.getElem?_eq_getElem (by omega)] <;> rfl
  · rw [e1 hlt, e2 hlt, e3 hlt]
    exact he s H0 C cl fp _
end
end K75
/-! the defs: steps, trees -/
namespace K75
open PySem PySem.Spec PyProof.Rows L2 Evl
def ints_ (ns : List Nat) : List V := ns.map fun (n : Nat) => V.int ((n : Nat) : Int)
theorem ints_len (ns : List Nat) : (ints_ ns).length = ns.length := List.length_map _
section
variable {P : Program} {w : World} {K : PySem.W.Frag} {mg : Str → Option Value} {base : Heap}
/-! ### is_count -/
theorem s_is_count : FnScope ["value", "least", "most"] ["value", "least", "most"] (defScope d_is_count.st) := C8.fnScope_by (by decide +kernel)
abbrev SpCount : Sp := SpR (fun a : Int × Int × Int => [.int a.1, .int a.2.1, .int a.2.2]) (fun _ _ => True) (fun a v _ _ => v = .bl (decide (a.2.1 ≤ a.1) && decide (a.1 ≤ a.2.2)))
theorem c_is_count (T : Tx K mg) : CalX P w K mg base CX0 1 d_is_count ["value", "least", "most"] SpCount := by
  refine CalX.of0 (f_is_count T) b_is_count s_is_count (fun vs H Q E h => ?_) (fun cdv A outer s H vs Q E hr h => ?_)
  · obtain ⟨a, rfl, _⟩ := h
    rfl
  · obtain ⟨⟨x, l, m⟩, rfl, _, hQ⟩ := h
    refine WS.here (w_ret (v_and (v_isi (k := true) T.n_isinstance (v_var 0) (v_ty T.n_int (by decide +kernel)) (.ty "int") (fun _ _ => .base (.int _)) (kit_ty (by decide +kernel))) fun _ =>
      v_and (v_not (v_isi (k := false) T.n_isinstance (v_var 0) (v_ty T.n_bool (by decide +kernel)) (.ty "bool") (fun _ _ => .base (.int _)) (kit_ty (by decide +kernel)))) fun _ => v_one (v_lele (v_var 1) (v_var 0) (v_var 2))) fun H1 e1 => ?_)
    exact hQ _ _ e1 (by simp)
/-! ### are_bounds -/
abbrev N_are_bounds : List Str := ["value", "most", "one", "other"]
theorem s_are_bounds : FnScope N_are_bounds ["value", "most"] (defScope d_are_bounds.st) := C8.fnScope_by (by decide +kernel)
abbrev SpBounds : Sp := SpR (fun a : Addr × List Nat × Nat => [.ref a.1, .int (a.2.2 : Nat)]) (fun a H => H a.1 = some (.lst (ints_ a.2.1)) ∧ a.2.1.length ≤ 20000) (fun a v _ _ => v = .bl (boundsB a.2.2 a.2.1))
theorem asc_zip : ∀ ns : List Nat, ((ns.zip (ns.drop 1)).map fun p => decide (p.1 < p.2)).all id = asc ns
  | [] => rfl
  | [a] => rfl
  | a :: b :: r => by
    have h := asc_zip (b :: r)
    show (decide (a < b) && (((b :: r).zip r).map fun p => decide (p.1 < p.2)).all id) = _
    rw [asc]
    congr 1
theorem c_are_bounds (T : Tx K mg) : CalX P w K mg base CX0 2 d_are_bounds ["value", "most"] SpBounds := by
  refine CalX.of0 (f_are_bounds T) b_are_bounds s_are_bounds (fun vs H Q E h => ?_) (fun cdv A outer s H vs Q E hr h => ?_)
  · obtain ⟨a, rfl, _⟩ := h
    rfl
  · obtain ⟨⟨a, ns, m⟩, rfl, ⟨ha, hz⟩, hQ⟩ := h
    have nd := s_are_bounds.nd
    have hseq : ∀ {σ : L2.St} (h : σ[0]? = some (some (.ref a))), True := fun _ => trivial
    have hlen : ((ints_ ns).length : Int) = (ns.length : Int) := by rw [ints_len]
    refine WS.here (w_when (VW.t (vw_or (vt_not (vt_val (v_isi2 T.n_isinstance (v_var 0) (v_ty T.n_list (by decide +kernel)) (v_ty T.n_tuple (by decide +kernel)) (.ty "list") (.ty "tuple") (fun H1 e1 => .base (.lst (e1 _ _ ha)))
        (kitAny_cons (b := true) (kit_ty (by decide +kernel)) (fun z => nomatch z) (fun _ => rfl))))) fun _ => vw_or1 (vt_not (vt_lele v_int (v_len T.n_len (VX.seq (v_var 0) (sq_of ha))) (v_num T.i_MOST_BOUNDS)))))
      (fun hb => w_ret v_bl fun H1 e1 => hQ _ _ e1 ?_) fun hb => ?_)
    · rw [hlen] at hb
      unfold boundsB
      simp at hb
      congr 1
      symm
      simp
      intro h1 h2
      omega
    rw [hlen] at hb
    simp at hb
    refine w_when (vt_not (vt_val (v_all rfl T.n_all (VL.seq (VL.is (vl_map (zs := ns) (f := fun n => V.int ((n : Nat) : Int)) (g' := fun n => .bl (decide ((1 : Int) ≤ (n : Int)) && decide ((n : Int) ≤ (m : Int)))) (j := 2) (own := [("one", 2)]) rfl nd
        ((vi_list (VX.seq (v_var 0) (sq_of ha))).cast (ints_len ns)) (by omega) (blkOk_by (N := N_are_bounds) (sc := defScope d_are_bounds.st) (by decide +kernel)) (fun _ _ _ _ _ => pg_name (i := 2) nd rfl (Or.inl rfl)) (fun _ => rfl)
        (fun s H0 C cl fp z _ => v_call (((z : Int), 1, (m : Int)) : Int × Int × Int) (c_is_count T) hr (by decide) T.g_is_count (va_cons (v_var 2) (va_cons v_int (va_one (v_var 1)))) fun _ _ => trivial))
        (ys := (ns.map fun n : Nat => (decide ((1 : Int) ≤ (n : Int)) && decide ((n : Int) ≤ (m : Int)))).map V.bl) (by rw [List.map_map] <;> rfl)))))) (fun hb2 => w_ret v_bl fun H1 e1 => hQ _ _ e1 ?_) fun hb2 => ?_
    · congr 1
      symm
      unfold boundsB
      have e : (ns.all fun b => decide (1 ≤ b) && decide (b ≤ m)) = false := by
        rw [← Bool.not_eq_true]
        intro hall
        rw [List.all_eq_true] at hall
        simp at hb2
        obtain ⟨x, hx, h2⟩ := hb2
        have := hall x hx
        simp at this
        omega
      rw [e]
      simp
    · have hall : (ns.all fun b => decide (1 ≤ b) && decide (b ≤ m)) = true := by
        simp at hb2
        rw [List.all_eq_true]
        intro x hx
        have := hb2 x hx
        simp
        omega
      refine w_ret (v_all rfl T.n_all (VL.seq (VL.is (vl_zip (zs := ns) (ws := ns.drop 1) (f := fun n => V.int ((n : Nat) : Int)) (f' := fun n => V.int ((n : Nat) : Int)) (g' := fun p => .bl (decide ((p.1 : Int) < (p.2 : Int)))) (j1 := 2) (j2 := 3) (own := [("one", 2), ("other", 3)]) rfl nd
        (vi_zip T.n_zip (VX.seq (v_var 0) (sq_of ha)) (VL.seq (VL.is (vl_from (k := 1) (VX.seq (v_var 0) (sq_of ha)) v_int) (by rw [ints_, List.map_drop])))) (by omega) (blkOk_by (N := N_are_bounds) (sc := defScope d_are_bounds.st) (by decide +kernel))
        (fun _ _ _ _ _ => pg_tup rfl (pgs_cons (pg_name (i := 2) nd rfl (Or.inl rfl)) (pgs_cons (pg_name (i := 3) nd rfl (Or.inl rfl)) pgs_nil))) (fun _ _ => rfl)
        (fun s H0 C cl fp p => v_lt (v_var 2) (v_var 3)))
        (ys := ((ns.zip (ns.drop 1)).map fun p => decide (p.1 < p.2)).map V.bl) (by
          rw [List.map_map]
          refine List.map_congr_left fun p _ => ?_
          show V.bl (decide ((p.1 : Int) < (p.2 : Int))) = V.bl (decide (p.1 < p.2))
          congr 1
          simp)))) fun H1 e1 => hQ _ _ e1 ?_
      show V.bl _ = V.bl _
      rw [asc_zip, boundsB, hall]
      congr 1
      simp
      omega
end
end K75
/-! the exceptions' __init__ -/
namespace K75
open PySem PySem.Spec PyProof.Rows L2 Evl He
/-- an exception's __init__: the field f is kept -/
def SpExc (C : Addr) (f : Str) : Sp := fun vs H Q _ => ∃ a v, vs = [.ref a, v] ∧ H a = some (exo a C none) ∧ ∀ dx, H dx = none → dx ≠ a → Q .non (upd (upd H dx (exd dx [(f, v)])) a (exo a C (some dx)))
theorem mk_exc {C : Addr} {f : Str} {ta : TA} {σ : L2.St} {H : Hp} {v : V} {Q : XK} (h : EvA ta σ H [v]) (k : ∀ d H2, H d = none → Ex H H2 → H2 d = some (.xd [(f, v)]) → Q (.ref C) (some d) H2) : tMkO C (SpExc C f) [] ta σ H Q :=
  h H (Ex.refl H) _ fun H1 e1 => ⟨(by show 1 ≤ 1000; decide), fun a ha => ⟨a, v, rfl, upd_same, fun dx hd hne => by
    rw [upd_ne hne] at hd
    have key : ∀ b o, H1 b = some o → b ≠ a ∧ b ≠ dx := fun b o h => ⟨ne_of_none h ha, ne_of_none h hd⟩
    refine ⟨rfl, dx, [(f, v)], upd_same, ?_, hd, k dx _ (fresh_back e1 hd) (fun b o hb => ?_) upd_same⟩
    · rw [upd_ne hne]
      exact upd_same
    · obtain ⟨k1, k2⟩ := key b o (e1 b o hb)
      rw [upd_ne k2, del_ne k1, upd_ne k1, upd_ne k2, upd_ne k1]
      exact e1 b o hb⟩⟩
section
variable {P : Program} {w : World} {K : PySem.W.Frag} {mg : Str → Option Value} {base : Heap}
theorem s_BadSteps_init : FnScope ["self", "part"] ["self", "part"] (defScope d_BadSteps_init.st) := C8.fnScope_by (by decide +kernel)
theorem c_BadSteps_init (T : Tx K mg) : CalX P w K mg base CX0 1 d_BadSteps_init ["self", "part"] (SpExc (ga K "BadSteps") "part") := by
  refine CalX.of0 (f_BadSteps_init T) b_BadSteps_init s_BadSteps_init (fun vs H Q E h => ?_) (fun cdv A outer s H vs Q E hr h => ?_)
  · obtain ⟨a, v, rfl, _⟩ := h
    rfl
  · obtain ⟨a, v, rfl, ha, hQ⟩ := h
    refine
      ws_cons (ps_expr (pe_rminit rfl T.g_RoomError T.rm.1 T.rm.2.1 T.rm.2.2 (pa_cons (pv 0) (pa_cons pe_str pa_nil)))) ?_
    refine ⟨_, rfl, a, ga K "BadSteps", [.str _], rfl, by decide, T.oex "BadSteps" (by decide +kernel), ha, ?_⟩
    exact ws_one (ps_ost (pv 0) (pv 1)) ⟨v, rfl, _, rfl, a, ga K "BadSteps", rfl, T.oex "BadSteps" (by decide +kernel), T.noPart1, .inl ⟨ha, fun dx hd hne => hQ dx hd hne⟩⟩
theorem s_BadTree_init : FnScope ["self", "part"] ["self", "part"] (defScope d_BadTree_init.st) := C8.fnScope_by (by decide +kernel)
theorem c_BadTree_init (T : Tx K mg) : CalX P w K mg base CX0 1 d_BadTree_init ["self", "part"] (SpExc (ga K "BadTree") "part") := by
  refine CalX.of0 (f_BadTree_init T) b_BadTree_init s_BadTree_init (fun vs H Q E h => ?_) (fun cdv A outer s H vs Q E hr h => ?_)
  · obtain ⟨a, v, rfl, _⟩ := h
    rfl
  · obtain ⟨a, v, rfl, ha, hQ⟩ := h
    refine
      ws_cons (ps_expr (pe_rminit rfl T.g_RoomError T.rm.1 T.rm.2.1 T.rm.2.2 (pa_cons (pv 0) (pa_cons pe_str pa_nil)))) ?_
    refine ⟨_, rfl, a, ga K "BadTree", [.str _], rfl, by decide, T.oex "BadTree" (by decide +kernel), ha, ?_⟩
    exact ws_one (ps_ost (pv 0) (pv 1)) ⟨v, rfl, _, rfl, a, ga K "BadTree", rfl, T.oex "BadTree" (by decide +kernel), T.noPart2, .inl ⟨ha, fun dx hd hne => hQ dx hd hne⟩⟩
theorem s_BadArgument_init : FnScope ["self", "value"] ["self", "value"] (defScope d_BadArgument_init.st) := C8.fnScope_by (by decide +kernel)
theorem c_BadArgument_init (T : Tx K mg) : CalX P w K mg base CX0 1 d_BadArgument_init ["self", "value"] (SpExc (ga K "BadArgument") "value") := by
  refine CalX.of0 (f_BadArgument_init T) b_BadArgument_init s_BadArgument_init (fun vs H Q E h => ?_) (fun cdv A outer s H vs Q E hr h => ?_)
  · obtain ⟨a, v, rfl, _⟩ := h
    rfl
  · obtain ⟨a, v, rfl, ha, hQ⟩ := h
    refine
      ws_cons (ps_expr (pe_rminit rfl T.g_RoomError T.rm.1 T.rm.2.1 T.rm.2.2 (pa_cons (pv 0) (pa_cons pe_str pa_nil)))) ?_
    refine ⟨_, rfl, a, ga K "BadArgument", [.str _], rfl, by decide, T.oex "BadArgument" (by decide +kernel), ha, ?_⟩
    exact ws_one (ps_ost (pv 0) (pv 1)) ⟨v, rfl, _, rfl, a, ga K "BadArgument", rfl, T.oex "BadArgument" (by decide +kernel), T.noValue, .inl ⟨ha, fun dx hd hne => hQ dx hd hne⟩⟩
theorem s_BadText_init : FnScope ["self", "line"] ["self", "line"] (defScope d_BadText_init.st) := C8.fnScope_by (by decide +kernel)
theorem c_BadText_init (T : Tx K mg) : CalX P w K mg base CX0 1 d_BadText_init ["self", "line"] (SpExc (ga K "BadText") "line") := by
  refine CalX.of0 (f_BadText_init T) b_BadText_init s_BadText_init (fun vs H Q E h => ?_) (fun cdv A outer s H vs Q E hr h => ?_)
  · obtain ⟨a, v, rfl, _⟩ := h
    rfl
  · obtain ⟨a, v, rfl, ha, hQ⟩ := h
    refine
      ws_cons (ps_expr (pe_rminit rfl T.g_RoomError T.rm.1 T.rm.2.1 T.rm.2.2 (pa_cons (pv 0) (pa_cons pe_str pa_nil)))) ?_
    refine ⟨_, rfl, a, ga K "BadText", [.str _], rfl, by decide, T.oex "BadText" (by decide +kernel), ha, ?_⟩
    exact ws_one (ps_ost (pv 0) (pv 1)) ⟨v, rfl, _, rfl, a, ga K "BadText", rfl, T.oex "BadText" (by decide +kernel), T.noLine, .inl ⟨ha, fun dx hd hne => hQ dx hd hne⟩⟩
/-- BadText's, called while an exception is handled -/
theorem ch_BadText (T : Tx K mg) : ∃ fd, Fun K d_BadText_init.name d_BadText_init.qual d_BadText_init.st (d_BadText_init.ad K) fd ∧ Binds K fd ["self", "line"] [] ∧ L2H.FnH P w K mg base CX0 1 (d_BadText_init.ad K) fd ["self", "line"] (SpExc (ga K "BadText") "line") := by
  obtain ⟨fd, F⟩ := f_BadText_init T
  refine ⟨fd, F, b_BadText_init fd F, ?_⟩
  obtain ⟨oc, od, kV, doc, pm, an, cdv, ct, osl, rfl, lk, hcd⟩ := F.ex
  refine L2H.fn_ofH lk hcd s_BadText_init (fun vs H Q E h => ?_) fun A outer s H vs Q E p _ hr h => ?_
  · obtain ⟨a, v, rfl, _⟩ := h
    rfl
  · obtain ⟨a, v, rfl, ha, hQ⟩ := h
    refine ⟨wSs _ _, ps_w, ?_⟩
    refine
      ws_cons (ps_expr (pe_rminit rfl T.g_RoomError T.rm.1 T.rm.2.1 T.rm.2.2 (pa_cons (pv 0) (pa_cons pe_str pa_nil)))) ?_
    refine ⟨_, rfl, a, ga K "BadText", [.str _], rfl, by decide, T.oex "BadText" (by decide +kernel), ha, ?_⟩
    exact ws_one (ps_ost (pv 0) (pv 1)) ⟨v, rfl, _, rfl, a, ga K "BadText", rfl, T.oex "BadText" (by decide +kernel), T.noLine, .inl ⟨ha, fun dx hd hne => hQ dx hd hne⟩⟩
end
end K75
/-! own words, further: raising, calls of what may raise -/
namespace K75
open PySem PySem.Spec PyProof.Rows L2 Evl He
section
variable {X : Cx} {W : WX} {e c : Expr} {es : List Expr} {sts rest : List Stmt} {σ : L2.St} {H H' : Hp} {v : V} {vs : List V} {D : Ends} {x f : Str} {p pos pos2 : Pos} {C : Addr} {d : Df} {k j : Nat} {ps : List Str} {sp : Sp}
/-- raise C(e), C's __init__ keeping its field f -/
theorem w_raise (tk : L2.Takes X W) (T : OexC X.K C) (ini : PySem.W.findIn X.K (.ref C) "__init__" = some (some (.ref (d.ad X.K))) ∧ PySem.W.typeIn X.K (.ref (d.ad X.K)) = some (.type "function")) (cd : CalX X.prog X.w X.K X.mg X.base CX0 1 d ps (SpExc C f)) (hr : Room j X.A) (hj : 2 ≤ j) (hm : X.mg x = some (.ref C))
    (hv : VX X e σ H v) (kk : ∀ d H2, H d = none → Ex H H2 → H2 d = some (.xd [(f, v)]) → W (.ref C) (some d) σ H2) (hc : X.calm = true := by rfl) (hg : Gl X x := by rfl) (hdb : (x == ("__debug__" : Str)) = false := by decide) (he : starEach [e] X.env = (false, eval e X.env) :: starEach [] X.env := by rfl)
    (hpl : (backTo pos (starEach [] X.env)).any (·.1) = false := by rfl) : WS X (.Raise (some (.Call (.Name x p) [e] [] pos)) none pos2 :: rest) D σ H := by
  obtain ⟨fd, F, b, G⟩ := cd.ex
  refine w_cons (L2.ps_raise hc tk (pmk_oex T ini.1 ini.2 G (hr.mono hj) b .nil pass0 hg hm (pa_cons pe_w pa_nil he) hdb he hpl)) fun H1 a => mk_exc (fun H2 b2 Q q => ?_) fun dd H2 h1 h2 h3 => kk dd H2 (fresh_back a h1) (a.trans h2) h3
  exact hv H2 (a.trans b2) _ fun H3 b3 => q H3 b3
theorem w_raiseN (tk : L2N.Takes X W) (T : OexC X.K C) (ini : PySem.W.findIn X.K (.ref C) "__init__" = some (some (.ref (d.ad X.K))) ∧ PySem.W.typeIn X.K (.ref (d.ad X.K)) = some (.type "function")) (cd : CalX X.prog X.w X.K X.mg X.base CX0 1 d ps (SpExc C f)) (hr : Room j X.A) (hj : 2 ≤ j) (hm : X.mg x = some (.ref C))
    (hv : VX X e σ H v) (kk : ∀ d H2, H d = none → Ex H H2 → H2 d = some (.xd [(f, v)]) → W (.ref C) (some d) σ H2) (hc : X.calm = true := by rfl) (hg : Gl X x := by rfl) (hdb : (x == ("__debug__" : Str)) = false := by decide) (he : starEach [e] X.env = (false, eval e X.env) :: starEach [] X.env := by rfl)
    (hpl : (backTo pos (starEach [] X.env)).any (·.1) = false := by rfl) : WS X (.Raise (some (.Call (.Name x p) [e] [] pos)) none pos2 :: rest) D σ H := by
  obtain ⟨fd, F, b, G⟩ := cd.ex
  refine w_cons (L2N.ps_raise hc tk (pmk_oexN T ini.1 ini.2 G (hr.mono hj) b pass0 hg hm (pa_cons pe_w pa_nil he) hdb he hpl)) fun H1 a => mk_exc (fun H2 b2 Q q => ?_) fun dd H2 h1 h2 h3 => kk dd H2 (fresh_back a h1) (a.trans h2) h3
  exact hv H2 (a.trans b2) _ fun H3 b3 => q H3 b3
/-- the call of a def that may raise -/
theorem pe_cX {CX : CXT} {E : L2.St → XK} {t : TA} (cd : CalX X.prog X.w X.K X.mg X.base CX k d ps sp) (hr : Room j X.A) (hk : k ≤ j) (hm : X.mg x = some (.ref (d.ad X.K))) (hx : ∀ σ, PassesAt CX X σ (E σ)) (ha : PA X (e :: es) t) (hg : Gl X x := by rfl) (hdb : (x == ("__debug__" : Str)) = false := by decide)
    (he : starEach (e :: es) X.env = (false, eval e X.env) :: starEach es X.env := by rfl) (hpl : (backTo pos (starEach es X.env)).any (·.1) = false := by rfl) : PE X (.Call (.Name x p) (e :: es) [] pos) (tCallSD sp [] E t) :=
  let ⟨_, F, b, G⟩ := cd.ex; pe_callSD G (hr.mono hk) hg hm F.kp b .nil hx ha hdb he hpl
/-- what it gives, what it lets out -/
def EvX (te : TE) (W : WX) (σ : L2.St) (H : Hp) (R : V → Hp → Hp → Prop) (B : Value → Option Addr → Hp → Hp → Prop) : Prop := ∀ H1, Ex H H1 → ∀ Q : VK, (∀ v H2, Ex H1 H2 → R v H1 H2 → Q v H2) → (∀ c d H2, Ex H1 H2 → B c d H1 H2 → W c d σ H2) → te σ H1 Q
abbrev VXX (X : Cx) (W : WX) (e : Expr) (σ : L2.St) (H : Hp) (R : V → Hp → Hp → Prop) (B : Value → Option Addr → Hp → Hp → Prop) : Prop := EvX (wE X e) W σ H R B
theorem vx_callX {α : Type} {f : α → List V} {pre : α → Hp → Prop} {R : α → V → Hp → Hp → Prop} {B : α → Value → Option Addr → Hp → Hp → Prop} {CX : CXT} (a : α) (cd : CalX X.prog X.w X.K X.mg X.base CX k d ps (SpX f pre R B)) (hr : Room j X.A) (hk : k ≤ j) (hm : X.mg x = some (.ref (d.ad X.K)))
    (hx : ∀ σ, PassesAt CX X σ (WE W σ)) (ha : VA X (e :: es) σ H (f a)) (hp : ∀ H1, Ex H H1 → pre a H1) (hR : ∀ v H1 H2 H3, Ex H1 H2 → R a v H2 H3 → R a v H1 H3) (hB : ∀ c d H1 H2 H3, Ex H1 H2 → B a c d H2 H3 → B a c d H1 H3) (hg : Gl X x := by rfl) (hdb : (x == ("__debug__" : Str)) = false := by decide)
    (he : starEach (e :: es) X.env = (false, eval e X.env) :: starEach es X.env := by rfl) (hpl : (backTo pos (starEach es X.env)).any (·.1) = false := by rfl) : VXX X W (.Call (.Name x p) (e :: es) [] pos) σ H (R a) (B a) := fun H1 e1 Q q qb =>
  we_of (pe_cX cd hr hk hm hx pa_w hg hdb he hpl) (ha H1 e1 _ fun H2 e2 => ⟨a, List.append_nil _, hp H2 (e1.trans e2), fun v H3 e3 r => q v H3 (e2.trans e3) (hR v H1 H2 H3 e2 r), fun c d H3 e3 b => qb c d H3 (e2.trans e3) (hB c d H1 H2 H3 e2 b)⟩)
/-- n = f(..) -/
theorem w_setX (i : Nat) {R : V → Hp → Hp → Prop} {B : Value → Option Addr → Hp → Hp → Prop} {n : Str} {np : Pos} (nd : X.N.Nodup) (hv : VXX X W e σ H R B) (kk : ∀ v H1 H2, Ex H H1 → Ex H1 H2 → R v H1 H2 → WS X rest D (σ.set i (some v)) H2) (kb : ∀ c d H1 H2, Ex H H1 → Ex H1 H2 → B c d H1 H2 → W c d σ H2) (hi : X.N[i]? = some n := by rfl)
    (hx : Loc X.env.scope n := by first | exact Or.inl rfl | exact Or.inr rfl) (hs : swapsWith e (some (.Name n np)) pos.line X.env = pure false := by rfl) (hf : X.fn n = true ∨ X.env.scope.names.lookup n = some .local := by first | exact .inl rfl | exact .inr rfl) : WS X (.Assign [.Name n np] e pos :: rest) D σ H :=
  w_cons (ps_set nd hi hx pe_w hs hf) fun H1 a => hv H1 a _ (fun v H2 b r => (kk v H1 H2 a b r).here) fun c d H2 b r => kb c d H1 H2 a b r
/-- f(..) alone -/
theorem w_doX {R : V → Hp → Hp → Prop} {B : Value → Option Addr → Hp → Hp → Prop} (hv : VXX X W e σ H R B) (kk : ∀ v H1 H2, Ex H H1 → Ex H1 H2 → R v H1 H2 → WS X rest D σ H2) (kb : ∀ c d H1 H2, Ex H H1 → Ex H1 H2 → B c d H1 H2 → W c d σ H2) (hs : swapsWith e none pos.line X.env = pure false := by rfl) : WS X (.Expr e pos :: rest) D σ H :=
  w_cons (ps_expr pe_w hs) fun H1 a => hv H1 a _ (fun v H2 b r => (kk v H1 H2 a b r).here) fun c d H2 b r => kb c d H1 H2 a b r
end
/-! ### instances -/
section
variable {X : Cx} {o e : Expr} {σ : L2.St} {H : Hp} {v : V} {f : Str} {pos p' : Pos} {a C dx : Addr} {fs : List (Str × V)} {rest : List Stmt} {D : Ends}
/-- o.f -/
theorem v_fld (ho : VX X o σ H (.ref a)) (h : H a = some (.ins C dx fs)) (c : Cls X.K C) (n : NoAttr X.K C f) (l : fs.lookup f = some v) (hb : attributeBase o f X.env (eval o X.env) = eval o X.env := by rfl) : VX X (.Attribute o f pos) σ H v :=
  v_of (pe_fld pe_w hb) fun H1 e1 Q q => ho H1 e1 _ fun H2 e2 => ⟨a, C, dx, fs, v, rfl, (e1.trans e2) _ _ h, c, n, l, q H2 e2⟩
/-- o.f, a property -/
theorem vr_prop {α : Type} {ff : α → List V} {pre : α → Hp → Prop} {R : α → V → Hp → Hp → Prop} {d : Df} {k j : Nat} {ps : List Str} {p : Addr} (z : α) (cd : CalX X.prog X.w X.K X.mg X.base CX0 k d ps (SpR ff pre R)) (hr : Room j X.A) (hk : k + 1 ≤ j) (ho : VX X o σ H (.ref a)) (h : H a = some (.ins C dx fs)) (c : Cls X.K C)
    (hp : PropOf X.K C f p (d.ad X.K)) (hz : ff z = [.ref a]) (hpre : ∀ H1, Ex H H1 → pre z H1) (hR : ∀ v H1 H2 H3, Ex H1 H2 → R z v H2 H3 → R z v H1 H3) (hb : attributeBase o f X.env (eval o X.env) = eval o X.env := by rfl) : VR X (.Attribute o f pos) σ H (R z) := by
  obtain ⟨fd, F, b, G⟩ := cd.ex
  exact vr_of (pe_prop pe_w c hp G (hr.mono hk) b .nil pass0 hb) fun H1 e1 Q q => ho H1 e1 _ fun H2 e2 => ⟨a, dx, fs, rfl, (e1.trans e2) _ _ h, z, hz.symm, hpre H2 (e1.trans e2), fun v H3 e3 r => q v H3 (e2.trans e3) (hR v H1 H2 H3 e2 r)⟩
end
end K75
/-! the defs: Steps -/
namespace K75
open PySem PySem.Spec PyProof.Rows L2 Evl He
section
variable {P : Program} {w : World} {K : PySem.W.Frag} {mg : Str → Option Value} {base : Heap}
/-- all but x stands as it was -/
def ExBut (x : Addr) (H H' : Hp) : Prop := ∀ b o, b ≠ x → H b = some o → H' b = some o
theorem ExBut.of {x : Addr} {H H' : Hp} (e : Ex H H') : ExBut x H H' := fun b o _ h => e b o h
/-- at x: Steps of m and ns -/
def IsSteps (K : PySem.W.Frag) (m : Nat) (ns : List Nat) (x : Addr) (H : Hp) : Prop := ∃ dx t, H x = some (.ins (ga K "Steps") dx [("most", .int (m : Nat)), ("rows", .ref t)]) ∧ H t = some (.tup (ints_ ns))
theorem IsSteps.ex {m : Nat} {ns : List Nat} {x : Addr} {H H' : Hp} (e : Ex H H') (h : IsSteps K m ns x H) : IsSteps K m ns x H' := by
  obtain ⟨dx, t, h1, h2⟩ := h
  exact ⟨dx, t, e _ _ h1, e _ _ h2⟩
def SpSteps (K : PySem.W.Frag) : Sp := fun vs H Q E => ∃ (x dx b : Addr) (m : Nat) (ns : List Nat), vs = [.ref x, .int (m : Nat), .ref b] ∧ H x = some (.ins (ga K "Steps") dx []) ∧ H b = some (.lst (ints_ ns)) ∧ ns.length ≤ 20000 ∧
  (stepsOk (m :: ns) = true → ∀ H', ExBut x H H' → IsSteps K m ns x H' → Q .non H') ∧ (stepsOk (m :: ns) = false → ∀ d H', Ex H H' → E (.ref (ga K "BadSteps")) (some d) H')
theorem s_Steps_init : FnScope ["self", "most", "bounds"] ["self", "most", "bounds"] (defScope d_Steps_init.st) := C8.fnScope_by (by decide +kernel)
theorem c_Steps_init (T : Tx K mg) : CalX P w K mg base (L2N.CX P w) 3 d_Steps_init ["self", "most", "bounds"] (SpSteps K) := by
  refine CalX.ofX (f_Steps_init T) b_Steps_init s_Steps_init (fun vs H Q E h => ?_) (fun cdv A outer s H vs Q E hr h => ?_)
  · obtain ⟨x, dx, b, m, ns, rfl, _⟩ := h
    rfl
  · obtain ⟨x, dx, b, m, ns, rfl, hx, hb, hz, hQ, hE⟩ := h
    have hr1 : ∀ (X : Cx), X.A = (CxX (L2N.CX P w) P w K mg base d_Steps_init ["self", "most", "bounds"] cdv A outer s H E).A → Room 2 X.A := fun X e => by
      rw [e]
      exact hr
    refine WS.here (w_when (vt_not (vt_val (v_call (((m : Nat) : Int), 1, 1000) (c_is_count T) hr (by decide) T.g_is_count (va_cons (v_var 1) (va_cons v_int (va_one (v_num T.i_MOST_ROOM)))) fun _ _ => trivial)))
      (fun hb1 => w_raiseN (d := d_BadSteps_init) (L2N.takes_of rfl rfl rfl rfl) (T.oex "BadSteps" (by decide +kernel)) (T.ini "BadSteps" (by decide +kernel)) (c_BadSteps_init T) hr (by decide) T.g_BadSteps v_str fun d H2 _ e2 _ => hE ?_ d H2 e2) fun hb1 => ?_)
    · simp at hb1
      unfold stepsOk
      simp
      intro h1 h2
      omega
    refine w_when (vt_not (vt_val (v_call (b, ns, m) (c_are_bounds T) hr (by decide) T.g_are_bounds (va_cons (v_var 2) (va_one (v_var 1))) fun H1 e1 => ⟨e1 _ _ hb, hz⟩)))
      (fun hb2 => w_raiseN (d := d_BadSteps_init) (L2N.takes_of rfl rfl rfl rfl) (T.oex "BadSteps" (by decide +kernel)) (T.ini "BadSteps" (by decide +kernel)) (c_BadSteps_init T) hr (by decide) T.g_BadSteps v_str fun d H2 _ e2 _ => hE ?_ d H2 e2) fun hb2 => ?_
    · simp at hb2
      rw [stepsOk, hb2, Bool.and_false]
    refine fun H1 e1 => ws_cons (ps_fld (pv 0) (pv 1) rfl) ⟨_, rfl, _, rfl, x, _, dx, [], rfl, e1 _ _ hx, T.clS, T.naS _ (by decide +kernel), by decide, ?_⟩
    have nxb : b ≠ x := ne_of hb hx (by intro z; cases z)
    refine ws_one (ps_fld (pv 0) (pe_callTy call_tuple_of rfl T.n_tuple (by decide +kernel) (pa_cons (pv 2) pa_nil)) rfl) ⟨_, rfl, b, ints_ ns, rfl, .inl ⟨sq_of (by rw [upd_ne nxb]; exact e1 _ _ hb), fun t ht => ?_⟩⟩
    have nxt : t ≠ x := fun z => by
      rw [z, upd_same] at ht
      cases ht
    refine ⟨_, rfl, x, _, dx, [("most", .int (m : Nat))], rfl, by rw [upd_ne nxt.symm]; exact upd_same, T.clS, T.naS _ (by decide +kernel), (by show 1 < 1000; decide), hQ ?_ _ (fun c o hc h => ?_) ⟨dx, t, upd_same, ?_⟩⟩
    · simp at hb1 hb2
      rw [stepsOk, hb2, Bool.and_true, Bool.and_eq_true, decide_eq_true_eq, decide_eq_true_eq]
      omega
    · have h1 := e1 _ _ h
      rw [upd_ne nxt] at ht
      have nct : c ≠ t := ne_of_none h1 ht
      rw [upd_ne hc, upd_ne nct, upd_ne hc]
      exact h1
    · rw [upd_ne nxt]
      exact upd_same
end
end K75
/-! the defs: Steps further, line_of, steps_text -/
namespace K75
open PySem PySem.Spec PyProof.Rows L2 Evl He
theorem lt1000 {n : Nat} (h : n < 1000000) : n < 2 ^ 1000 := Nat.lt_of_lt_of_le h (Nat.le_trans (by decide : 1000000 ≤ 2 ^ 20) (Nat.pow_le_pow_right (by decide) (by decide)))
theorem kit_own {K : PySem.W.Frag} {C : Addr} : PySem.W.kitOne K (.ref C) (.ref C) = some true := by
  unfold PySem.W.kitOne
  rw [if_pos (by simp)]
section
variable {P : Program} {w : World} {K : PySem.W.Frag} {mg : Str → Option Value} {base : Heap}
theorem new_back {xs : List V} {v : V} {H1 H2 H3 : Hp} (e : Ex H1 H2) (h : isNewL xs v H2 H3) : isNewL xs v H1 H3 := by
  obtain ⟨p, rfl, h1, h2⟩ := h
  exact ⟨p, rfl, fresh_back e h1, h2⟩
/-! ### bounds -/
theorem s_Steps_bounds : FnScope ["self"] ["self"] (defScope d_Steps_bounds.st) := C8.fnScope_by (by decide +kernel)
abbrev SpStepsBounds (K : PySem.W.Frag) : Sp := SpR (fun a : Addr × Nat × List Nat => [.ref a.1]) (fun a H => IsSteps K a.2.1 a.2.2 a.1 H) (fun a => isNewL (ints_ a.2.2))
theorem c_Steps_bounds (T : Tx K mg) : CalX P w K mg base CX0 1 d_Steps_bounds ["self"] (SpStepsBounds K) := by
  refine CalX.of0 (f_Steps_bounds T) b_Steps_bounds s_Steps_bounds (fun vs H Q E h => ?_) (fun cdv A outer s H vs Q E hr h => ?_)
  · obtain ⟨a, rfl, _⟩ := h
    rfl
  · obtain ⟨⟨x, m, ns⟩, rfl, ⟨dx, t, hx, ht⟩, hQ⟩ := h
    exact WS.here (w_retL (vl_list T.n_list (v_fld (v_var 0) hx T.clS (T.naS _ (by decide +kernel)) rfl) (.inr (st_of ht))) fun p H2 hp e2 h2 => hQ _ _ e2 ⟨p, rfl, hp, h2⟩)
/-! ### check_steps -/
theorem s_check_steps : FnScope ["value"] ["value"] (defScope d_check_steps.st) := C8.fnScope_by (by decide +kernel)
abbrev SpCheckSteps (K : PySem.W.Frag) : Sp := SpR (fun a : Addr × Nat × List Nat => [.ref a.1]) (fun a H => IsSteps K a.2.1 a.2.2 a.1 H) (fun a v _ _ => v = .non)
theorem c_check_steps (T : Tx K mg) : CalX P w K mg base CX0 1 d_check_steps ["value"] (SpCheckSteps K) := by
  refine CalX.of0 (f_check_steps T) b_check_steps s_check_steps (fun vs H Q E h => ?_) (fun cdv A outer s H vs Q E hr h => ?_)
  · obtain ⟨a, rfl, _⟩ := h
    rfl
  · obtain ⟨⟨x, m, ns⟩, rfl, ⟨dx, t, hx, ht⟩, hQ⟩ := h
    exact WS.here (w_if_never (b := !true) rfl (vt_not (vt_val (v_isi (k := true) T.n_isinstance (v_var 0) (v_own T.g_Steps) (.own _) (fun H1 e1 => T.tyS (e1 _ _ hx)) kit_own))) (w_nil fun H1 e1 => hQ _ _ e1 rfl))
/-! ### line_of -/
abbrev N_line_of : List Str := ["word", "numbers", "number"]
theorem s_line_of : FnScope N_line_of ["word", "numbers"] (defScope d_line_of.st) := C8.fnScope_by (by decide +kernel)
/-- numbers that are fit to be written -/
def Fit (ns : List Nat) : Prop := ns.length ≤ 20000 ∧ ∀ n ∈ ns, n < 1000000
theorem fit_sum {word ns : List Nat} (hw : word.length ≤ 100) (h : Fit ns) : sumL (word :: ns.map TL.numL) + (word :: ns.map TL.numL).length * 1 ≤ 200000 := by
  have h1 := sumL_le (ts := ns.map TL.numL) (k := 6) fun p hp => by
    obtain ⟨n, hn, rfl⟩ := List.mem_map.mp hp
    exact TL.numL_len (by decide) (by have := h.2 n hn; omega)
  have h2 := h.1
  simp only [sumL, List.map_cons, List.sum_cons, List.length_cons, List.length_map] at h1 ⊢
  omega
theorem lineT_len {word ns : List Nat} (hw : word.length ≤ 100) (h : Fit ns) : (lineT word ns).length ≤ 200000 := by
  have h1 := join_le [32] (word :: ns.map TL.numL)
  have h2 := fit_sum hw h
  simp only [List.length_cons, List.length_nil, Nat.zero_add] at h1
  unfold lineT
  simp only [List.length_cons] at h2
  omega
abbrev SpLine : Sp := SpR (fun a : List Nat × Addr × List Nat => [.str (SX.S a.1), .ref a.2.1]) (fun a H => H a.2.1 = some (.lst (ints_ a.2.2)) ∧ a.1.length ≤ 100 ∧ Fit a.2.2) (fun a v _ _ => v = .str (SX.S (lineT a.1 a.2.2)))
theorem txts_nums (word : List Nat) (ns : List Nat) : V.str (SX.S word) :: ((ns.map fun n => V.str (SX.S (TL.numL n))) ++ []) = txts (word :: ns.map TL.numL) := by
  rw [List.append_nil, txts, List.map_cons, List.map_map] <;> rfl
/-- a written text -/
theorem v_lit {X : Cx} {n : Str} {j pos} {σ : L2.St} {H : Hp} {t : List Nat} (h : n = SX.S t) : VX X (.Constant (.str n) j pos) σ H (.str (SX.S t)) := by
  subst h
  exact v_str
theorem c_line_of (T : Tx K mg) : CalX P w K mg base CX0 1 d_line_of ["word", "numbers"] SpLine := by
  refine CalX.of0 (f_line_of T) b_line_of s_line_of (fun vs H Q E h => ?_) (fun cdv A outer s H vs Q E hr h => ?_)
  · obtain ⟨a, rfl, _⟩ := h
    rfl
  · obtain ⟨⟨word, q, ns⟩, rfl, ⟨hq, hw, hf⟩, hQ⟩ := h
    have hf : Fit ns := hf
    have hw : word.length ≤ 100 := hw
    have nd := s_line_of.nd
    refine WS.here (w_ret (v_join (v_lit (t := [32]) (by decide +kernel)) (VL.seq (VL.is (vl_disp (va_cons (v_var 0) (va_star (VL.seq (vl_map (zs := ns) (f := fun n => V.int ((n : Nat) : Int)) (g' := fun n => .str (SX.S (TL.numL n))) (j := 2) (own := [("number", 2)]) rfl nd ((vi_list (VX.seq (v_var 1) (sq_of hq))).cast (ints_len ns)) (by have := hf.1; omega)
      (blkOk_by (N := N_line_of) (sc := defScope d_line_of.st) (by decide +kernel)) (fun _ _ _ _ _ => pg_name (i := 2) nd rfl (Or.inl rfl)) (fun _ => rfl)
      (fun s H0 C cl fp z hz => v_strN T.n_str (v_var 2) (lt1000 (hf.2 z hz))))) va_nil)) ?_) (txts_nums word ns))) ?_) fun H1 e1 => hQ _ _ e1 rfl)
    · simp only [List.length_cons, List.length_append, List.length_map, List.length_nil]
      have := hf.1
      omega
    · have := fit_sum hw hf
      unfold sumL at this
      simp only [List.length_cons, List.length_nil] at this ⊢
      omega
/-! ### steps_text -/
theorem s_steps_text : FnScope ["steps"] ["steps"] (defScope d_steps_text.st) := C8.fnScope_by (by decide +kernel)
abbrev SpStepsText (K : PySem.W.Frag) : Sp := SpR (fun a : Addr × Nat × List Nat => [.ref a.1]) (fun a H => IsSteps K a.2.1 a.2.2 a.1 H ∧ Fit (a.2.1 :: a.2.2)) (fun a v _ _ => v = .str (SX.S (lineT wSteps (a.2.1 :: a.2.2))))
theorem c_steps_text (T : Tx K mg) : CalX P w K mg base CX0 3 d_steps_text ["steps"] (SpStepsText K) := by
  refine CalX.of0 (f_steps_text T) b_steps_text s_steps_text (fun vs H Q E h => ?_) (fun cdv A outer s H vs Q E hr h => ?_)
  · obtain ⟨a, rfl, _⟩ := h
    rfl
  · obtain ⟨⟨x, m, ns⟩, rfl, ⟨hS, hf⟩, hQ⟩ := h
    obtain ⟨dx, t, hx, ht⟩ := id hS
    refine WS.here (w_do (v_call (x, m, ns) (c_check_steps T) hr (by decide) T.g_check_steps (va_one (v_var 0)) fun H1 e1 => hS.ex e1) ?_)
    refine w_ret (VR.val (vr_callR (R' := fun v _ _ => v = .str (SX.S (lineT wSteps (m :: ns)))) (c_line_of T) hr (by decide) T.g_line_of (var_cons (v_lit (t := wSteps) (by decide +kernel)).rel (var_one (VL.rel (xs := ints_ (m :: ns)) (VL.is (vl_disp (va_cons (v_fld (v_var 0) hx T.clS (T.naS _ (by decide +kernel)) rfl) (va_star (VL.seq (VR.lst (vr_prop (x, m, ns) (c_Steps_bounds T) hr (by decide) (v_var 0) hx T.clS T.prS rfl (fun H1 e1 => hS.ex e1) fun _ _ _ _ => new_back))) va_nil)) ?_) (by rw [List.append_nil] <;> rfl))))) fun vs H1 H2 e1 e2 r => ?_)) fun H1 e1 => hQ _ _ e1 rfl
    · have := hf.1
      simp only [List.length_cons, List.length_append, ints_len, List.length_nil] at this ⊢
      omega
    · obtain ⟨v, vs', H3, rfl, e3, e4, rfl, u, rfl, p, rfl, hp, h2⟩ := r
      exact ⟨(wSteps, p, m :: ns), rfl, ⟨h2, (by show wSteps.length ≤ 100; decide), hf⟩, fun v H3 e r => r⟩
end
end K75
/-! own words, further: arithmetic, append, data compared -/
namespace K75
open PySem PySem.Spec PyProof.Rows L2 Evl He
section
variable {X : Cx} {a b e c : Expr} {es : List Expr} {σ : L2.St} {H : Hp} {v x y : V} {xs ys : List V} {pos p' p2 : Pos} {D : Ends} {rest : List Stmt} {n : Str} {l : Addr}
theorem v_mul {i j : Int} (ha : VX X a σ H (.int i)) (hb : VX X b σ H (.int j)) (h : CMul i j) : VX X (.BinOp a .Mult b pos) σ H (.int (i * j)) := v_op op_mul ha hb (rv_I h)
theorem v_fdiv {i j : Int} (ha : VX X a σ H (.int i)) (hb : VX X b σ H (.int j)) (h : CDiv i j) : VX X (.BinOp a .FloorDiv b pos) σ H (.int (i / j)) := v_op op_fdiv ha hb (rv_I h)
theorem v_mod {i j : Int} (ha : VX X a σ H (.int i)) (hb : VX X b σ H (.int j)) (h : 0 < j) : VX X (.BinOp a .Mod b pos) σ H (.int (i % j)) := v_op op_mod ha hb (rv_I h)
theorem v_pow {i j : Int} (ha : VX X a σ H (.int i)) (hb : VX X b σ H (.int j)) (h : CPow i j) : VX X (.BinOp a .Pow b pos) σ H (.int (i ^ j.toNat)) := v_op op_pow ha hb (rv_I h)
/-- l.append(e) -/
theorem w_append (i : Nat) {R : V → Hp → Hp → Prop} {sp np : Pos} (hv : VR X e σ H R) (hl : H l = some (.lst xs)) (hz : xs.length ≤ 1000000) (k : ∀ v H1 H2, Ex H H1 → Ex H1 H2 → R v H1 H2 → WS X rest D σ (upd H2 l (.lst (xs ++ [v]))))
    (hs : σ[i]? = some (some (.ref l)) := by rfl) (hN : X.N[i]? = some n := by rfl) (hvis : Vis X.env.scope n := by first | exact Or.inl rfl | exact Or.inr (Or.inl rfl) | exact Or.inr (Or.inr rfl)) (hd : (n == ("__debug__" : Str)) = false := by decide) (hcd : (n == ("__classdict__" : Str)) = false := by decide)
    (hbase : attributeBase (.Name n np) "append" X.env (eval (.Name n np) X.env) = eval (.Name n np) X.env := by rfl)
    (hfew : ((backTo pos (starEach [e] X.env)).all (fun x => !x.1) && (backToKw pos (keywordEach [] X.env)).all (fun x => x.1.isSome)
      && decide ([e].length + ([] : List Keyword).length + (if ([] : List Keyword).isEmpty then 0 else 1) < 30)) = true := by rfl)
    (hline : (p'.endLine == pos.line) = true := by rfl) (hst : starEach [e] X.env = (false, eval e X.env) :: starEach [] X.env := by rfl) (hpl : (backTo pos (starEach [] X.env)).any (·.1) = false := by rfl)
    (hsw : swapsWith (.Call (.Attribute (.Name n np) "append" p') [e] [] pos) none sp.line X.env = pure false := by rfl) : WS X (.Expr (.Call (.Attribute (.Name n np) "append" p') [e] [] pos) sp :: rest) D σ H :=
  w_cons (ps_expr (pe_bm PySem.F.plainAttrs_list PySem.F.slot_list_append PySem.F.type_list_append mt_append (pv i hN hvis hd hcd) (pa_cons pe_w pa_nil hst) hbase hfew hline hst hpl) hsw) fun H1 e1 => ⟨_, hs, .inl ⟨rfl, _, sq_of (e1 _ _ hl)⟩, hv H1 e1 _ fun v H2 e2 r =>
    ⟨l, xs, v, rfl, rfl, e2 _ _ (e1 _ _ hl), by rw [sizeLine_eq]; omega, (k v H1 H2 e1 e2 r).here⟩⟩
/-! ### data -/
mutual
theorem dp_ex {K : PySem.W.Frag} {H H' : Hp} (e : Ex H H') : ∀ {v : V} {d : PyData}, Dp K H v d → Dp K H' v d
  | _, _, .non => .non
  | _, _, .bl b => .bl b
  | _, _, .int i => .int i
  | _, _, .str x => .str x
  | _, _, .lst h hs => .lst (ex_l e h) (dpAll_ex e hs)
  | _, _, .tup h hs => .tup (ex_t e h) (dpAll_ex e hs)
theorem dpAll_ex {K : PySem.W.Frag} {H H' : Hp} (e : Ex H H') : ∀ {vs : List V} {ds : List PyData}, DpAll K H vs ds → DpAll K H' vs ds
  | _, _, .nil => .nil
  | _, _, .cons h hs => .cons (dp_ex e h) (dpAll_ex e hs)
end
def isDp (K : PySem.W.Frag) (d : PyData) : V → Hp → Hp → Prop := fun v _ H2 => Dp K H2 v d
abbrev VD (X : Cx) (e : Expr) (σ : L2.St) (H : Hp) (d : PyData) : Prop := VR X e σ H (isDp X.K d)
theorem dp_ints {K : PySem.W.Frag} {H : Hp} : ∀ ns : List Nat, DpAll K H (ints_ ns) (ns.map fun n => PyData.int ((n : Nat) : Int))
  | [] => .nil
  | n :: r => .cons (.int _) (dp_ints r)
theorem VS.ints {ns : List Nat} (h : VS X a σ H (ints_ ns)) : VD X a σ H (.list (ns.map fun n => PyData.int ((n : Nat) : Int))) := VR.imp h fun v H1 H2 _ _ r => by
  obtain ⟨p, rfl, hp⟩ := r
  exact .lst hp (dp_ints ns)
/-- a written list of data -/
theorem VL.dp {ds : List PyData} (h : VL X a σ H xs) (hd : DpAll X.K H xs ds) : VD X a σ H (.list ds) := fun H1 e1 Q q => h H1 e1 Q fun p H2 hp e2 h2 => q _ H2 e2 (.lst (sq_of h2) (dpAll_ex (e1.trans e2) hd))
theorem vt_neD {d1 d2 : PyData} (hu : X.A.units + 64 < cLine) (ha : VD X a σ H d1) (hb : VD X b σ H d2) (h1 : SeqAt.shaped d1 = true) (h2 : SeqAt.shaped d2 = true) : VT X (.Compare a [.NotEq] [b] pos) σ H (!PyData.eqv d1 d2) := vt_cmpR (op_neD hu) ha hb (nomark _) fun H1 H2 H3 x y e1 e2 e3 r1 r2 =>
  fun H4 e4 Q q => ⟨d1, d2, dp_ex (e3.trans e4) r1, dp_ex e4 r2, h1, h2, q H4 (Ex.refl _)⟩
theorem v_eqD {d1 d2 : PyData} (hu : X.A.units + 64 < cLine) (ha : VD X a σ H d1) (hb : VD X b σ H d2) (h1 : SeqAt.shaped d1 = true) (h2 : SeqAt.shaped d2 = true) : VX X (.Compare a [.Eq] [b] pos) σ H (.bl (PyData.eqv d1 d2)) := v_cmpR (op_eqD hu) ha hb (nomark _) fun H1 H2 H3 x y e1 e2 e3 r1 r2 =>
  fun H4 e4 Q q => ⟨d1, d2, dp_ex (e3.trans e4) r1, dp_ex e4 r2, h1, h2, q H4 (Ex.refl _)⟩
theorem v_neD {d1 d2 : PyData} (hu : X.A.units + 64 < cLine) (ha : VD X a σ H d1) (hb : VD X b σ H d2) (h1 : SeqAt.shaped d1 = true) (h2 : SeqAt.shaped d2 = true) : VX X (.Compare a [.NotEq] [b] pos) σ H (.bl (!PyData.eqv d1 d2)) := v_cmpR (op_neD hu) ha hb (nomark _) fun H1 H2 H3 x y e1 e2 e3 r1 r2 =>
  fun H4 e4 Q q => ⟨d1, d2, dp_ex (e3.trans e4) r1, dp_ex e4 r2, h1, h2, q H4 (Ex.refl _)⟩
theorem vt_eqD {d1 d2 : PyData} (hu : X.A.units + 64 < cLine) (ha : VD X a σ H d1) (hb : VD X b σ H d2) (h1 : SeqAt.shaped d1 = true) (h2 : SeqAt.shaped d2 = true) : VT X (.Compare a [.Eq] [b] pos) σ H (PyData.eqv d1 d2) := vt_cmpR (op_eqD hu) ha hb (nomark _) fun H1 H2 H3 x y e1 e2 e3 r1 r2 =>
  fun H4 e4 Q q => ⟨d1, d2, dp_ex (e3.trans e4) r1, dp_ex e4 r2, h1, h2, q H4 (Ex.refl _)⟩
end
/-! ### shapes of data -/
theorem sh_leaf : ∀ {d : PyData}, d.canLay0 = true → d.depth = 0 → SeqAt.shaped d = true := fun {d} h1 h2 => by
  unfold SeqAt.shaped
  rw [h1, h2]
  rfl
/-- data of depth at most k that may be laid -/
def ShK (k : Nat) (d : PyData) : Prop := d.canLay0 = true ∧ d.depth ≤ k
theorem ShK.shaped {k : Nat} {d : PyData} (h : ShK k d) (hk : k ≤ 64) : SeqAt.shaped d = true := by
  unfold SeqAt.shaped
  rw [h.1, decide_eq_true (Nat.le_trans h.2 hk)] <;> rfl
theorem shk_int {i : Int} : ShK 0 (.int i) := ⟨by simp only [PyData.canLay0], by simp only [PyData.depth]; omega⟩
theorem shk_non : ShK 0 .none := ⟨by simp only [PyData.canLay0], by simp only [PyData.depth]; omega⟩
theorem shk_str {x : Str} (h : PyData.strOk x = true) : ShK 0 (.str x) := ⟨by simp only [PyData.canLay0]; exact h, by simp only [PyData.depth]; omega⟩
theorem ShK.mono {j k : Nat} {d : PyData} (h : ShK j d) (hk : j ≤ k) : ShK k d := ⟨h.1, Nat.le_trans h.2 hk⟩
theorem shk_all {k : Nat} : ∀ {ds : List PyData}, (∀ d ∈ ds, ShK k d) → PyData.canLayAll0 ds = true ∧ PyData.depthAll ds ≤ k
  | [], _ => ⟨by simp only [PyData.canLayAll0], by simp only [PyData.depthAll]; omega⟩
  | d :: r, h => by
    obtain ⟨h1, h2⟩ := h d (List.mem_cons_self ..)
    obtain ⟨h3, h4⟩ := shk_all fun z hz => h z (List.mem_cons_of_mem _ hz)
    exact ⟨by simp only [PyData.canLayAll0, h1, h3, Bool.and_self], by simp only [PyData.depthAll]; omega⟩
theorem shk_list {k : Nat} {ds : List PyData} (h : ∀ d ∈ ds, ShK k d) : ShK (k + 1) (.list ds) := by
  obtain ⟨h1, h2⟩ := shk_all h
  exact ⟨by simp only [PyData.canLay0]; exact h1, by simp only [PyData.depth]; omega⟩
theorem shk_ints (ns : List Nat) : ShK 1 (.list (ns.map fun n => PyData.int ((n : Nat) : Int))) := shk_list fun d hd => by
  obtain ⟨n, _, rfl⟩ := List.mem_map.mp hd
  exact shk_int
theorem eqv_ints_nil (ns : List Nat) : PyData.eqv (.list (ns.map fun n => PyData.int ((n : Nat) : Int))) (.list []) = decide (ns = []) := by
  cases ns with
  | nil => simp [PyData.eqv, PyData.eqvAll]
  | cons a r => simp [PyData.eqv, PyData.eqvAll]
section
variable {X : Cx} {a : Expr} {σ : L2.St} {H : Hp} {pos p2 : Pos}
/-- a != [] -/
theorem vt_neNil {ns : List Nat} (hu : X.A.units + 64 < cLine) (ha : VS X a σ H (ints_ ns)) : VT X (.Compare a [.NotEq] [.List [] p2] pos) σ H (!decide (ns = [])) :=
  (vt_neD hu (VS.ints ha) (VL.dp (vl_disp va_nil (Nat.zero_le _)) .nil) ((shk_ints ns).shaped (by decide)) (ShK.shaped (shk_list (k := 0) fun d hd => nomatch hd) (by decide))).is (by rw [eqv_ints_nil])
end
end K75
/-! the defs: Tree -/
namespace K75
open PySem PySem.Spec PyProof.Rows L2 Evl He
section
variable {P : Program} {w : World} {K : PySem.W.Frag} {mg : Str → Option Value} {base : Heap}
/-! ### are_told -/
abbrev N_are_told : List Str := ["value", "classes", "pages", "one"]
theorem s_are_told : FnScope N_are_told ["value", "classes"] (defScope d_are_told.st) := C8.fnScope_by (by decide +kernel)
abbrev SpTold : Sp := SpR (fun a : Addr × List Nat × Nat => [.ref a.1, .int (a.2.2 : Nat)]) (fun a H => H a.1 = some (.lst (ints_ a.2.1)) ∧ a.2.1.length ≤ 20000) (fun a v _ _ => v = .bl (toldB a.2.2 a.2.1))
theorem inV_ints (x : Nat) (ns : List Nat) : inV (.int (x : Nat)) (ints_ ns) = decide (x ∈ ns) := by
  unfold inV ints_
  rw [List.any_map, Bool.eq_iff_iff]
  simp only [List.any_eq_true, Function.comp_apply, decide_eq_true_eq]
  constructor
  · rintro ⟨y, hy, h⟩
    have : (y : Int) = (x : Int) := by simpa [eqV] using h
    have : y = x := by omega
    subst this
    exact hy
  · intro h
    exact ⟨x, h, by simp [eqV]⟩
theorem flat_ints (ns : List Nat) : (ints_ ns).all flatV = true := by
  unfold ints_
  rw [List.all_map, List.all_eq_true]
  intro n _
  rfl
theorem c_are_told (T : Tx K mg) : CalX P w K mg base CX0 2 d_are_told ["value", "classes"] SpTold := by
  refine CalX.of0 (f_are_told T) b_are_told s_are_told (fun vs H Q E h => ?_) (fun cdv A outer s H vs Q E hr h => ?_)
  · obtain ⟨a, rfl, _⟩ := h
    rfl
  · obtain ⟨⟨a, ns, m⟩, rfl, ⟨ha, hz⟩, hQ⟩ := h
    have hz : ns.length ≤ 20000 := hz
    have nd := s_are_told.nd
    refine WS.here (w_when (VW.t (vw_or (vt_not (vt_val (v_isi2 T.n_isinstance (v_var 0) (v_ty T.n_list (by decide +kernel)) (v_ty T.n_tuple (by decide +kernel)) (.ty "list") (.ty "tuple") (fun H1 e1 => .base (.lst (e1 _ _ ha)))
        (kitAny_cons (b := true) (kit_ty (by decide +kernel)) (fun z => nomatch z) (fun _ => rfl))))) fun _ => vw_or1 (VT.is (b := !decide (ns.length + 1 ∈ sizesT)) (vt_notin (xs := ints_ sizesT) (VX.is (x := .int ((ns.length + 1 : Nat) : Int)) (v_add (v_len T.n_len (VX.seq (v_var 0) (sq_of ha))) v_int) (by rw [ints_len] <;> rfl))
          (VL.seq (vl_map (zs := ([2, 4, 8, 16, 32] : List Nat)) (f := fun n => V.int ((n : Nat) : Int)) (g' := fun n => V.int (2 * ((n : Nat) : Int))) (j := 2) (own := [("pages", 2)]) rfl nd ((vi_tup (v_own T.g_PAGES) (T.pages H)).cast rfl) (by decide)
            (blkOk_by (N := N_are_told) (sc := defScope d_are_told.st) (by decide +kernel)) (fun _ _ _ _ _ => pg_name (i := 2) nd rfl (Or.inl rfl)) (fun _ => rfl)
            (fun s H0 C cl fp z _ => v_mul v_int (v_var 2) (.inl ⟨by decide, by decide⟩)))) rfl (flat_ints sizesT)) (by rw [inV_ints]))))
      (fun hb => w_ret v_bl fun H1 e1 => hQ _ _ e1 ?_) fun hb => ?_)
    · congr 1
      symm
      simp at hb
      unfold toldB
      simp [hb]
    · refine w_ret (v_all rfl T.n_all (VL.seq (VL.is (vl_map (zs := ns) (f := fun n => V.int ((n : Nat) : Int)) (g' := fun n => .bl (decide ((0 : Int) ≤ (n : Int)) && decide ((n : Int) ≤ (m : Int)))) (j := 3) (own := [("one", 3)]) rfl nd
        ((vi_list (VX.seq (v_var 0) (sq_of ha))).cast (ints_len ns)) (by omega) (blkOk_by (N := N_are_told) (sc := defScope d_are_told.st) (by decide +kernel)) (fun _ _ _ _ _ => pg_name (i := 3) nd rfl (Or.inl rfl)) (fun _ => rfl)
        (fun s H0 C cl fp z _ => v_call (((z : Int), 0, (m : Int)) : Int × Int × Int) (c_is_count T) hr (by decide) T.g_is_count (va_cons (v_var 3) (va_cons v_int (va_one (v_var 1)))) fun _ _ => trivial))
        (ys := (ns.map fun n : Nat => decide (n ≤ m)).map V.bl) (by
          rw [List.map_map]
          refine List.map_congr_left fun n _ => ?_
          show V.bl (decide ((0 : Int) ≤ (n : Int)) && decide ((n : Int) ≤ (m : Int))) = V.bl (decide (n ≤ m))
          congr 1
          simp)))) fun H1 e1 => hQ _ _ e1 ?_
      simp at hb
      show V.bl _ = V.bl _
      unfold toldB
      rw [decide_eq_true hb, Bool.true_and]
      congr 1
      rw [List.all_map] <;> rfl
/-! ### Tree.__init__ -/
def IsTree (K : PySem.W.Frag) (c : Nat) (told : List Nat) (x : Addr) (H : Hp) : Prop := ∃ dx t fs, H x = some (.ins (ga K "Tree") dx fs) ∧ fs.lookup ("classes" : Str) = some (.int (c : Nat)) ∧ fs.lookup ("told_row" : Str) = some (.ref t) ∧ H t = some (.tup (ints_ told))
theorem IsTree.ex {c : Nat} {told : List Nat} {x : Addr} {H H' : Hp} (e : Ex H H') (h : IsTree K c told x H) : IsTree K c told x H' := by
  obtain ⟨dx, t, fs, h1, h2, h3, h4⟩ := h
  exact ⟨dx, t, fs, e _ _ h1, h2, h3, e _ _ h4⟩
def SpTree (K : PySem.W.Frag) : Sp := fun vs H Q E => ∃ (x dx b : Addr) (c : Nat) (told : List Nat), vs = [.ref x, .int (c : Nat), .ref b] ∧ H x = some (.ins (ga K "Tree") dx []) ∧ H b = some (.lst (ints_ told)) ∧ told.length ≤ 20000 ∧
  (treeOk c told = true → ∀ H', ExBut x H H' → IsTree K c told x H' → Q .non H') ∧ (treeOk c told = false → ∀ d H', Ex H H' → E (.ref (ga K "BadTree")) (some d) H')
theorem s_Tree_init : FnScope ["self", "classes", "told"] ["self", "classes", "told"] (defScope d_Tree_init.st) := C8.fnScope_by (by decide +kernel)
theorem sizes_le {n : Nat} (h : n + 1 ∈ sizesT) : n ≤ 63 := by
  simp only [sizesT, List.mem_cons, List.not_mem_nil, or_false] at h
  omega
theorem c_Tree_init (T : Tx K mg) : CalX P w K mg base (L2N.CX P w) 3 d_Tree_init ["self", "classes", "told"] (SpTree K) := by
  refine CalX.ofX (f_Tree_init T) b_Tree_init s_Tree_init (fun vs H Q E h => ?_) (fun cdv A outer s H vs Q E hr h => ?_)
  · obtain ⟨x, dx, b, m, ns, rfl, _⟩ := h
    rfl
  · obtain ⟨x, dx, b, c, told, rfl, hx, hb, hz, hQ, hE⟩ := h
    refine WS.here (w_when (vt_not (vt_val (v_call (((c : Nat) : Int), 1, 8) (c_is_count T) hr (by decide) T.g_is_count (va_cons (v_var 1) (va_cons v_int (va_one (v_num T.i_MOST_BOUNDS)))) fun _ _ => trivial)))
      (fun hb1 => w_raiseN (d := d_BadTree_init) (L2N.takes_of rfl rfl rfl rfl) (T.oex "BadTree" (by decide +kernel)) (T.ini "BadTree" (by decide +kernel)) (c_BadTree_init T) hr (by decide) T.g_BadTree v_str fun d H2 _ e2 _ => hE ?_ d H2 e2) fun hb1 => ?_)
    · simp at hb1
      unfold treeOk
      simp
      intro h1 h2
      omega
    refine w_when (vt_not (vt_val (v_call (b, told, c) (c_are_told T) hr (by decide) T.g_are_told (va_cons (v_var 2) (va_one (v_var 1))) fun H1 e1 => ⟨e1 _ _ hb, hz⟩)))
      (fun hb2 => w_raiseN (d := d_BadTree_init) (L2N.takes_of rfl rfl rfl rfl) (T.oex "BadTree" (by decide +kernel)) (T.ini "BadTree" (by decide +kernel)) (c_BadTree_init T) hr (by decide) T.g_BadTree v_str fun d H2 _ e2 _ => hE ?_ d H2 e2) fun hb2 => ?_
    · simp at hb2
      rw [treeOk, hb2, Bool.and_false]
    have hok : treeOk c told = true := by
      simp at hb1 hb2
      rw [treeOk, hb2, Bool.and_true, Bool.and_eq_true, decide_eq_true_eq, decide_eq_true_eq]
      omega
    have hlen : told.length ≤ 63 := by
      simp at hb2
      unfold toldB at hb2
      rw [Bool.and_eq_true] at hb2
      exact sizes_le (of_decide_eq_true hb2.1)
    have nxb : b ≠ x := ne_of hb hx (by intro z; cases z)
    refine fun H1 e1 => ws_cons (ps_fld (pv 0) (pv 1) rfl) ⟨_, rfl, _, rfl, x, _, dx, [], rfl, e1 _ _ hx, T.clT, T.naT _ (by decide +kernel), by decide, ?_⟩
    refine ws_cons (ps_fld (pv 0) (pe_callTy call_tuple_of rfl T.n_tuple (by decide +kernel) (pa_cons (pv 2) pa_nil)) rfl) ⟨_, rfl, b, ints_ told, rfl, .inl ⟨sq_of (by rw [upd_ne nxb]; exact e1 _ _ hb), fun t ht => ?_⟩⟩
    have nxt : t ≠ x := fun z => by
      rw [z, upd_same] at ht
      cases ht
    have nbt : b ≠ t := fun z => by
      rw [← z, upd_ne nxb, e1 _ _ hb] at ht
      cases ht
    refine ⟨_, rfl, x, _, dx, [("classes", .int (c : Nat))], rfl, by rw [upd_ne nxt.symm]; exact upd_same, T.clT, T.naT _ (by decide +kernel), (by show 1 < 1000; decide), ?_⟩
    -- pages
    refine ws_cons (ps_fld (pv 0) (pe_op op_fdiv (pe_op op_add (pe_callB call_len rfl T.n_len boot_len (pa_cons (pv 2) pa_nil)) pe_int) pe_int) rfl) ⟨_, rfl, _, told.length, rfl, .inl ⟨ints_ told, sq_of (by rw [upd_ne nxb, upd_ne nbt, upd_ne nxb]; exact e1 _ _ hb), (ints_len told).symm⟩, _, _, rfl, rfl, _, _, rfl, rfl, ⟨by decide, by decide⟩, ?_⟩
    refine ⟨_, rfl, x, _, dx, [("classes", .int (c : Nat)), ("told_row", .ref t)], rfl, upd_same, T.clT, T.naT _ (by decide +kernel), (by show 2 < 1000; decide), ?_⟩
    -- leaves
    have hp0 : (0 : Int) ≤ ((told.length : Int) + 1) / 2 := by omega
    have hp1 : ((told.length : Int) + 1) / 2 ≤ 32 := by omega
    refine ws_one (ps_fld (pv 0) (pe_tupRg rfl rfl T.n_tuple (prg_2 rfl T.n_range (pe_fld (pv 0) rfl) (pe_op op_mul pe_int (pe_fld (pv 0) rfl)))) rfl) ⟨_, rfl, x, _, dx, [("classes", .int (c : Nat)), ("told_row", .ref t), ("pages", .int (((told.length : Int) + 1) / 2))], _, rfl, upd_same, T.clT, T.naT _ (by decide +kernel), rfl,
      _, rfl, x, _, dx, [("classes", .int (c : Nat)), ("told_row", .ref t), ("pages", .int (((told.length : Int) + 1) / 2))], _, rfl, upd_same, T.clT, T.naT _ (by decide +kernel), rfl, _, _, rfl, rfl, .inl ⟨by decide, by decide⟩, _, _, rfl, rfl, RgOk.of_le hp0 (by omega) (by omega) (by omega), fun l hl => ?_⟩
    have nxl : l ≠ x := fun z => by
      rw [z, upd_same] at hl
      cases hl
    have nlt : l ≠ t := fun z => by
      rw [z, upd_ne nxt, upd_ne nxt, upd_same] at hl
      cases hl
    refine ⟨_, rfl, x, _, dx, [("classes", .int (c : Nat)), ("told_row", .ref t), ("pages", .int (((told.length : Int) + 1) / 2))], rfl, by rw [upd_ne nxl.symm]; exact upd_same, T.clT, T.naT _ (by decide +kernel), (by show 3 < 1000; decide), hQ hok _ (fun q o hq h => ?_) ⟨dx, t, [("classes", .int (c : Nat)), ("told_row", .ref t), ("pages", .int (((told.length : Int) + 1) / 2)), ("leaves", .ref l)], upd_same, rfl, rfl, ?_⟩⟩
    · have h1 := e1 _ _ h
      rw [upd_ne nxt] at ht
      rw [upd_ne nxl, upd_ne nxl, upd_ne nlt, upd_ne nxl] at hl
      have nqt : q ≠ t := ne_of_none h1 ht
      have nql : q ≠ l := ne_of_none h1 hl
      rw [upd_ne hq, upd_ne nql, upd_ne hq, upd_ne hq, upd_ne nqt, upd_ne hq]
      exact h1
    · rw [upd_ne nxt, upd_ne nlt.symm, upd_ne nxt, upd_ne nxt, upd_same]
/-! ### told -/
theorem s_Tree_told : FnScope ["self"] ["self"] (defScope d_Tree_told.st) := C8.fnScope_by (by decide +kernel)
abbrev SpTreeTold (K : PySem.W.Frag) : Sp := SpR (fun a : Addr × Nat × List Nat => [.ref a.1]) (fun a H => IsTree K a.2.1 a.2.2 a.1 H) (fun a => isNewL (ints_ a.2.2))
theorem c_Tree_told (T : Tx K mg) : CalX P w K mg base CX0 1 d_Tree_told ["self"] (SpTreeTold K) := by
  refine CalX.of0 (f_Tree_told T) b_Tree_told s_Tree_told (fun vs H Q E h => ?_) (fun cdv A outer s H vs Q E hr h => ?_)
  · obtain ⟨a, rfl, _⟩ := h
    rfl
  · obtain ⟨⟨x, m, ns⟩, rfl, ⟨dx, t, fs, hx, hc, hr', ht⟩, hQ⟩ := h
    exact WS.here (w_retL (vl_list T.n_list (v_fld (v_var 0) hx T.clT (T.naT _ (by decide +kernel)) hr') (.inr (st_of ht))) fun p H2 hp e2 h2 => hQ _ _ e2 ⟨p, rfl, hp, h2⟩)
/-! ### check_tree -/
theorem s_check_tree : FnScope ["value"] ["value"] (defScope d_check_tree.st) := C8.fnScope_by (by decide +kernel)
abbrev SpCheckTree (K : PySem.W.Frag) : Sp := SpR (fun a : Addr × Nat × List Nat => [.ref a.1]) (fun a H => IsTree K a.2.1 a.2.2 a.1 H) (fun a v _ _ => v = .non)
theorem c_check_tree (T : Tx K mg) : CalX P w K mg base CX0 1 d_check_tree ["value"] (SpCheckTree K) := by
  refine CalX.of0 (f_check_tree T) b_check_tree s_check_tree (fun vs H Q E h => ?_) (fun cdv A outer s H vs Q E hr h => ?_)
  · obtain ⟨a, rfl, _⟩ := h
    rfl
  · obtain ⟨⟨x, m, ns⟩, rfl, ⟨dx, t, fs, hx, _⟩, hQ⟩ := h
    exact WS.here (w_if_never (b := !true) rfl (vt_not (vt_val (v_isi (k := true) T.n_isinstance (v_var 0) (v_own T.g_Tree) (.own _) (fun H1 e1 => T.tyT (e1 _ _ hx)) kit_own))) (w_nil fun H1 e1 => hQ _ _ e1 rfl))
end
end K75
/-! the defs: tree_text, are_figures, numbers_of, lines_of, check_line -/
namespace K75
open PySem PySem.Spec PyProof.Rows L2 Evl He
theorem ints_take (k : Nat) (ns : List Nat) : (ints_ ns).take k = ints_ (ns.take k) := by
  unfold ints_
  rw [List.map_take]
theorem ints_drop (k : Nat) (ns : List Nat) : (ints_ ns).drop k = ints_ (ns.drop k) := by
  unfold ints_
  rw [List.map_drop]
theorem txts_snoc (ls : List (List Nat)) (l : List Nat) : txts ls ++ [V.str (SX.S l)] = txts (ls ++ [l]) := by
  unfold txts
  rw [List.map_append] <;> rfl
theorem chunks_mem : ∀ (f m : Nat) (t : List Nat), ∀ p ∈ chunks f m t, p.length ≤ t.length ∧ ∀ x ∈ p, x ∈ t
  | 0, _, _, p, h => by cases h
  | f + 1, m, t, p, h => by
    rw [chunks] at h
    split at h
    · cases h
    · rcases List.mem_cons.mp h with h | h
      · subst h
        exact ⟨by simp; omega, fun x hx => List.mem_of_mem_take hx⟩
      · obtain ⟨h1, h2⟩ := chunks_mem f (2 * m) (t.drop m) p h
        refine ⟨by rw [List.length_drop] at h1; omega, fun x hx => List.mem_of_mem_drop (h2 x hx)⟩
theorem chunks_count : ∀ (f m : Nat) (t : List Nat), (chunks f m t).length ≤ f
  | 0, _, _ => by simp [chunks]
  | f + 1, m, t => by
    rw [chunks]
    split
    · simp
    · rw [List.length_cons]
      have := chunks_count f (2 * m) (t.drop m)
      omega
section
variable {P : Program} {w : World} {K : PySem.W.Frag} {mg : Str → Option Value} {base : Heap}
/-! ### tree_text -/
abbrev N_tree_text : List Str := ["tree", "lines", "told", "many"]
theorem s_tree_text : FnScope N_tree_text ["tree"] (defScope d_tree_text.st) := C8.fnScope_by (by decide +kernel)
abbrev SpTreeText (K : PySem.W.Frag) : Sp := SpR (fun a : Addr × Nat × List Nat => [.ref a.1]) (fun a H => IsTree K a.2.1 a.2.2 a.1 H ∧ a.2.2.length ≤ 63 ∧ a.2.1 < 1000000 ∧ ∀ n ∈ a.2.2, n < 1000000) (fun a v _ _ => v = .str (SX.S (treeT a.2.1 a.2.2)))
theorem c_tree_text (T : Tx K mg) : CalX P w K mg base CX0 3 d_tree_text ["tree"] (SpTreeText K) := by
  refine CalX.of0 (f_tree_text T) b_tree_text s_tree_text (fun vs H Q E h => ?_) (fun cdv A outer s H vs Q E hr h => ?_)
  · obtain ⟨a, rfl, _⟩ := h
    rfl
  · obtain ⟨⟨x, c, told⟩, rfl, ⟨hS, hl, hc, hn⟩, hQ⟩ := h
    have hS : IsTree K c told x H := hS
    have hl : told.length ≤ 63 := hl
    have nd := s_tree_text.nd
    obtain ⟨dx, t, fs, hx, hcl, hrow, ht⟩ := id hS
    refine WS.here (w_do (v_call (x, c, told) (c_check_tree T) hr (by decide) T.g_check_tree (va_one (v_var 0)) fun H1 e1 => hS.ex e1) ?_)
    refine w_setL 1 nd (vl_disp (va_one (VR.val (vr_callR (R' := fun v _ _ => v = .str (SX.S (lineT wTree [c]))) (c_line_of T) hr (by decide) T.g_line_of (var_cons (v_lit (t := wTree) (by decide +kernel)).rel (var_one (VL.rel (xs := ints_ [c]) (vl_disp (va_one (v_fld (v_var 0) hx T.clT (T.naT _ (by decide +kernel)) hcl)) (by show 1 ≤ 1000000; decide))))) fun vs H1 H2 e1 e2 r => ?_))) (by show 1 ≤ 1000000; decide)) fun l H1 hl0 e1 hl1 => ?_
    · obtain ⟨v, vs', H3, rfl, e3, e4, rfl, u, rfl, p, rfl, hp, h2⟩ := r
      exact ⟨(wTree, p, [c]), rfl, ⟨h2, (by show wTree.length ≤ 100; decide), by show 1 ≤ 20000; decide, fun n hn => by rw [List.mem_singleton] at hn; subst hn; exact hc⟩, fun v H3 e r => r⟩
    refine w_par 2 3 nd (VR.lst (vr_prop (x, c, told) (c_Tree_told T) hr (by decide) (v_var 0) (e1 _ _ hx) T.clT T.prT rfl (fun H2 e2 => hS.ex (e1.trans e2)) fun _ _ _ _ => new_back)).rel v_int.rel fun v u H2 H3 H4 e2 e3 e4 r1 r2 => ?_
    obtain ⟨p, rfl, hp0, hp1⟩ := r1
    subst r2
    refine w_while (fun k σ' H' => ∃ (p : Addr) (rest : List Nat) (m : Nat) (ls : List (List Nat)), k = rest.length ∧ σ' = [some (.ref x), some (.ref l), some (.ref p), some (.int (m : Nat))] ∧ Ex H H' ∧ H' l = some (.lst (txts ls)) ∧ H' p = some (.lst (ints_ rest)) ∧ 1 ≤ m ∧ rest.length ≤ 63 ∧ rest.length + ls.length ≤ 70 ∧ (∀ n ∈ rest, n < 1000000) ∧
      (∀ z ∈ ls, z.length ≤ 200000) ∧ ls ++ (chunks 64 m rest).map (lineT wTold) = lineT wTree [c] :: (chunks 6 1 told).map (lineT wTold)) told.length (fun H5 e5 => ⟨p, told, 1, [lineT wTree [c]], rfl, rfl, (((e1.trans e2).trans e3).trans e4).trans e5, e5 _ _ (e4 _ _ (e3 _ _ (e2 _ _ hl1))), e5 _ _ (e4 _ _ hp1), by omega, by omega, by simp; omega, hn, ?_, ?_⟩)
      (fun k σ' H' hW => ?_) PassesOwn.never
    · intro z hz
      rw [List.mem_singleton] at hz
      subst hz
      exact lineT_len (by decide) ⟨by simp, fun n hn => by rw [List.mem_singleton] at hn; subst hn; exact hc⟩
    · rw [List.singleton_append]
      congr 2
      exact chunks_all (f := 6) (g := 64) (by omega) (by decide) (by omega)
    obtain ⟨p, rest, m, ls, rfl, rfl, ee, hl2, hp2, hm, hbnd, hlen, hrn, hlz, heq⟩ := hW
    refine ⟨_, vt_neNil hr.units (VX.seq (v_var 2) (sq_of hp2)), fun hb => ?_, fun hb => ?_⟩
    · have hne : rest ≠ [] := by simpa using hb
      refine ⟨_, fun σ2 H2 h => h, ?_⟩
      refine w_append 1 (VX.rel (v := .str (SX.S (lineT wTold (rest.take m)))) (VR.val (vr_callR (R' := fun v _ _ => v = .str (SX.S (lineT wTold (rest.take m)))) (c_line_of T) hr (by decide) T.g_line_of (var_cons (v_lit (t := wTold) (by decide +kernel)).rel (var_one (VL.rel (xs := ints_ (rest.take m)) (VL.is (vl_to (k := m) (VX.seq (v_var 2) (sq_of hp2)) (v_var 3)) (ints_take m rest))))) fun vs H1 H2 e1 e2 r => ?_))) hl2 (by rw [txts_len]; omega) (fun v H1 H2 e1 e2 r => ?_)
      · obtain ⟨v, vs', H3, rfl, e3, e4, rfl, u, rfl, q, rfl, hq, h2⟩ := r
        exact ⟨(wTold, q, rest.take m), rfl, ⟨h2, (by show wTold.length ≤ 100; decide), by show (rest.take m).length ≤ 20000; rw [List.length_take]; omega, fun n hn => hrn n (List.mem_of_mem_take hn)⟩, fun v H3 e r => r⟩
      subst r
      have hpl : p ≠ l := ne_of hp2 hl2 ?_
      refine w_par 2 3 nd (VL.rel (xs := ints_ (rest.drop m)) (VL.is (vl_from (k := m) (VX.seq (v_var 2) (sq_of (xs := ints_ rest) (by rw [upd_ne hpl]; exact e2 _ _ (e1 _ _ hp2)))) (v_var 3)) (ints_drop m rest))) (VX.is (x := .int ((2 * m : Nat) : Int)) (v_mul v_int (v_var 3) (.inl ⟨by decide, by decide⟩)) (by rw [Int.natCast_mul] <;> rfl)).rel fun v u H3 H4 H5 e3 e4 e5 r1 r2 => ?_
      obtain ⟨q, rfl, hq0, hq1⟩ := r1
      subst r2
      refine w_nil fun H6 e6 => ?_
      refine ⟨(rest.drop m).length, ?_, q, rest.drop m, 2 * m, ls ++ [lineT wTold (rest.take m)], rfl, rfl, ?_, ?_, e6 _ _ (e5 _ _ hq1), by omega, ?_, ?_, fun n hn => hrn n (List.mem_of_mem_drop hn), ?_, ?_⟩
      · rw [List.length_drop]
        have : 0 < rest.length := List.length_pos_iff.mpr hne
        omega
      · exact (Ex.mut ((ee.trans e1).trans e2) hl0).trans (((e3.trans e4).trans e5).trans e6)
      · rw [← txts_snoc]
        exact e6 _ _ (e5 _ _ (e4 _ _ (e3 _ _ upd_same)))
      · rw [List.length_drop]
        omega
      · rw [List.length_drop, List.length_append, List.length_singleton]
        have : 0 < rest.length := List.length_pos_iff.mpr hne
        omega
      · intro z hz
        rcases List.mem_append.mp hz with hz | hz
        · exact hlz z hz
        · rw [List.mem_singleton] at hz
          subst hz
          exact lineT_len (by decide) ⟨by rw [List.length_take]; omega, fun n hn => hrn n (List.mem_of_mem_take hn)⟩
      · have hb1 : (rest.drop m).length + 2 * m ≤ 2 * m * 2 ^ 6 := by
          rw [List.length_drop, show 2 ^ 6 = 64 from rfl]
          omega
        have e7 : chunks 64 (2 * m) (rest.drop m) = chunks 63 (2 * m) (rest.drop m) := (chunks_all (f := 6) (g := 64) hb1 (by decide) (by omega)).trans (chunks_all (f := 6) (g := 63) hb1 (by decide) (by omega)).symm
        have e8 : chunks 64 m rest = rest.take m :: chunks 63 (2 * m) (rest.drop m) := chunks_cons hne
        rw [← heq, e8, e7, List.map_cons, List.append_assoc, List.singleton_append]
      · intro z
        cases ls with
        | nil =>
          rw [List.nil_append] at heq
          cases rest with
          | nil => exact hne rfl
          | cons a r => cases z
        | cons a r =>
          cases rest with
          | nil => exact hne rfl
          | cons b r' => cases z
    · have he : rest = [] := by simpa using hb
      subst he
      rw [chunks_nil, List.map_nil, List.append_nil] at heq
      refine w_ret (v_join (v_lit (t := [10]) (by decide +kernel)) (VX.seq (v_var 1) (sq_of hl2)) ?_) fun H1 e1 => hQ _ _ (ee.trans e1) ?_
      · have := sumL_le hlz
        unfold sumL at this
        simp only [List.length_nil, List.length_cons] at hlen ⊢
        omega
      · show V.str (SX.S (TL.joinL [10] ls)) = _
        rw [heq] <;> rfl
end
end K75
/-! the defs: are_figures, numbers_of, lines_of, check_line -/
namespace K75
open PySem PySem.Spec PyProof.Rows L2 Evl He
section
variable {P : Program} {w : World} {K : PySem.W.Frag} {mg : Str → Option Value} {base : Heap}
/-! ### are_figures -/
abbrev N_are_figures : List Str := ["word", "sign"]
theorem s_are_figures : FnScope N_are_figures ["word"] (defScope d_are_figures.st) := C8.fnScope_by (by decide +kernel)
abbrev SpFig : Sp := SpR (fun t : List Nat => [.str (SX.S t)]) (fun t _ => t.length ≤ 1000000) (fun t v _ _ => v = .bl (isFig t))
theorem dig_in (c : Nat) : decide (c ∈ ("0123456789" : Str).cps.toList) = isDig c := by
  have e : ("0123456789" : Str).cps.toList = [48, 49, 50, 51, 52, 53, 54, 55, 56, 57] := by decide +kernel
  rw [e, Bool.eq_iff_iff, decide_eq_true_eq]
  simp only [List.mem_cons, List.not_mem_nil, or_false, isDig, Bool.and_eq_true, decide_eq_true_eq]
  omega
theorem c_are_figures (T : Tx K mg) : CalX P w K mg base CX0 1 d_are_figures ["word"] SpFig := by
  refine CalX.of0 (f_are_figures T) b_are_figures s_are_figures (fun vs H Q E h => ?_) (fun cdv A outer s H vs Q E hr h => ?_)
  · obtain ⟨a, rfl, _⟩ := h
    rfl
  · obtain ⟨t, rfl, hz, hQ⟩ := h
    have nd := s_are_figures.nd
    refine WS.here (w_ret (v_and (v_lele v_int (v_lenS T.n_len (v_var 0) hz) (v_num T.i_MOST_FIGURES)) fun hk => v_one (v_all rfl T.n_all (VL.seq (VL.is (vl_map (zs := t) (f := fun c => V.str (SX.S [c])) (g' := fun c => V.bl (isDig c)) (j := 1) (own := [("sign", 1)]) rfl nd
      (VI.sg (f := fun c => V.str (SX.S [c])) (vi_str (v_var 0))) ?_ (blkOk_by (N := N_are_figures) (sc := defScope d_are_figures.st) (by decide +kernel)) (fun _ _ _ _ _ => pg_name (i := 1) nd rfl (Or.inl rfl)) (fun _ => rfl)
      (fun s H0 C cl fp z _ => v_cmp op_in_sign (v_var 1) (v_txt T.fig) (fun H1 e1 Q q => ⟨z, _, rfl, rfl, by
        rw [dig_in]
        exact q H1 (Ex.refl _)⟩) (by with_unfolding_all rfl)))
      (ys := (t.map isDig).map V.bl) (by rw [List.map_map] <;> rfl))))) fun H1 e1 => hQ _ _ e1 ?_)
    · simp at hk
      omega
    · show V.bl _ = V.bl _
      unfold isFig
      congr 1
      have e2 : (t.map isDig).all id = t.all isDig := by rw [List.all_map] <;> rfl
      rw [e2, Bool.eq_iff_iff]
      simp
      omega
/-! ### numbers_of -/
abbrev N_numbers_of : List Str := ["line", "word", "words", "one"]
theorem s_numbers_of : FnScope N_numbers_of ["line", "word"] (defScope d_numbers_of.st) := C8.fnScope_by (by decide +kernel)
/-- None, or a new list of the numbers -/
def isNums (o : Option (List Nat)) : V → Hp → Hp → Prop := fun v H1 H2 => match o with
  | none => v = .non
  | some ns => isNewL (ints_ ns) v H1 H2
abbrev SpNumbers : Sp := SpR (fun a : List Nat × List Nat => [.str (SX.S a.1), .str (SX.S a.2)]) (fun a _ => a.1.length ≤ 30000) (fun a => isNums (numsOf a.1 a.2))
theorem txts_drop (k : Nat) (ls : List (List Nat)) : (txts ls).drop k = txts (ls.drop k) := by
  unfold txts
  rw [List.map_drop]
theorem words_cons (l : List Nat) : ∃ u us, words l = u :: us := List.exists_cons_of_ne_nil (spl_ne 32 l [])
theorem c_numbers_of (T : Tx K mg) : CalX P w K mg base CX0 2 d_numbers_of ["line", "word"] SpNumbers := by
  refine CalX.of0 (f_numbers_of T) b_numbers_of s_numbers_of (fun vs H Q E h => ?_) (fun cdv A outer s H vs Q E hr h => ?_)
  · obtain ⟨a, rfl, _⟩ := h
    rfl
  · obtain ⟨⟨l, word⟩, rfl, hz, hQ⟩ := h
    have hz : l.length ≤ 30000 := hz
    have nd := s_numbers_of.nd
    obtain ⟨u, us, hw⟩ := words_cons l
    have hsum := spl_sum 32 l
    have hw' : TL.spl [32] 0 [] l = u :: us := hw
    rw [hw'] at hsum
    simp only [sumL, List.map_cons, List.sum_cons, List.length_cons] at hsum
    have hlu : ∀ z ∈ us, z.length ≤ 30000 := fun z hz' => by
      have := sumL_mem hz'
      unfold sumL at this
      omega
    refine WS.here (w_setL 2 nd (VL.is (vl_split (v_var 0) (v_lit (t := [32]) (by decide +kernel)) (by decide) (by omega)) (by rw [hw'])) fun p H1 _ e1 h1 => ?_)
    have hws : SqL K H1 p (txts (u :: us)) := sq_of h1
    refine w_when (VW.t (vw_or (vt_neS (p := u) (q := word) (v_ixN (i := 0) (VX.seq (v_var 2) hws) v_int rfl) (v_var 1)) fun _ => vw_or1 (vt_not (vt_val (v_all rfl T.n_all (VL.seq (VL.is (vl_map (zs := us) (f := fun z => V.str (SX.S z)) (g' := fun z => V.bl (isFig z)) (j := 3) (own := [("one", 3)]) rfl nd
      ((vi_list (VL.seq (VL.is (vl_from (k := 1) (VX.seq (v_var 2) hws) v_int) (txts_drop 1 (u :: us))))).cast (txts_len _)) (by omega) (blkOk_by (N := N_numbers_of) (sc := defScope d_numbers_of.st) (by decide +kernel)) (fun _ _ _ _ _ => pg_name (i := 3) nd rfl (Or.inl rfl)) (fun _ => rfl)
      (fun s H0 C cl fp z hz' => v_call z (c_are_figures T) hr (by decide) T.g_are_figures (va_one (v_var 3)) fun _ _ => Nat.le_trans (hlu z hz') (by decide)))
      (ys := (us.map isFig).map V.bl) (by rw [List.map_map] <;> rfl)))))))) (fun hb => w_ret v_non fun H2 e2 => hQ _ _ (e1.trans e2) ?_) fun hb => ?_
    · show isNums (numsOf l word) _ _ _
      have e : numsOf l word = none := by
        unfold numsOf
        rw [hw]
        dsimp only
        rw [if_neg]
        rintro ⟨h2, h3⟩
        have h4 : (us.map isFig).all id = true := by rw [List.all_map]; exact h3
        rw [h4, h2] at hb
        simp at hb
      rw [e]
      rfl
    · have hc : u = word ∧ us.all isFig = true := by
        simp at hb
        refine ⟨hb.1, ?_⟩
        rw [List.all_eq_true]
        exact hb.2
      have e : numsOf l word = some (us.map val) := by
        unfold numsOf
        rw [hw]
        dsimp only
        rw [if_pos hc]
      refine w_retL (VL.is (vl_map (zs := us) (f := fun z => V.str (SX.S z)) (g' := fun z => V.int ((val z : Nat) : Int)) (j := 3) (own := [("one", 3)]) rfl nd
        ((vi_list (VL.seq (VL.is (vl_from (k := 1) (VX.seq (v_var 2) hws) v_int) (txts_drop 1 (u :: us))))).cast (txts_len _)) (by omega) (blkOk_by (N := N_numbers_of) (sc := defScope d_numbers_of.st) (by decide +kernel)) (fun _ _ _ _ _ => pg_name (i := 3) nd rfl (Or.inl rfl)) (fun _ => rfl)
        (fun s H0 C cl fp z hz' => ?_)) (ys := ints_ (us.map val)) (by rw [ints_, List.map_map] <;> rfl)) fun q H2 hq e2 h2 => hQ _ _ (e1.trans e2) ?_
      · have hf := List.all_eq_true.mp hc.2 z hz'
        unfold isFig at hf
        simp only [Bool.and_eq_true, decide_eq_true_eq] at hf
        exact v_intS T.n_int (v_var 3) hf.2 (by intro e0; rw [e0] at hf; simp at hf) (by omega)
      · show isNums (numsOf l word) _ _ _
        rw [e]
        exact ⟨q, rfl, fresh_back e1 hq, h2⟩
/-! ### lines_of -/
inductive Txt0 where
  | t (l : List Nat) | o (v : V)
def Txt0.v : Txt0 → V
  | .t l => .str (SX.S l)
  | .o v => v
def NonStr (K : PySem.W.Frag) (v : V) (H : Hp) : Prop := ∃ t, PySem.W.kitOne K t (.type "str") = some false ∧ ∀ H1, Ex H H1 → TyX K H1 v t
def Txt0.ok (K : PySem.W.Frag) (H : Hp) : Txt0 → Prop
  | .t l => l.length ≤ 5000
  | .o v => NonStr K v H
theorem Txt0.ok.ex {a : Txt0} {H H' : Hp} (e : Ex H H') (h : a.ok K H) : a.ok K H' := by
  cases a with
  | t l => exact h
  | o v =>
    obtain ⟨t, h1, h2⟩ := h
    exact ⟨t, h1, fun H1 e1 => h2 H1 (e.trans e1)⟩
/-- BadText of lv -/
def IsBad (K : PySem.W.Frag) (lv : V) (c : Value) (d : Option Addr) (H1 H2 : Hp) : Prop := c = .ref (ga K "BadText") ∧ ∃ dd, d = some dd ∧ H1 dd = none ∧ H2 dd = some (.xd [("line", lv)])
theorem IsBad.back {lv : V} {c : Value} {d : Option Addr} {H1 H2 H3 : Hp} (e : Ex H1 H2) (h : IsBad K lv c d H2 H3) : IsBad K lv c d H1 H3 := by
  obtain ⟨h1, dd, h2, h3, h4⟩ := h
  exact ⟨h1, dd, h2, fresh_back e h3, h4⟩
theorem s_lines_of : FnScope ["text"] ["text"] (defScope d_lines_of.st) := C8.fnScope_by (by decide +kernel)
abbrev SpLines (K : PySem.W.Frag) : Sp := SpX (fun a : Txt0 => [a.v]) (fun a H => a.ok K H) (fun a v H1 H2 => ∃ l, a = .t l ∧ isNewL (txts (linesOf l)) v H1 H2) (fun a c d H1 H2 => (∃ v, a = .o v) ∧ IsBad K (.int 0) c d H1 H2)
theorem c_lines_of (T : Tx K mg) : CalX P w K mg base (L2.CX P w) 3 d_lines_of ["text"] (SpLines K) := by
  refine CalX.ofX (f_lines_of T) b_lines_of s_lines_of (fun vs H Q E h => ?_) (fun cdv A outer s H vs Q E hr h => ?_)
  · obtain ⟨a, rfl, _⟩ := h
    rfl
  · obtain ⟨a, rfl, ha, hQ, hE⟩ := h
    cases a with
    | t l =>
      have ha : l.length ≤ 5000 := ha
      refine WS.here (w_if_never (b := !true) rfl (vt_not (vt_val (v_isi (k := true) T.n_isinstance (v_var 0) (v_ty T.n_str (by decide +kernel)) (.ty "str") (fun _ _ => .base (.str _)) (kit_ty (by decide +kernel))))) ?_)
      exact w_retL (vl_split (v_var 0) (v_lit (t := [10]) (by decide +kernel)) (by decide) (by omega)) fun p H2 hp e2 h2 => hQ _ _ e2 ⟨l, rfl, p, rfl, hp, h2⟩
    | o v =>
      obtain ⟨t, h1, h2⟩ := (show NonStr K v H from ha)
      refine WS.here (w_when (vt_not (vt_val (v_isi (k := false) T.n_isinstance (v_var 0) (v_ty T.n_str (by decide +kernel)) (.ty "str") h2 h1))) (fun _ => w_raise (d := d_BadText_init) (L2.takes_of rfl rfl rfl rfl) (T.oex "BadText" (by decide +kernel)) (T.ini "BadText" (by decide +kernel)) (c_BadText_init T) hr (by decide) T.g_BadText v_int fun d H2 hd e2 h2 => hE _ _ H2 e2 ⟨⟨v, rfl⟩, rfl, d, rfl, hd, h2⟩) fun hb => by cases hb)
/-! ### check_line -/
theorem s_check_line : FnScope ["number", "numbers", "is_so"] ["number", "numbers", "is_so"] (defScope d_check_line.st) := C8.fnScope_by (by decide +kernel)
abbrev SpCheckLine (K : PySem.W.Frag) : Sp := SpX (fun a : Nat × V × Bool => [.int (a.1 : Nat), a.2.1, .bl a.2.2]) (fun _ _ => True) (fun a v _ _ => v = .non ∧ a.2.1 ≠ .non ∧ a.2.2 = true) (fun a c d H1 H2 => (a.2.1 = .non ∨ a.2.2 = false) ∧ IsBad K (.int (a.1 : Nat)) c d H1 H2)
theorem c_check_line (T : Tx K mg) : CalX P w K mg base (L2.CX P w) 3 d_check_line ["number", "numbers", "is_so"] (SpCheckLine K) := by
  refine CalX.ofX (f_check_line T) b_check_line s_check_line (fun vs H Q E h => ?_) (fun cdv A outer s H vs Q E hr h => ?_)
  · obtain ⟨a, rfl, _⟩ := h
    rfl
  · obtain ⟨⟨i, v, b⟩, rfl, _, hQ, hE⟩ := h
    refine WS.here (w_when (VW.t (vw_or (vt_isN (v_var 1)) fun _ => vw_or1 (vt_not (vt_val (v_var 2))))) (fun hb => w_raise (d := d_BadText_init) (L2.takes_of rfl rfl rfl rfl) (T.oex "BadText" (by decide +kernel)) (T.ini "BadText" (by decide +kernel)) (c_BadText_init T) hr (by decide) T.g_BadText (v_var 0)
      fun d H2 hd e2 h2 => hE _ _ H2 e2 ⟨?_, rfl, d, rfl, hd, h2⟩) fun hb => w_nil fun H1 e1 => hQ _ _ e1 ⟨rfl, ?_⟩)
    · simpa using hb
    · simpa using hb
end
end K75
/-! own words, further: try .. except RoomError as fault: raise BadText(None) from fault -/
namespace K75
open PySem PySem.Spec PyProof.Rows L2 Evl He HotX L2H
/-- the errors that the program raises inside such a try -/
def RoomErr (K : PySem.W.Frag) (c : Value) : Prop := c = .ref (ga K "BadSteps") ∨ c = .ref (ga K "BadTree") ∨ c = .ref (ga K "BadArgument")
theorem RoomErr.exm {K : PySem.W.Frag} {mg : Str → Option Value} (T : Tx K mg) {c : Value} (h : RoomErr K c) : PySem.W.exmOne K c (.ref (ga K "RoomError")) = some true ∧ PySem.W.subIn K c (.type "BaseException") = some true := by
  rcases h with h | h | h <;> subst h
  · exact ⟨T.exm "BadSteps" "RoomError" true (by decide +kernel), (T.oex "BadSteps" (by decide +kernel)).exC⟩
  · exact ⟨T.exm "BadTree" "RoomError" true (by decide +kernel), (T.oex "BadTree" (by decide +kernel)).exC⟩
  · exact ⟨T.exm "BadArgument" "RoomError" true (by decide +kernel), (T.oex "BadArgument" (by decide +kernel)).exC⟩
section
variable {X : Cx} {E : XK} {body rest : List Stmt} {σ : L2.St} {H : Hp} {D : Ends} {n : Str} {np np2 p1 p3 pos pos' pos2 cpos : Pos} {i k : Nat} {j : Nat}
/-- try: body except RoomError as n: raise BadText(None) from n -/
theorem w_try (T : Tx X.K X.mg) (i : Nat) (tk : L2.Takes X fun cls d _ H => E cls d H) (nd : X.N.Nodup) (hr : Room k X.A) (hk : 2 ≤ k)
    (hb : ∀ (W : WX) (pn : List (Addr × Obj)) (xe : Value → Shared → Prop), L2N.Takes (X.tr pn xe) W → PassesOwn (model X.prog X.w) X.A X.env xe →
      (∀ c d σ' H', RoomErr X.K c → i < σ'.length → (∀ dd H2, H' dd = none → Ex H' H2 → H2 dd = some (.xd [("line", .non)]) → E (.ref (ga X.K "BadText")) (some dd) H2) → W c d σ' H') → WS (X.tr pn xe) body { D with nx := wSs X rest D } σ H)
    (hpa : ∀ hd : Option Value, PassesOwnAt (model X.prog X.w) (X.A.mark hd) X.A X.env X.xe) (hs : X.stack = X.env :: X.outer := by rfl) (hf : X.env.frame = some X.env.locals := by rfl) (hi : X.N[i]? = some n := by rfl) (hln : X.env.kindOf n = some .local := by rfl) (hg : Gl X "RoomError" := by rfl) (hg2 : Gl X "BadText" := by rfl)
    (he : starEach [.Constant .none j p3] X.env = (false, eval (.Constant .none j p3) X.env) :: starEach [] X.env := by rfl) (hpl : (backTo cpos (starEach [] X.env)).any (·.1) = false := by rfl) (hkf : X.env.scope.kind = .function := by rfl) (hnd : (n == ("__debug__" : Str)) = false := by decide) :
    WS X (.Try body [.ExceptHandler (some (.Name "RoomError" np)) (some n) [.Raise (some (.Call (.Name "BadText" p1) [.Constant .none j p3] [] cpos)) (some (.Name n np2)) pos2] pos'] [] [] pos :: rest) D σ H := by
  obtain ⟨fd, F, bb, G⟩ := ch_BadText (P := X.prog) (w := X.w) (base := X.base) T
  refine w_cons (ps_try_asX (i := i) (tb := fun W D σ H => ∀ pn xe, L2N.Takes (X.tr pn xe) W → PassesOwn (model X.prog X.w) X.A X.env xe → wSs (X.tr pn xe) body D σ H)
    (ts := fun a cls d D σ H => PySem.W.subIn X.K cls (.type "BaseException") = some true ∧ σ[i]? = some (some (.ref a)) ∧ tMkO (ga X.K "BadText") (SpExc (ga X.K "BadText") "line") [] (tCons (tC .non) tNil) σ H fun cls' d' H' => E cls' d' H')
    (c := .ref (ga X.K "RoomError")) hs hf nd hi hln ⟨hg, by decide, .inl T.g_RoomError⟩ hpa tk (fun W pn xe t po => ⟨fun pins s σ' H' D' I h => h pn xe t po pins s I⟩) (fun a oe cls d pn xs hz hfld t hot => ?_)) fun H1 e1 => ?_
  · exact pss_one (ps_raiseHF (X := suiteY X a ((a, oe) :: pn) xs) (p := (a, oe)) hot List.mem_cons_self hz.1 t
      (pmk5_oexH (T.oex "BadText" (by decide +kernel)) (T.ini "BadText" (by decide +kernel)).1 (T.ini "BadText" (by decide +kernel)).2 G (roomH_mark (hr.mono hk) _) ⟨(a, oe), hot, List.mem_cons_self⟩ bb pass0 hg2 T.g_BadText (pa_cons pe_non pa_nil he) (by decide) he hpl) hi hln hkf hnd)
  · intro pn xe t po
    refine (hb _ pn xe t po fun c d σ' H' hc hi' hE => ?_) H1 e1
    obtain ⟨x1, x2⟩ := hc.exm T
    refine ⟨true, x1, fun _ a ha => ⟨x2, by rw [List.getElem?_set_self hi'], mk_exc (fun H2 e2 Q q => q H2 (Ex.refl _)) hE⟩, fun z => nomatch z⟩
end
/-! ### an instance made inside -/
section
variable {X : Cx} {W : WX} {e1 e2 : Expr} {rest : List Stmt} {σ : L2.St} {H : Hp} {D : Ends} {n : Str} {np p pos spos : Pos} {k : Nat}
theorem ExBut.made {x dx : Addr} {C : Addr} {H1 H' : Hp} (hx : H1 x = none) (hd : H1 dx = none) (h : ExBut x (upd (upd H1 dx (.own x)) x (.ins C dx [])) H') : Ex H1 H' := fun b o hb => by
  have h1 := ne_of_none hb hx
  have h2 := ne_of_none hb hd
  refine h b o h1 ?_
  rw [upd_ne h1, upd_ne h2]
  exact hb
theorem Ex.made {x dx : Addr} {C : Addr} {H1 H' : Hp} (hx : H1 x = none) (hd : H1 dx = none) (h : Ex (upd (upd H1 dx (.own x)) x (.ins C dx [])) H') : Ex H1 H' := ExBut.made hx hd (ExBut.of h)
/-- n = Steps(e1, e2) -/
theorem w_mkSteps (T : Tx X.K X.mg) (i : Nat) {m : Nat} {ns : List Nat} (tk : L2N.Takes X W) (nd : X.N.Nodup) (hr : Room k X.A) (hk : 4 ≤ k) (h1 : VX X e1 σ H (.int (m : Nat))) (h2 : VM X e2 σ H (ints_ ns)) (hz : ns.length ≤ 20000)
    (hok : stepsOk (m :: ns) = true → ∀ x H2, Ex H H2 → IsSteps X.K m ns x H2 → WS X rest D (σ.set i (some (.ref x))) H2) (hno : stepsOk (m :: ns) = false → ∀ d H2, Ex H H2 → W (.ref (ga X.K "BadSteps")) (some d) σ H2) (hi : X.N[i]? = some n := by rfl)
    (hx : Loc X.env.scope n := by first | exact Or.inl rfl | exact Or.inr rfl) (hg : Gl X "Steps" := by rfl) (hs : starEach [e1, e2] X.env = (false, eval e1 X.env) :: starEach [e2] X.env := by rfl) (hs2 : starEach [e2] X.env = (false, eval e2 X.env) :: starEach [] X.env := by rfl) (hpl : (backTo pos (starEach [e2] X.env)).any (·.1) = false := by rfl)
    (hsw : swapsWith (.Call (.Name "Steps" p) [e1, e2] [] pos) (some (.Name n np)) spos.line X.env = pure false := by rfl) (hf : X.fn n = true ∨ X.env.scope.names.lookup n = some .local := by first | exact .inl rfl | exact .inr rfl) : WS X (.Assign [.Name n np] (.Call (.Name "Steps" p) [e1, e2] [] pos) spos :: rest) D σ H := by
  obtain ⟨fd, F, b, G⟩ := (c_Steps_init (P := X.prog) (w := X.w) (base := X.base) T).ex
  refine w_cons (ps_set nd hi hx (pe_makeS (E := fun σ => L2.WE W σ) T.mkS G (hr.mono hk) hg T.g_Steps b (fun σ => L2N.passAt tk σ) (pa_cons pe_w (pa_cons pe_w pa_nil hs2) hs) (by decide) hs hpl) hsw hf) fun H1 a => h1 H1 a _ fun H2 a2 => h2 H2 (a.trans a2) _ fun u H3 a3 r => ?_
  obtain ⟨q, rfl, hq⟩ := r
  intro x dx hx' hd hne
  have hqx := ne_of_none hq hx'
  have hqd := ne_of_none hq hd
  refine ⟨x, dx, q, m, ns, rfl, upd_same, by rw [upd_ne hqx, upd_ne hqd]; exact hq, hz, fun ho H4 eb is => ⟨rfl, ?_⟩, fun ho d H4 eb => ?_⟩
  · exact (hok ho x H4 ((a.trans a2).trans (a3.trans (ExBut.made hx' hd eb))) is).here
  · exact hno ho d H4 ((a.trans a2).trans (a3.trans (Ex.made hx' hd eb)))
/-- n = Tree(e1, e2) -/
theorem w_mkTree (T : Tx X.K X.mg) (i : Nat) {c : Nat} {ns : List Nat} (tk : L2N.Takes X W) (nd : X.N.Nodup) (hr : Room k X.A) (hk : 4 ≤ k) (h1 : VX X e1 σ H (.int (c : Nat))) (h2 : VM X e2 σ H (ints_ ns)) (hz : ns.length ≤ 20000)
    (hok : treeOk c ns = true → ∀ x H2, Ex H H2 → IsTree X.K c ns x H2 → WS X rest D (σ.set i (some (.ref x))) H2) (hno : treeOk c ns = false → ∀ d H2, Ex H H2 → W (.ref (ga X.K "BadTree")) (some d) σ H2) (hi : X.N[i]? = some n := by rfl)
    (hx : Loc X.env.scope n := by first | exact Or.inl rfl | exact Or.inr rfl) (hg : Gl X "Tree" := by rfl) (hs : starEach [e1, e2] X.env = (false, eval e1 X.env) :: starEach [e2] X.env := by rfl) (hs2 : starEach [e2] X.env = (false, eval e2 X.env) :: starEach [] X.env := by rfl) (hpl : (backTo pos (starEach [e2] X.env)).any (·.1) = false := by rfl)
    (hsw : swapsWith (.Call (.Name "Tree" p) [e1, e2] [] pos) (some (.Name n np)) spos.line X.env = pure false := by rfl) (hf : X.fn n = true ∨ X.env.scope.names.lookup n = some .local := by first | exact .inl rfl | exact .inr rfl) : WS X (.Assign [.Name n np] (.Call (.Name "Tree" p) [e1, e2] [] pos) spos :: rest) D σ H := by
  obtain ⟨fd, F, b, G⟩ := (c_Tree_init (P := X.prog) (w := X.w) (base := X.base) T).ex
  refine w_cons (ps_set nd hi hx (pe_makeS (E := fun σ => L2.WE W σ) T.mkT G (hr.mono hk) hg T.g_Tree b (fun σ => L2N.passAt tk σ) (pa_cons pe_w (pa_cons pe_w pa_nil hs2) hs) (by decide) hs hpl) hsw hf) fun H1 a => h1 H1 a _ fun H2 a2 => h2 H2 (a.trans a2) _ fun u H3 a3 r => ?_
  obtain ⟨q, rfl, hq⟩ := r
  intro x dx hx' hd hne
  have hqx := ne_of_none hq hx'
  have hqd := ne_of_none hq hd
  refine ⟨x, dx, q, c, ns, rfl, upd_same, by rw [upd_ne hqx, upd_ne hqd]; exact hq, hz, fun ho H4 eb is => ⟨rfl, ?_⟩, fun ho d H4 eb => ?_⟩
  · exact (hok ho x H4 ((a.trans a2).trans (a3.trans (ExBut.made hx' hd eb))) is).here
  · exact hno ho d H4 ((a.trans a2).trans (a3.trans (Ex.made hx' hd eb)))
end
end K75
/-! the defs: read_steps -/
namespace K75
open PySem PySem.Spec PyProof.Rows L2 Evl He
def lineV : Option Nat → V
  | none => .non
  | some i => .int (i : Nat)
def resOf (rd : List (List Nat) → Rs) : Txt0 → Rs
  | .t l => rd (linesOf l)
  | .o _ => .line (some 0)
theorem lines_cons (l : List Nat) : ∃ u us, linesOf l = u :: us := List.exists_cons_of_ne_nil (spl_ne 10 l [])
theorem lines_join (l : List Nat) : TL.joinL [10] (linesOf l) = l := by
  have := join_spl 10 l []
  rw [List.nil_append] at this
  exact this
theorem lines_free (l : List Nat) : ∀ p ∈ linesOf l, 10 ∉ p := spl_free 10 l [] (by simp)
theorem lines_le (l : List Nat) : ∀ p ∈ linesOf l, p.length ≤ l.length := fun p hp => by
  have h1 := spl_sum 10 l
  have h2 := sumL_mem hp
  have h3 : 0 < (linesOf l).length := List.length_pos_iff.mpr (spl_ne 10 l [])
  unfold linesOf at h2 h3
  omega
theorem lines_len (l : List Nat) : (linesOf l).length ≤ l.length + 1 := by
  have h1 := spl_sum 10 l
  unfold linesOf
  omega
section
variable {P : Program} {w : World} {K : PySem.W.Frag} {mg : Str → Option Value} {base : Heap}
/-- what a reading lets out -/
def BadOf (K : PySem.W.Frag) (r : Rs) (c : Value) (d : Option Addr) (H1 H2 : Hp) : Prop := ∃ o, r = .line o ∧ IsBad K (lineV o) c d H1 H2
theorem BadOf.back {r : Rs} {c : Value} {d : Option Addr} {H1 H2 H3 : Hp} (e : Ex H1 H2) (h : BadOf K r c d H2 H3) : BadOf K r c d H1 H3 := by
  obtain ⟨o, h1, h2⟩ := h
  exact ⟨o, h1, h2.back e⟩
/-! ### read_steps -/
abbrev N_read_steps : List Str := ["text", "lines", "numbers", "found", "fault"]
theorem s_read_steps : FnScope N_read_steps ["text"] (defScope d_read_steps.st) := C8.fnScope_by (by decide +kernel)
abbrev SpReadSteps (K : PySem.W.Frag) : Sp := SpX (fun a : Txt0 => [a.v]) (fun a H => a.ok K H) (fun a v _ H2 => ∃ m ns x, resOf readSteps a = .steps (m :: ns) ∧ v = .ref x ∧ IsSteps K m ns x H2) (fun a => BadOf K (resOf readSteps a))
theorem steps_fit {m : Nat} {ns : List Nat} (h : stepsOk (m :: ns) = true) : Fit (m :: ns) := by
  unfold stepsOk boundsB at h
  simp only [Bool.and_eq_true, decide_eq_true_eq] at h
  obtain ⟨⟨h1, h2⟩, ⟨h3, h4⟩, h5, _⟩ := h
  refine ⟨by rw [List.length_cons]; omega, fun n hn => ?_⟩
  rcases List.mem_cons.mp hn with e | e
  · subst e
    omega
  · have := List.all_eq_true.mp h5 n e
    simp only [Bool.and_eq_true, decide_eq_true_eq] at this
    omega
theorem c_read_steps (T : Tx K mg) : CalX P w K mg base (L2.CX P w) 5 d_read_steps ["text"] (SpReadSteps K) := by
  refine CalX.ofX (f_read_steps T) b_read_steps s_read_steps (fun vs H Q E h => ?_) (fun cdv A outer s H vs Q E hr h => ?_)
  · obtain ⟨a, rfl, _⟩ := h
    rfl
  · obtain ⟨a, rfl, ha, hQ, hE⟩ := h
    have nd := s_read_steps.nd
    have tk : L2.Takes (CxX (L2.CX P w) P w K mg base d_read_steps N_read_steps cdv A outer s H E) (fun cls d _ H => E cls d H) := L2.takes_of rfl rfl rfl rfl
    refine WS.here (w_setX 1 nd (vx_callX a (c_lines_of T) hr (by decide) T.g_lines_of (fun σ => L2.passAt tk σ) (va_one (v_var 0)) (fun H1 e1 => ha.ex e1) (fun v H1 H2 H3 e r => ?_) (fun c d H1 H2 H3 e r => ⟨r.1, r.2.back e⟩)) (fun v H1 H2 e1 e2 r => ?_) fun c d H1 H2 e1 e2 r => ?_)
    · obtain ⟨l, e1, r⟩ := r
      exact ⟨l, e1, new_back e r⟩
    · obtain ⟨l, rfl, p, rfl, hp0, hp⟩ := r
      have ha : l.length ≤ 5000 := ha
      obtain ⟨u, us, hl⟩ := lines_cons l
      rw [hl] at hp
      have hus : u.length ≤ 5000 := Nat.le_trans (lines_le l u (by rw [hl]; exact List.mem_cons_self ..)) ha
      have hq : SqL K H2 p (txts (u :: us)) := sq_of hp
      have eH := e1.trans e2
      refine w_setR 2 nd (vr_call (u, wSteps) (c_numbers_of T) hr (by decide) T.g_numbers_of (va_cons (v_ixN (i := 0) (VX.seq (v_var 1) hq) v_int rfl) (va_one (v_lit (t := wSteps) (by decide +kernel)))) (fun _ _ => Nat.le_trans hus (by decide)) fun v H1 H2 H3 e r => ?_) fun v H3 H4 e3 e4 r => ?_
      · show isNums (numsOf u wSteps) _ _ _
        have r : isNums (numsOf u wSteps) _ _ _ := r
        unfold isNums at r ⊢
        split at r
        · exact r
        · exact new_back e r
      have r : isNums (numsOf u wSteps) v H3 H4 := r
      have eH4 := eH.trans (e3.trans e4)
      cases hn : numsOf u wSteps with
      | none =>
        rw [hn] at r
        have r : v = .non := r
        subst r
        refine w_doX (vx_callX ((0 : Nat), V.non, false) (c_check_line T) hr (by decide) T.g_check_line (fun σ => L2.passAt tk σ) (va_cons v_int (va_cons (v_var 2) (va_one (VX.is (x := .bl false) (v_and (l := false) (v_notN (v_var 2)) fun hb => by simp at hb) (by simp))))) (fun _ _ => trivial) (fun v H1 H2 H3 e r => r) (fun c d H1 H2 H3 e r => ⟨r.1, r.2.back e⟩)) (fun v H5 H6 e5 e6 r => absurd rfl r.2.1) fun c d H5 H6 e5 e6 r => hE _ _ _ (eH4.trans (e5.trans e6)) ⟨some 0, ?_, r.2.back (eH4.trans e5)⟩
        show readSteps (linesOf l) = _
        rw [hl]
        unfold readSteps
        rw [List.headD_cons, hn]
      | some ns =>
        rw [hn] at r
        obtain ⟨q, rfl, hq0, hq1⟩ := (show isNewL (ints_ ns) v H3 H4 from r)
        have hns : SqL K H4 q (ints_ ns) := sq_of hq1
        refine w_doX (vx_callX ((0 : Nat), V.ref q, decide (1 < ns.length)) (c_check_line T) hr (by decide) T.g_check_line (fun σ => L2.passAt tk σ) (va_cons v_int (va_cons (v_var 2) (va_one (VX.is (x := .bl (decide (1 < ns.length))) (v_and (v_notN (v_var 2)) fun hb => v_one (v_gt (v_len T.n_len (VX.seq (v_var 2) hns)) v_int)) ?_)))) (fun _ _ => trivial) (fun v H1 H2 H3 e r => r) (fun c d H1 H2 H3 e r => ⟨r.1, r.2.back e⟩))
          (fun v H5 H6 e5 e6 r => ?_) fun c d H5 H6 e5 e6 r => hE _ _ _ (eH4.trans (e5.trans e6)) ⟨some 0, ?_, r.2.back (eH4.trans e5)⟩
        · rw [ints_len]
          congr 1
          simp
          omega
        · obtain ⟨_, _, hlen⟩ := r
          have hlen : decide (1 < ns.length) = true := hlen
          have hlen := of_decide_eq_true hlen
          have e56 := e5.trans e6
          have hq6 : SqL K H6 p (txts (u :: us)) := ex_l (e3.trans (e4.trans e56)) hq
          have hn6 : SqL K H6 q (ints_ ns) := ex_l e56 hns
          have eH6 := eH4.trans e56
          have hread : readSteps (linesOf l) = if 1 < (u :: us).length then .line (some 1) else if stepsOk ns = true ∧ lineT wSteps ns = l then .steps ns else .line none := by
            unfold readSteps
            rw [lines_join, hl, List.headD_cons, hn]
            dsimp only
            rw [if_neg (by omega)]
          refine w_when (vt_gt (v_len T.n_len (VX.seq (v_var 1) hq6)) v_int) (fun hb => w_raise (d := d_BadText_init) tk (T.oex "BadText" (by decide +kernel)) (T.ini "BadText" (by decide +kernel)) (c_BadText_init T) hr (by decide) T.g_BadText v_int fun d H7 hd e7 h7 => hE _ _ H7 (eH6.trans e7) ⟨some 1, ?_, rfl, d, rfl, fresh_back eH6 hd, h7⟩) fun hb => ?_
          · show readSteps (linesOf l) = _
            rw [hread, if_pos]
            rw [txts_len] at hb
            have := of_decide_eq_true hb
            omega
          · have hus1 : ¬ 1 < (u :: us).length := by
              intro z
              rw [txts_len, decide_eq_true (by omega)] at hb
              cases hb
            rw [if_neg hus1] at hread
            obtain ⟨m, bs, rfl⟩ : ∃ m bs, ns = m :: bs := by
              cases ns with
              | nil => simp at hlen
              | cons m bs => exact ⟨m, bs, rfl⟩
            have hlt := numsOf_lt hn
            have hbl : bs.length ≤ 20000 := by
              have := numsOf_len hn
              rw [List.length_cons] at this
              omega
            refine w_try T 4 tk nd hr (by decide) (fun W pn xe tkN po hW => ?_) (fun _ => PassesOwnAt.leaving)
            refine w_mkSteps (m := m) (ns := bs) T 3 tkN nd hr (by decide) (v_ixN (i := 0) (VX.seq (v_var 2) hn6) v_int rfl) (VL.m (VL.is (vl_from (k := 1) (VX.seq (v_var 2) hn6) v_int) (ints_drop 1 (m :: bs)))) hbl (fun hok x H7 e7 hS => w_nil fun H8 e8 => WS.here ?_) fun hno d H7 e7 => hW _ _ _ _ (.inl rfl) (by show 4 < 5; decide) fun dd H8 hd e8 h8 => hE _ _ H8 (eH6.trans (e7.trans e8)) ⟨none, ?_, rfl, dd, rfl, fresh_back (eH6.trans e7) hd, h8⟩
            · have eH8 := eH6.trans (e7.trans e8)
              have hS8 : IsSteps K m bs x H8 := hS.ex e8
              have fit := steps_fit hok
              refine w_when (vt_neS (q := l) (v_call (x, m, bs) (c_steps_text T) hr (by decide) T.g_steps_text (va_one (v_var 3)) fun H9 e9 => ⟨hS8.ex e9, fit⟩) (v_var 0)) (fun hb => w_raise (d := d_BadText_init) tk (T.oex "BadText" (by decide +kernel)) (T.ini "BadText" (by decide +kernel)) (c_BadText_init T) hr (by decide) T.g_BadText v_non fun d H9 hd e9 h9 => hE _ _ H9 (eH8.trans e9) ⟨none, ?_, rfl, d, rfl, fresh_back eH8 hd, h9⟩) fun hb => ?_
              · show readSteps (linesOf l) = _
                have hb : (!decide (lineT wSteps (m :: bs) = l)) = true := hb
                rw [hread, if_neg]
                rintro ⟨_, h2⟩
                rw [decide_eq_true h2] at hb
                cases hb
              · have hb : (!decide (lineT wSteps (m :: bs) = l)) = false := hb
                have hb : lineT wSteps (m :: bs) = l := by simpa using hb
                refine w_ret (v_var 3) fun H9 e9 => hQ _ _ (eH8.trans e9) ⟨m, bs, x, ?_, rfl, hS8.ex e9⟩
                show readSteps (linesOf l) = _
                rw [hread, if_pos ⟨hok, hb⟩]
            · show readSteps (linesOf l) = _
              rw [hread, if_neg]
              rintro ⟨h1, _⟩
              rw [hno] at h1
              cases h1
        · show readSteps (linesOf l) = _
          rw [hl]
          unfold readSteps
          rw [List.headD_cons, hn]
          dsimp only
          rw [if_pos]
          rcases r.1 with z | z
          · cases z
          · exact Nat.le_of_not_lt (of_decide_eq_false z)
    · exact hE _ _ _ (e1.trans e2) ⟨some 0, by obtain ⟨v, e⟩ := r.1; rw [e]; rfl, r.2.back e1⟩
end
end K75
/-! the defs: read_tree -/
namespace K75
open PySem PySem.Spec PyProof.Rows L2 Evl He
theorem isNums_back {o : Option (List Nat)} {v : V} {H1 H2 H3 : Hp} (e : Ex H1 H2) (r : isNums o v H2 H3) : isNums o v H1 H3 := by
  cases o with
  | none => exact r
  | some ns => exact new_back e r
theorem ints_app (a b : List Nat) : ints_ a ++ ints_ b = ints_ (a ++ b) := by
  unfold ints_
  rw [List.map_append]
section
variable {P : Program} {w : World} {K : PySem.W.Frag} {mg : Str → Option Value} {base : Heap}
abbrev N_read_tree : List Str := ["text", "lines", "numbers", "told", "many", "number", "line", "level", "found", "fault"]
theorem s_read_tree : FnScope N_read_tree ["text"] (defScope d_read_tree.st) := C8.fnScope_by (by decide +kernel)
abbrev SpReadTree (K : PySem.W.Frag) : Sp := SpX (fun a : Txt0 => [a.v]) (fun a H => a.ok K H) (fun a v _ H2 => ∃ c told x, resOf readTree a = .tree c told ∧ v = .ref x ∧ IsTree K c told x H2) (fun a => BadOf K (resOf readTree a))
theorem levels_cons {i : Nat} {told : List Nat} {m : Nat} {l : List Nat} {r : List (List Nat)} : levels i told m (l :: r) = match numsOf l wTold with
    | some lv => if i ≤ 6 ∧ lv.length = m then levels (i + 1) (told ++ lv) (2 * m) r else .inl i
    | none => .inl i := rfl
theorem c_read_tree (T : Tx K mg) : CalX P w K mg base (L2.CX P w) 5 d_read_tree ["text"] (SpReadTree K) := by
  refine CalX.ofX (f_read_tree T) b_read_tree s_read_tree (fun vs H Q E h => ?_) (fun cdv A outer s H vs Q E hr h => ?_)
  · obtain ⟨a, rfl, _⟩ := h
    rfl
  · obtain ⟨a, rfl, ha, hQ, hE⟩ := h
    have nd := s_read_tree.nd
    have tk : L2.Takes (CxX (L2.CX P w) P w K mg base d_read_tree N_read_tree cdv A outer s H E) (fun cls d _ H => E cls d H) := L2.takes_of rfl rfl rfl rfl
    refine WS.here (w_setX 1 nd (vx_callX a (c_lines_of T) hr (by decide) T.g_lines_of (fun σ => L2.passAt tk σ) (va_one (v_var 0)) (fun H1 e1 => ha.ex e1) (fun v H1 H2 H3 e r => ?_) (fun c d H1 H2 H3 e r => ⟨r.1, r.2.back e⟩)) (fun v H1 H2 e1 e2 r => ?_) fun c d H1 H2 e1 e2 r => ?_)
    · obtain ⟨l, e1, r⟩ := r
      exact ⟨l, e1, new_back e r⟩
    · obtain ⟨l, rfl, p, rfl, hp0, hp⟩ := r
      have ha : l.length ≤ 5000 := ha
      obtain ⟨u, us, hl⟩ := lines_cons l
      rw [hl] at hp
      have hmem : ∀ z ∈ us, z.length ≤ 5000 := fun z hz => Nat.le_trans (lines_le l z (by rw [hl]; exact List.mem_cons_of_mem _ hz)) ha
      have hus : u.length ≤ 5000 := Nat.le_trans (lines_le l u (by rw [hl]; exact List.mem_cons_self ..)) ha
      have hcount : us.length ≤ 5000 := by
        have := lines_len l
        rw [hl, List.length_cons] at this
        omega
      have hq : SqL K H2 p (txts (u :: us)) := sq_of hp
      have eH := e1.trans e2
      refine w_setR 2 nd (vr_call (u, wTree) (c_numbers_of T) hr (by decide) T.g_numbers_of (va_cons (v_ixN (i := 0) (VX.seq (v_var 1) hq) v_int rfl) (va_one (v_lit (t := wTree) (by decide +kernel)))) (fun _ _ => Nat.le_trans hus (by decide)) fun v H1 H2 H3 e r => isNums_back e r) fun v H3 H4 e3 e4 r => ?_
      have r : isNums (numsOf u wTree) v H3 H4 := r
      have eH4 := eH.trans (e3.trans e4)
      -- line 0 is bad
      have bad0 : (∀ c, numsOf u wTree ≠ some [c]) → readTree (linesOf l) = .line (some 0) := fun hno => by
        rw [hl]
        unfold readTree
        rw [List.headD_cons]
        split
        · rename_i c e
          exact absurd e (hno c)
        · rfl
      cases hn : numsOf u wTree with
      | none =>
        rw [hn] at r
        have r : v = .non := r
        subst r
        refine w_doX (vx_callX ((0 : Nat), V.non, false) (c_check_line T) hr (by decide) T.g_check_line (fun σ => L2.passAt tk σ) (va_cons v_int (va_cons (v_var 2) (va_one (VX.is (x := .bl false) (v_and (l := false) (v_notN (v_var 2)) fun hb => by simp at hb) (by simp))))) (fun _ _ => trivial) (fun v H1 H2 H3 e r => r) (fun c d H1 H2 H3 e r => ⟨r.1, r.2.back e⟩)) (fun v H5 H6 e5 e6 r => absurd rfl r.2.1) fun c d H5 H6 e5 e6 r => hE _ _ _ (eH4.trans (e5.trans e6)) ⟨some 0, bad0 (fun c e => by rw [hn] at e; cases e), r.2.back (eH4.trans e5)⟩
      | some ns =>
        rw [hn] at r
        obtain ⟨q, rfl, hq0, hq1⟩ := (show isNewL (ints_ ns) v H3 H4 from r)
        have hns : SqL K H4 q (ints_ ns) := sq_of hq1
        refine w_doX (vx_callX ((0 : Nat), V.ref q, decide (ns.length = 1)) (c_check_line T) hr (by decide) T.g_check_line (fun σ => L2.passAt tk σ) (va_cons v_int (va_cons (v_var 2) (va_one (VX.is (x := .bl (decide (ns.length = 1))) (v_and (v_notN (v_var 2)) fun hb => v_one (v_eq (v_len T.n_len (VX.seq (v_var 2) hns)) v_int rfl)) ?_)))) (fun _ _ => trivial) (fun v H1 H2 H3 e r => r) (fun c d H1 H2 H3 e r => ⟨r.1, r.2.back e⟩))
          (fun v H5 H6 e5 e6 r => ?_) fun c d H5 H6 e5 e6 r => hE _ _ _ (eH4.trans (e5.trans e6)) ⟨some 0, bad0 (fun c e => ?_), r.2.back (eH4.trans e5)⟩
        · rw [ints_len]
          congr 1
          rw [Bool.eq_iff_iff]
          simp
          omega
        · obtain ⟨_, _, hlen⟩ := r
          have hlen : decide (ns.length = 1) = true := hlen
          have hlen := of_decide_eq_true hlen
          obtain ⟨c, rfl⟩ := List.length_eq_one_iff.mp hlen
          have e56 := e5.trans e6
          have hq6 : H6 p = some (.lst (txts (u :: us))) := (e3.trans (e4.trans e56)) _ _ hp
          have hn6 : H6 q = some (.lst (ints_ [c])) := e56 _ _ hq1
          have eH6 := eH4.trans e56
          have hread : readTree (linesOf l) = match levels 1 [] 1 us with
              | .inl i => .line (some i)
              | .inr told => if (u :: us).length < 3 then .line (some (u :: us).length) else if treeOk c told = true ∧ treeT c told = l then .tree c told else .line none := by
            unfold readTree
            rw [lines_join, hl, List.headD_cons, hn, List.tail_cons] <;> rfl
          -- told, many = [], 1
          refine w_par 3 4 nd (VL.rel (xs := ints_ []) (vl_disp va_nil (Nat.zero_le _))) (VX.rel (v := .int ((1 : Nat) : Int)) v_int) fun v2 v3 H7 H8 H9 e7 e8 e9 r7 r8 => ?_
          obtain ⟨t0, rfl, _, ht0⟩ := r7
          subst r8
          have e69 := e7.trans (e8.trans e9)
          refine w_for (N := us.length) (Y := YPair (fun i => some (.int ((1 + i : Nat) : Int))) (fun i => (txts us)[i]?)) ((vi_enumF (k := 1) T.n_enumerate (VL.seq (VL.is (vl_from (k := 1) (VX.seq (v_var 1) (sq_of (e69 _ _ hq6))) v_int) (txts_drop 1 (u :: us)))) v_int (by decide)).cast (txts_len _))
            (pg_tup rfl (pgs_cons (pg_name (i := 5) nd rfl (Or.inl rfl)) (pgs_cons (pg_name (i := 6) nd rfl (Or.inl rfl)) pgs_nil)))
            (fun i σ' H' => ∃ (t : Addr) (told : List Nat) (x5 x6 x7 : Option V), σ' = [some (.str (SX.S l)), some (.ref p), some (.ref q), some (.ref t), some (.int ((2 ^ i : Nat) : Int)), x5, x6, x7, none, none] ∧ Ex H6 H' ∧ H' t = some (.lst (ints_ told)) ∧ told.length + 1 = 2 ^ i ∧ i ≤ 6 ∧ levels 1 [] 1 us = levels (i + 1) told (2 ^ i) (us.drop i))
            (fun H10 e10 => ⟨t0, [], none, none, none, rfl, e69.trans e10, e10 _ _ (e9 _ _ ht0), rfl, by decide, rfl⟩) (fun G hG i x σ' H10 H11 hi hP gG hY => ?_) (fun σ' H10 hP => ?_) PassesOwn.leaving
          · obtain ⟨t, told, x5, x6, x7, rfl, e610, ht, hlen2, hi6, hlv⟩ := hP
            have hgi : us[i]? = some us[i] := List.getElem?_eq_getElem hi
            have eY := YPair.ex hY
            refine pair_go hY rfl (show (txts us)[i]? = some (.str (SX.S us[i])) by rw [txts, List.getElem?_map, hgi] <;> rfl) (WS.here ?_)
            have hlv2 : levels 1 [] 1 us = levels (i + 1) told (2 ^ i) (us[i] :: us.drop (i + 1)) := by rw [hlv, List.drop_eq_getElem_cons hi]
            rw [levels_cons] at hlv2
            have e611 := e610.trans eY
            have ht11 := eY _ _ ht
            have hli : us[i].length ≤ 5000 := hmem _ (List.getElem_mem hi)
            have eH11 := eH6.trans e611
            -- level = numbers_of(line, 'told')
            refine w_setR 7 nd (vr_call (us[i], wTold) (c_numbers_of T) hr (by decide) T.g_numbers_of (va_cons (v_var 6) (va_one (v_lit (t := wTold) (by decide +kernel)))) (fun _ _ => Nat.le_trans hli (by decide)) fun v H1 H2 H3 e r => isNums_back e r) fun v H12 H13 e12 e13 r => ?_
            have r : isNums (numsOf us[i] wTold) v H12 H13 := r
            have e1113 := e12.trans e13
            have eH13 := eH11.trans e1113
            cases hnl : numsOf us[i] wTold with
            | none =>
              rw [hnl] at r hlv2
              have r : v = .non := r
              subst r
              refine w_doX (vx_callX ((1 + i : Nat), V.non, false) (c_check_line T) hr (by decide) T.g_check_line (fun σ => L2.passAt tk σ) (va_cons (v_var 5) (va_cons (v_var 7) (va_one (VX.is (x := .bl false) (v_and (l := false) (v_le (v_var 5) (v_num T.i_MOST_LEVELS)) fun hb => VX.is (x := .bl false) (v_and (l := false) (v_notN (v_var 7)) fun hb => by simp at hb) (by simp)) (by simp))))) (fun _ _ => trivial) (fun v H1 H2 H3 e r => r) (fun c d H1 H2 H3 e r => ⟨r.1, r.2.back e⟩)) (fun v H5 H6 e5 e6 r => absurd rfl r.2.1)
                fun c d H5 H6 e5 e6 r => hE _ _ _ (eH13.trans (e5.trans e6)) ⟨some (i + 1), ?_, ?_⟩
              · show readTree (linesOf l) = _
                rw [hread, hlv2]
              · rw [show i + 1 = 1 + i from Nat.add_comm i 1]
                exact r.2.back (eH13.trans e5)
            | some lv =>
              rw [hnl] at r hlv2
              dsimp only at hlv2
              obtain ⟨t2, rfl, ht20, ht21⟩ := (show isNewL (ints_ lv) v H12 H13 from r)
              have hlvq : SqL K H13 t2 (ints_ lv) := sq_of ht21
              refine w_doX (vx_callX ((1 + i : Nat), V.ref t2, decide (i + 1 ≤ 6 ∧ lv.length = 2 ^ i)) (c_check_line T) hr (by decide) T.g_check_line (fun σ => L2.passAt tk σ) (va_cons (v_var 5) (va_cons (v_var 7) (va_one (VX.is (x := .bl (decide (i + 1 ≤ 6 ∧ lv.length = 2 ^ i))) (v_and (v_le (v_var 5) (v_num T.i_MOST_LEVELS)) fun hb => v_and (v_notN (v_var 7)) fun hb => v_one (v_eq (v_len T.n_len (VX.seq (v_var 7) hlvq)) (v_var 4) rfl)) ?_)))) (fun _ _ => trivial) (fun v H1 H2 H3 e r => r) (fun c d H1 H2 H3 e r => ⟨r.1, r.2.back e⟩))
                (fun v H14 H15 e14 e15 r => ?_) fun c d H14 H15 e14 e15 r => hE _ _ _ (eH13.trans (e14.trans e15)) ⟨some (i + 1), ?_, ?_⟩
              · rw [ints_len]
                congr 1
                rw [Bool.eq_iff_iff]
                simp only [Bool.and_eq_true, decide_eq_true_eq, Bool.not_eq_true', decide_eq_false_iff_not]
                constructor
                · rintro ⟨h1, _, h3⟩
                  refine ⟨by omega, ?_⟩
                  have h4 := V.int.inj h3
                  exact Int.ofNat.inj h4
                · rintro ⟨h1, h3⟩
                  exact ⟨by omega, (fun z => nomatch z), by rw [h3]⟩
              · obtain ⟨_, _, hb⟩ := r
                have hb : decide (i + 1 ≤ 6 ∧ lv.length = 2 ^ i) = true := hb
                have hb := of_decide_eq_true hb
                rw [if_pos hb] at hlv2
                have e1315 := e14.trans e15
                have e1115 := e1113.trans e1315
                have e2 : 2 * 2 ^ i = 2 ^ (i + 1) := by rw [Nat.pow_succ, Nat.mul_comm]
                have hpow : 2 ^ (i + 1) ≤ 2 ^ 6 := Nat.pow_le_pow_right (by decide) hb.1
                have hp64 : 2 ^ (i + 1) ≤ 64 := hpow
                refine w_par 3 4 nd (VL.rel (xs := ints_ (told ++ lv)) (VL.is (vl_cat (VX.m (v_var 3) (e1115 _ _ ht11)) (VX.m (v_var 7) (e1315 _ _ ht21)) (by rw [ints_len, ints_len]; omega)) (ints_app told lv))) (VX.rel (v := .int ((2 ^ (i + 1) : Nat) : Int)) (VX.is (v_mul v_int (v_var 4) (.inl ⟨by decide, by decide⟩)) (by rw [← e2, Int.natCast_mul] <;> rfl))) fun v4 v5 H16 H17 H18 e16 e17 e18 r16 r17 => ?_
                obtain ⟨t3, rfl, ht30, ht31⟩ := r16
                subst r17
                refine w_nil fun H19 e19 => ?_
                have eall := (e1115.trans (e16.trans (e17.trans (e18.trans e19))))
                refine ⟨⟨t3, told ++ lv, _, _, _, rfl, e611.trans eall, e19 _ _ (e18 _ _ ht31), ?_, hb.1, ?_⟩, hG _ _ (Keeps.of (eY.trans eall)) gG⟩
                · rw [List.length_append, hb.2, ← e2]
                  omega
                · rw [hlv2, e2]
              · show readTree (linesOf l) = _
                rw [hread, hlv2, if_neg]
                rcases r.1 with z | z
                · cases z
                · exact of_decide_eq_false z
              · rw [show i + 1 = 1 + i from Nat.add_comm i 1]
                exact r.2.back (eH13.trans e14)
          · obtain ⟨t, told, x5, x6, x7, rfl, e610, ht, hlen2, hi6, hlv⟩ := hP
            rw [List.drop_length] at hlv
            have hlv2 : levels 1 [] 1 us = .inr told := hlv
            rw [hlv2] at hread
            dsimp only at hread
            have hp10 : SqL K H10 p (txts (u :: us)) := sq_of (e610 _ _ hq6)
            have hn10 : SqL K H10 q (ints_ [c]) := sq_of (e610 _ _ hn6)
            have eH10 := eH6.trans e610
            have hc : c < 10000 := numsOf_lt hn c (by simp)
            have h64 : 2 ^ us.length ≤ 2 ^ 6 := Nat.pow_le_pow_right (by decide) hi6
            have h64' : told.length ≤ 63 := by
              have : 2 ^ us.length ≤ 64 := h64
              omega
            refine WS.here (w_when (vt_lt (v_len T.n_len (VX.seq (v_var 1) hp10)) v_int) (fun hb => w_raise (d := d_BadText_init) tk (T.oex "BadText" (by decide +kernel)) (T.ini "BadText" (by decide +kernel)) (c_BadText_init T) hr (by decide) T.g_BadText (v_len T.n_len (VX.seq (v_var 1) hp10)) fun d H11 hd e11 h11 => hE _ _ H11 (eH10.trans e11) ⟨some (u :: us).length, ?_, rfl, d, rfl, fresh_back eH10 hd, ?_⟩) fun hb => ?_)
            · show readTree (linesOf l) = _
              rw [hread, if_pos]
              rw [txts_len] at hb
              have := of_decide_eq_true hb
              omega
            · rw [h11, txts_len] <;> rfl
            · have hus3 : ¬ (u :: us).length < 3 := by
                intro z
                rw [txts_len, decide_eq_true (by omega)] at hb
                cases hb
              rw [if_neg hus3] at hread
              have hsz : told.length + 1 ∈ sizesT := (levels_size hlv2 (by rw [List.length_cons] at hus3; omega)).1
              refine w_try T 9 tk nd hr (by decide) (fun W pn xe tkN po hW => ?_) (fun _ => PassesOwnAt.leaving)
              refine w_mkTree (c := c) (ns := told) T 8 tkN nd hr (by decide) (v_ixN (i := 0) (VX.seq (v_var 2) hn10) v_int rfl) (VX.m (v_var 3) ht) (by omega) (fun hok x H11 e11 hS => w_nil fun H12 e12 => WS.here ?_) fun hno d H11 e11 => hW _ _ _ _ (.inr (.inl rfl)) (by show 9 < 10; decide) fun dd H12 hd e12 h12 => hE _ _ H12 (eH10.trans (e11.trans e12)) ⟨none, ?_, rfl, dd, rfl, fresh_back (eH10.trans e11) hd, h12⟩
              · have eH12 := eH10.trans (e11.trans e12)
                have hS12 : IsTree K c told x H12 := hS.ex e12
                have hall : ∀ n ∈ told, n < 1000000 := fun n hn => by
                  unfold treeOk toldB at hok
                  simp only [Bool.and_eq_true, decide_eq_true_eq] at hok
                  have := List.all_eq_true.mp hok.2.2 n hn
                  simp only [decide_eq_true_eq] at this
                  omega
                refine w_when (vt_neS (q := l) (v_call (x, c, told) (c_tree_text T) hr (by decide) T.g_tree_text (va_one (v_var 8)) fun H9 e9 => ⟨hS12.ex e9, h64', (by show c < 1000000; omega), hall⟩) (v_var 0)) (fun hb => w_raise (d := d_BadText_init) tk (T.oex "BadText" (by decide +kernel)) (T.ini "BadText" (by decide +kernel)) (c_BadText_init T) hr (by decide) T.g_BadText v_non fun d H13 hd e13 h13 => hE _ _ H13 (eH12.trans e13) ⟨none, ?_, rfl, d, rfl, fresh_back eH12 hd, h13⟩) fun hb => ?_
                · show readTree (linesOf l) = _
                  have hb : (!decide (treeT c told = l)) = true := hb
                  rw [hread, if_neg]
                  rintro ⟨_, h2⟩
                  rw [decide_eq_true h2] at hb
                  cases hb
                · have hb : (!decide (treeT c told = l)) = false := hb
                  have hb : treeT c told = l := by simpa using hb
                  refine w_ret (v_var 8) fun H13 e13 => hQ _ _ (eH12.trans e13) ⟨c, told, x, ?_, rfl, hS12.ex e13⟩
                  show readTree (linesOf l) = _
                  rw [hread, if_pos ⟨hok, hb⟩]
              · show readTree (linesOf l) = _
                rw [hread, if_neg]
                rintro ⟨h1, _⟩
                rw [hno] at h1
                cases h1
        · rw [hn] at e
          cases e
          rcases r.1 with z | z
          · cases z
          · simp at z
    · exact hE _ _ _ (e1.trans e2) ⟨some 0, by obtain ⟨v, e⟩ := r.1; rw [e]; rfl, r.2.back e1⟩
end
end K75
/-! own words, further: dicts, sorting -/
namespace K75
open PySem PySem.Spec PyProof.Rows L2 Evl He
/-! ### sorting -/
def insN (x : Nat) : List Nat → List Nat
  | [] => [x]
  | y :: r => if x ≤ y then x :: y :: r else y :: insN x r
def srtN : List Nat → List Nat
  | [] => []
  | x :: r => insN x (srtN r)
theorem insN_perm (x : Nat) : ∀ l : List Nat, (insN x l).Perm (x :: l)
  | [] => .refl _
  | y :: r => by
    rw [insN]
    split
    · exact .refl _
    · exact ((insN_perm x r).cons y).trans (.swap x y r)
theorem srtN_perm : ∀ l : List Nat, (srtN l).Perm l
  | [] => .refl _
  | x :: r => (insN_perm x (srtN r)).trans ((srtN_perm r).cons x)
theorem insN_sorted (x : Nat) : ∀ l : List Nat, l.Pairwise (· ≤ ·) → (insN x l).Pairwise (· ≤ ·)
  | [], _ => by simp [insN]
  | y :: r, h => by
    obtain ⟨h1, h2⟩ := List.pairwise_cons.mp h
    rw [insN]
    split
    · rename_i hxy
      refine .cons (fun z hz => ?_) h
      rcases List.mem_cons.mp hz with e | e
      · subst e
        exact hxy
      · have := h1 z e
        omega
    · rename_i hxy
      refine .cons (fun z hz => ?_) (insN_sorted x r h2)
      rcases List.mem_cons.mp ((insN_perm x r).mem_iff.mp hz) with e | e
      · subst e
        omega
      · exact h1 z e
theorem srtN_sorted : ∀ l : List Nat, (srtN l).Pairwise (· ≤ ·)
  | [] => .nil
  | x :: r => insN_sorted x _ (srtN_sorted r)
/-- the ints that sorted gives are these -/
theorem srt_ints {ns : List Nat} {ns' : List Int} (hp : ns'.Perm (ns.map fun n => ((n : Nat) : Int))) (hs : ns'.Pairwise (· ≤ ·)) : ns'.map V.int = ints_ (srtN ns) := by
  have hnn : ∀ i ∈ ns', 0 ≤ i := fun i hi => by
    obtain ⟨n, _, rfl⟩ := List.mem_map.mp (hp.mem_iff.mp hi)
    omega
  have e1 : ns' = (ns'.map Int.toNat).map fun n => ((n : Nat) : Int) := by
    rw [List.map_map]
    conv => lhs; rw [← List.map_id ns']
    refine List.map_congr_left fun i hi => ?_
    have := hnn i hi
    show i = ((i.toNat : Nat) : Int)
    omega
  have hp2 : (ns'.map Int.toNat).Perm ns := by
    have := hp.map Int.toNat
    rw [List.map_map] at this
    have e : (ns.map (Int.toNat ∘ fun n => ((n : Nat) : Int))) = ns := by
      conv => rhs; rw [← List.map_id ns]
      exact List.map_congr_left fun n _ => rfl
    rw [e] at this
    exact this
  have hs2 : (ns'.map Int.toNat).Pairwise (· ≤ ·) := by
    rw [List.pairwise_map]
    exact hs.imp fun {a b} h => by omega
  have e2 : ns'.map Int.toNat = srtN ns := perm_sorted (hp2.trans (srtN_perm ns).symm) hs2 (srtN_sorted ns)
  rw [e1, e2, ints_, List.map_map] <;> rfl
theorem ints_eq (ns : List Nat) : ints_ ns = (ns.map fun n => ((n : Nat) : Int)).map V.int := by
  rw [ints_, List.map_map] <;> rfl
section
variable {X : Cx} {a : Expr} {σ : L2.St} {H : Hp} {pos q : Pos}
theorem vl_sortedN {ns : List Nat} (hm : X.mg "sorted" = none) (ha : VS X a σ H (ints_ ns)) (hg : Gl X "sorted" := by rfl) (hs : starEach [a] X.env = (false, eval a X.env) :: starEach [] X.env := by rfl) (hpl : (backTo pos (starEach [] X.env)).any (·.1) = false := by rfl) :
    VL X (.Call (.Name "sorted" q) [a] [] pos) σ H (ints_ (srtN ns)) := VR.lst (VR.imp (vr_sorted (ns := ns.map fun n => ((n : Nat) : Int)) hm (by rw [← ints_eq]; exact ha) hg hs hpl) fun v H1 H2 _ _ r => by
  obtain ⟨p, ns', rfl, h1, h2, h3, h4⟩ := r
  refine ⟨p, rfl, h1, ?_⟩
  rw [h2, srt_ints h3 h4])
end
/-! ### dicts of rows -/
def kvsOf (rows : List (Nat × Nat)) : List (Key × V) := rows.map fun p => (Sum.inl ((p.1 : Nat) : Int), V.int ((p.2 : Nat) : Int))
theorem kvs_len (rows : List (Nat × Nat)) : (kvsOf rows).length = rows.length := List.length_map _
theorem valV_rows (s : Nat) : ∀ rows : List (Nat × Nat), valV (kvsOf rows) (Sum.inl ((s : Nat) : Int)) = (rows.lookup s).map fun w => V.int ((w : Nat) : Int)
  | [] => rfl
  | p :: r => by
    show valV ((Sum.inl ((p.1 : Nat) : Int), V.int ((p.2 : Nat) : Int)) :: kvsOf r) _ = _
    rw [List.lookup_cons]
    by_cases h : s = p.1
    · subst h
      rw [valV_pos rfl]
      simp
    · have hb : (s == p.1) = false := by simpa using h
      have hn : ¬ (Sum.inl ((p.1 : Nat) : Int) : Key) = Sum.inl ((s : Nat) : Int) := fun z => h (by have := Sum.inl.inj z; omega)
      rw [valV_neg hn, hb, valV_rows s r]
theorem lookup_none {s : Nat} : ∀ {rows : List (Nat × Nat)}, s ∉ rows.map (·.1) → rows.lookup s = none
  | [], _ => rfl
  | p :: r, h => by
    simp only [List.map_cons, List.mem_cons, not_or] at h
    rw [List.lookup_cons]
    have hb : (s == p.1) = false := by simpa using h.1
    rw [hb]
    exact lookup_none h.2
theorem putK_rows {s x : Nat} : ∀ {rows : List (Nat × Nat)}, (rows.map (·.1)).Nodup → putK (kvsOf rows) (Sum.inl ((s : Nat) : Int)) (.int ((x : Nat) : Int)) = kvsOf (putR (s, x) rows) := fun {rows} nd => by
  by_cases hm : s ∈ rows.map (·.1)
  · unfold putK
    have hsome : (valV (kvsOf rows) (Sum.inl ((s : Nat) : Int))).isSome = true := by
      obtain ⟨p, hp, rfl⟩ := List.mem_map.mp hm
      rw [valV_rows, lookup_mem nd p hp] <;> rfl
    rw [if_pos (by rw [valV_any]; exact hsome)]
    have key : ∀ rows : List (Nat × Nat), (rows.map (·.1)).Nodup → s ∈ rows.map (·.1) → (kvsOf rows).map (fun kv => if kv.1 = Sum.inl ((s : Nat) : Int) then (kv.1, V.int ((x : Nat) : Int)) else kv) = kvsOf (putR (s, x) rows) := by
      intro rows
      induction rows with
      | nil =>
        intro _ h
        cases h
      | cons p r ih =>
        intro nd h
        rw [List.map_cons, List.nodup_cons] at nd
        show (if (Sum.inl ((p.1 : Nat) : Int) : Key) = Sum.inl ((s : Nat) : Int) then _ else _) :: (kvsOf r).map _ = _
        by_cases hp : p.1 = s
        · rw [if_pos (by rw [hp]), putR, if_pos hp]
          have rest : (kvsOf r).map (fun kv => if kv.1 = Sum.inl ((s : Nat) : Int) then (kv.1, V.int ((x : Nat) : Int)) else kv) = kvsOf r := by
            conv => rhs; rw [← List.map_id (kvsOf r)]
            refine List.map_congr_left fun kv hkv => ?_
            obtain ⟨q, hq, rfl⟩ := List.mem_map.mp hkv
            rw [if_neg]
            · rfl
            · intro z
              have z2 : ((q.1 : Nat) : Int) = ((s : Nat) : Int) := Sum.inl.inj z
              have : q.1 = s := by omega
              exact nd.1 (by rw [hp, ← this]; exact List.mem_map_of_mem hq)
          rw [rest] <;> rfl
        · rw [if_neg (fun z => hp (by have := Sum.inl.inj z; omega)), putR, if_neg hp]
          rw [ih nd.2 ((List.mem_cons.mp h).resolve_left fun e => hp e.symm)] <;> rfl
    exact key rows nd hm
  · rw [putK_new _ (by rw [valV_rows, lookup_none hm] <;> rfl), putR_new hm, kvsOf, kvsOf, List.map_append] <;> rfl
section
variable {X : Cx} {a b e elt tg iter : Expr} {σ : L2.St} {H : Hp} {v : V} {xs : List V} {pos q spos : Pos} {d : Addr} {rows : List (Nat × Nat)} {kvs : List (Key × V)} {rest : List Stmt} {D : Ends}
theorem v_dget {s : Nat} (hu : X.A.units + 1 < cLine) (ha : VX X a σ H (.ref d)) (hb : VX X b σ H (.int (s : Nat))) (hd : Rd H d (.dK (kvsOf rows))) (hv : rows.lookup s = some x) (hs : NoSl b := by intro _ _; rfl) : VX X (.Subscript a b pos) σ H (.int ((x : Nat) : Int)) :=
  v_of (pe_dget hu pe_w pe_w hs) fun H1 e1 Q k => ha H1 e1 _ fun H2 e2 => hb H2 (e1.trans e2) _ fun H3 e3 => ⟨d, _, rfl, .inl ⟨kvsOf rows, Sum.inl ((s : Nat) : Int), ex_rd ((e1.trans e2).trans e3) hd, rfl, by rw [valV_rows, hv] <;> rfl⟩, k H3 (e2.trans e3)⟩
/-- what a walk under the lock gives -/
theorem vl_lock (hd : H d = some (.dK kvs)) (h : ∀ od, VL X e σ (upd H d (.frz od (.dK kvs))) xs) : VL X e σ H xs := fun H1 e1 Q k => we_of (pe_lock pe_w) ⟨d, .dK kvs, e1 _ _ hd, trivial, fun od => h od (upd H1 d (.frz od (.dK kvs))) (fun b o hb => by
    by_cases z : b = d
    · subst z
      rw [upd_same] at hb ⊢
      exact hb
    · rw [upd_ne z] at hb ⊢
      exact e1 _ _ hb) _ fun p H2 hp e2 h2 => by
    have npd : p ≠ d := fun z => by
      rw [z, upd_same] at hp
      cases hp
    rw [upd_ne npd] at hp
    refine ⟨e2 d _ upd_same, k p _ hp (fun b o hb => ?_) ?_⟩
    · by_cases z : b = d
      · subst z
        rw [upd_same, ← e1 _ _ hd, hb]
      · rw [upd_ne z]
        exact e2 _ _ (by rw [upd_ne z]; exact hb)
    · rw [upd_ne npd]
      exact h2⟩
theorem vi_keys {od : Obj} (ha : VX X a σ H (.ref d)) (hd : H d = some (.frz od (.dK kvs))) : VI X tg a σ H kvs.length (YAt (kvs.map fun kv => kV kv.1)) := ⟨_, pi_keys pe_w, fun H1 e R k => ha H1 e _ fun H2 e2 =>
  ⟨d, od, rfl, .inl ⟨kvs, (e.trans e2) _ _ hd, k _ H2 (fun H => H d = some (.frz od (.dK kvs))) e2 ⟨Walk.mono walk_keys (fun _ h => h) fun i H x H' hi _ y => by
    obtain ⟨y1, kk, vv, y2, y3⟩ := y
    refine ⟨y1, ?_⟩
    rw [List.getElem?_map, y2, y3] <;> rfl, fun _ _ kk h => kk _ _ h fun _ z => nomatch z⟩ ((e.trans e2) _ _ hd)⟩⟩⟩
theorem keys_rows (rows : List (Nat × Nat)) : ((kvsOf rows).map fun kv => kV kv.1) = rows.map fun p => V.int ((p.1 : Nat) : Int) := by
  rw [kvsOf, List.map_map] <;> rfl
/-- .. by the rows -/
theorem vi_rows {od : Obj} (ha : VX X a σ H (.ref d)) (hd : H d = some (.frz od (.dK (kvsOf rows)))) : VI X tg a σ H rows.length (YAt (rows.map fun p => V.int ((p.1 : Nat) : Int))) := by
  have h := vi_keys (tg := tg) ha hd
  rw [keys_rows] at h
  exact h.cast (kvs_len rows)
theorem v_lenD (hm : X.mg "len" = none) {R : V → Hp → Hp → Prop} {n : Nat} (ha : VR X a σ H R) (hR : ∀ v H1 H2, R v H1 H2 → ∃ p kvs, v = .ref p ∧ H2 p = some (.dK kvs) ∧ kvs.length = n) (hg : Gl X "len" := by rfl) (hs : starEach [a] X.env = (false, eval a X.env) :: starEach [] X.env := by rfl) (hpl : (backTo pos (starEach [] X.env)).any (·.1) = false := by rfl) :
    VX X (.Call (.Name "len" q) [a] [] pos) σ H (.int (n : Int)) := VR.val (vr_callB1 call_lenD hm boot_len ha (fun H1 H2 x e1 e2 r Q k => by
  obtain ⟨p, kvs, rfl, hp, hl⟩ := hR x H1 H2 r
  exact ⟨p, kvs, rfl, hp, k _ H2 (Ex.refl _) (by rw [hl])⟩) hg (by decide) (by decide) hs hpl)
/-- list(d) -/
theorem vl_listD (hc : X.calm = true) (hm : X.mg "list" = none) (ha : VX X a σ H (.ref d)) (hd : H d = some (.dK kvs)) (hg : Gl X "list" := by rfl) (hs : starEach [a] X.env = (false, eval a X.env) :: starEach [] X.env := by rfl) (hpl : (backTo pos (starEach [] X.env)).any (·.1) = false := by rfl) :
    VL X (.Call (.Name "list" q) [a] [] pos) σ H (kvs.map fun kv => kV kv.1) := VR.lst (vr_callTy1 (call_list_dK hc) hm (by decide +kernel) ha.rel (fun H1 H2 x e1 e2 r Q k => by
  subst r
  exact ⟨d, kvs, rfl, (e1.trans e2) _ _ hd, fun l hl => k _ _ (Ex.new hl) ⟨l, rfl, fresh_back e2 hl, upd_same⟩⟩) hg (by decide) (by decide) hs hpl)
/-- {elt: w for tg in iter} over distinct numbers: how many it has -/
theorem vr_dc {vx : Expr} {scope : Scope} {own : List (Str × Nat)} {zs : List Nat} {j : Nat} {w0 : V} (hc : X.calm = true) (nd : X.N.Nodup) (hi : VI X tg iter σ H zs.length (YAt (ints_ zs))) (hz : zs.Nodup) (hn : zs.length ≤ 40000) (ok : BlkOk X.N X.env.scope scope own)
    (hgT : ∀ (s : Shared) (H : Hp) (C : Addr) (cl : List (Str × Addr)) (fp : List Addr), PG (X.blk s H scope (compEnvC scope cl C X.env) fp) tg (gName j)) (hw : ∀ x, wipe ((wipe σ (own.map (·.2))).set j (some x)) (own.map (·.2)) = wipe σ (own.map (·.2)))
    (hk : ∀ (s : Shared) (H0 : Hp) (C : Addr) (cl : List (Str × Addr)) (fp : List Addr) (z : Nat), VX (X.blk s H0 scope (compEnvC scope cl C X.env) fp) elt ((wipe σ (own.map (·.2))).set j (some (.int (z : Nat)))) H (.int (z : Nat)))
    (hv : ∀ (s : Shared) (H0 : Hp) (C : Addr) (cl : List (Str × Addr)) (fp : List Addr) (z : Nat), VX (X.blk s H0 scope (compEnvC scope cl C X.env) fp) vx ((wipe σ (own.map (·.2))).set j (some (.int (z : Nat)))) H w0) (hs : ∀ x, foldedSetIterable iter X.env x = pure x := by intro _; rfl) :
    VR X (.DictComp elt vx [⟨tg, iter, [], 0⟩] scope pos) σ H (fun v H1 H2 => ∃ p kvs, v = .ref p ∧ H2 p = some (.dK kvs) ∧ kvs.length = zs.length) := by
  obtain ⟨wi, hpi, hev⟩ := hi
  refine vr_of (pe_dc (tk := bE X scope elt) (tv := bE X scope vx) hc nd hpi ok hgT (fun _ _ _ _ _ => pts_nil) (fun s H0 C cl fp => ⟨fun pins s' σ' H' Q I h => h s H0 C cl fp pins s' I⟩) (fun s H0 C cl fp => ⟨fun pins s' σ' H' Q I h => h s H0 C cl fp pins s' I⟩) hs) fun H1 e1 Q k => hev H1 e1 _ fun J H2 G e2 gk hG Dd hD => ?_
  refine ⟨fun i m H' => m = zs.length - i ∧ i ≤ zs.length ∧ Ex H2 H' ∧ G H' ∧ H' Dd = some (.dK ((zs.take i).map fun z => (Sum.inl ((z : Nat) : Int), w0))), ⟨zs.length, by omega, Nat.zero_le _, Ex.new hD, gk.mono _ _ (Keeps.of (Ex.new hD)) hG, upd_same⟩, ?_⟩
  rintro i m H3 ⟨rfl, hi, e3, g3, h3⟩
  by_cases hlt : i < zs.length
  · refine .inr ⟨gk.walk.goes i H3 hlt g3, fun H' => i + 1 ≤ zs.length ∧ Ex H2 H' ∧ G H' ∧ H' Dd = some (.dK ((zs.take (i + 1)).map fun z => (Sum.inl ((z : Nat) : Int), w0))), fun H' ⟨q1, q2, q3, q4⟩ => ⟨zs.length - (i + 1), by omega, rfl, q1, q2, q3, q4⟩, fun x H4 y => ?_⟩
    obtain ⟨y1, y2⟩ := gk.walk.yields i H3 x H4 hlt g3 y
    subst y1
    have ex : x = .int ((zs[i] : Nat) : Int) := by
      rw [ints_, List.getElem?_map, List.getElem?_eq_getElem hlt] at y2
      exact (Option.some.inj y2).symm
    subst ex
    refine ⟨hw _, ?_⟩
    show bE X scope elt _ _ _
    intro s H0 C cl fp
    refine hk s H0 C cl fp zs[i] H4 ((e1.trans e2).trans e3) _ fun H5 e5 => ?_
    intro s H0 C cl fp
    refine hv s H0 C cl fp zs[i] H5 (((e1.trans e2).trans e3).trans e5) _ fun H6 e6 => ?_
    have h6 := e6 _ _ (e5 _ _ h3)
    refine ⟨_, Sum.inl ((zs[i] : Nat) : Int), rfl, h6, ?_, hlt, Ex.mut (e3.trans (e5.trans e6)) hD, gk.mono H2 _ (Keeps.of (Ex.mut (e3.trans (e5.trans e6)) hD)) hG, ?_⟩
    · rw [List.length_map, List.length_take, sizeLine_eq]
      omega
    · rw [upd_same]
      congr 2
      have hne : valV ((zs.take i).map fun z => ((Sum.inl ((z : Nat) : Int) : Key), w0)) (Sum.inl ((zs[i] : Nat) : Int)) = none := by
        have key : ∀ l : List Nat, zs[i] ∉ l → valV (l.map fun z => ((Sum.inl ((z : Nat) : Int) : Key), w0)) (Sum.inl ((zs[i] : Nat) : Int)) = none := by
          intro l
          induction l with
          | nil => exact fun _ => rfl
          | cons p r ih =>
            intro h
            simp only [List.mem_cons, not_or] at h
            rw [List.map_cons, valV_neg (fun z => h.1 (by have := Sum.inl.inj z; omega))]
            exact ih h.2
        refine key _ fun hm => ?_
        obtain ⟨m, hm1, hm2⟩ := List.getElem_of_mem hm
        rw [List.length_take] at hm1
        rw [List.getElem_take] at hm2
        exact (List.pairwise_iff_getElem.mp hz) m i (by omega) hlt (by omega) hm2
      rw [putK_new _ hne, List.take_succ, List.getElem?_eq_getElem hlt, List.map_append] <;> rfl
  · have e : i = zs.length := by omega
    subst e
    refine .inl ⟨gk.walk.stops H3 g3, k _ H3 (e2.trans e3) ⟨Dd, _, rfl, h3, by rw [List.take_length, List.length_map]⟩⟩
/-- d[k] = e -/
theorem w_dput {k x : Nat} (hu : X.A.units + 1 < cLine) (he : VX X e σ H (.int (x : Nat))) (ha : VX X a σ H (.ref d)) (hb : VX X b σ H (.int (k : Nat))) (hd : H d = some (.dK (kvsOf rows))) (nd : (rows.map (·.1)).Nodup) (hz : rows.length ≤ 1000000)
    (kk : ∀ H1, Ex H H1 → WS X rest D σ (upd H1 d (.dK (kvsOf (putR (k, x) rows))))) (hs : swapsWith e (some (.Subscript a b q)) spos.line X.env = pure false := by rfl) : WS X (.Assign [.Subscript a b q] e spos :: rest) D σ H :=
  w_cons (ps_dput hu pe_w pe_w pe_w hs) fun H1 e1 => he H1 e1 _ fun H2 e2 => ha H2 (e1.trans e2) _ fun H3 e3 => hb H3 ((e1.trans e2).trans e3) _ fun H4 e4 => by
    have e14 := ((e1.trans e2).trans e3).trans e4
    refine ⟨d, _, rfl, .inl ⟨kvsOf rows, Sum.inl ((k : Nat) : Int), e14 _ _ hd, rfl, by rw [kvs_len, sizeLine_eq]; omega, rfl⟩, ?_⟩
    rw [putK_rows nd]
    exact (kk H4 e14).here
end
end K75
/-! the defs: weights -/
namespace K75
open PySem PySem.Spec PyProof.Rows L2 Evl He
/-- nothing is wished of what leaves -/
theorem passLN {X : Cx} : Passes (L2N.CX X.prog X.w) X E0 := fun _ _ _ _ _ _ _ h => by
  obtain ⟨_, _, _, _, _, _, _, _, _, _, _, _, z⟩ := h
  exact z.elim
section
variable {P : Program} {w : World} {K : PySem.W.Frag} {mg : Str → Option Value} {base : Heap}
/-! ### are_sizes -/
abbrev N_are_sizes : List Str := ["value", "one"]
theorem s_are_sizes : FnScope N_are_sizes ["value"] (defScope d_are_sizes.st) := C8.fnScope_by (by decide +kernel)
def sizesB (ns : List Nat) : Bool := (decide (1 ≤ ns.length) && decide (ns.length ≤ 30)) && ns.all fun s => decide (1 ≤ s) && decide (s ≤ 1000)
abbrev SpSizes : Sp := SpR (fun a : Addr × List Nat => [.ref a.1]) (fun a H => H a.1 = some (.lst (ints_ a.2)) ∧ a.2.Nodup ∧ a.2.length ≤ 20000) (fun a v _ _ => v = .bl (sizesB a.2))
theorem c_are_sizes (T : Tx K mg) : CalX P w K mg base CX0 2 d_are_sizes ["value"] SpSizes := by
  refine CalX.of0 (f_are_sizes T) b_are_sizes s_are_sizes (fun vs H Q E h => ?_) (fun cdv A outer s H vs Q E hr h => ?_)
  · obtain ⟨a, rfl, _⟩ := h
    rfl
  · obtain ⟨⟨a, ns⟩, rfl, ⟨ha, hnd, hz⟩, hQ⟩ := h
    have hz : ns.length ≤ 20000 := hz
    have nd := s_are_sizes.nd
    have hlen : ((ints_ ns).length : Int) = (ns.length : Int) := by rw [ints_len]
    refine WS.here (w_when (VW.t (vw_or (vt_not (vt_val (v_isi2 T.n_isinstance (v_var 0) (v_ty T.n_list (by decide +kernel)) (v_ty T.n_tuple (by decide +kernel)) (.ty "list") (.ty "tuple") (fun H1 e1 => .base (.lst (e1 _ _ ha)))
        (kitAny_cons (b := true) (kit_ty (by decide +kernel)) (fun z => nomatch z) (fun _ => rfl))))) fun _ => vw_or1 (vt_not (vt_lele v_int (v_len T.n_len (VX.seq (v_var 0) (sq_of ha))) (v_num T.i_MOST_SIZES)))))
      (fun hb => w_ret v_bl fun H1 e1 => hQ _ _ e1 ?_) fun hb => ?_)
    · rw [hlen] at hb
      show V.bl _ = V.bl _
      unfold sizesB
      simp at hb
      congr 1
      symm
      simp
      intro h1 h2
      omega
    rw [hlen] at hb
    simp at hb
    refine w_when (vt_not (vt_val (v_all rfl T.n_all (VL.seq (VL.is (vl_map (zs := ns) (f := fun n => V.int ((n : Nat) : Int)) (g' := fun n => .bl (decide ((1 : Int) ≤ (n : Int)) && decide ((n : Int) ≤ 1000))) (j := 1) (own := [("one", 1)]) rfl nd
        ((vi_list (VX.seq (v_var 0) (sq_of ha))).cast (ints_len ns)) (by omega) (blkOk_by (N := N_are_sizes) (sc := defScope d_are_sizes.st) (by decide +kernel)) (fun _ _ _ _ _ => pg_name (i := 1) nd rfl (Or.inl rfl)) (fun _ => rfl)
        (fun s H0 C cl fp z _ => v_call (((z : Int), 1, 1000) : Int × Int × Int) (c_is_count T) hr (by decide) T.g_is_count (va_cons (v_var 1) (va_cons v_int (va_one (v_num T.i_MOST_ROOM)))) fun _ _ => trivial))
        (ys := (ns.map fun n : Nat => (decide ((1 : Int) ≤ (n : Int)) && decide ((n : Int) ≤ 1000))).map V.bl) (by rw [List.map_map] <;> rfl)))))) (fun hb2 => w_ret v_bl fun H1 e1 => hQ _ _ e1 ?_) fun hb2 => ?_
    · show V.bl _ = V.bl _
      congr 1
      symm
      unfold sizesB
      have e : (ns.all fun b => decide (1 ≤ b) && decide (b ≤ 1000)) = false := by
        rw [← Bool.not_eq_true]
        intro hall
        rw [List.all_eq_true] at hall
        simp at hb2
        obtain ⟨x, hx, h2⟩ := hb2
        have := hall x hx
        simp at this
        omega
      rw [e]
      simp
    · have hall : (ns.all fun b => decide (1 ≤ b) && decide (b ≤ 1000)) = true := by
        simp at hb2
        rw [List.all_eq_true]
        intro x hx
        have := hb2 x hx
        simp
        omega
      refine w_ret (v_eq (v_lenD (n := ns.length) T.n_len (vr_dc (zs := ns) (j := 1) (own := [("one", 1)]) (w0 := .int 1) rfl nd ((vi_list (VX.seq (v_var 0) (sq_of ha))).cast (ints_len ns)) hnd (by omega) (blkOk_by (N := N_are_sizes) (sc := defScope d_are_sizes.st) (by decide +kernel)) (fun _ _ _ _ _ => pg_name (i := 1) nd rfl (Or.inl rfl)) (fun _ => rfl)
        (fun s H0 C cl fp z => v_var 1) (fun s H0 C cl fp z => v_int)) fun v H1 H2 r => r) (v_len T.n_len (VX.seq (v_var 0) (sq_of ha))) rfl) fun H1 e1 => hQ _ _ e1 ?_
      show V.bl _ = V.bl _
      rw [sizesB, hall, ints_len]
      congr 1
      simp
      omega
/-! ### are_weights -/
abbrev N_are_weights : List Str := ["value", "size"]
theorem s_are_weights : FnScope N_are_weights ["value"] (defScope d_are_weights.st) := C8.fnScope_by (by decide +kernel)
/-- at d: the dict of these rows -/
def IsDict (rows : List (Nat × Nat)) (d : Addr) (H : Hp) : Prop := H d = some (.dK (kvsOf rows)) ∧ (rows.map (·.1)).Nodup ∧ rows.length ≤ 20000
theorem IsDict.ex {rows : List (Nat × Nat)} {d : Addr} {H H' : Hp} (e : Ex H H') (h : IsDict rows d H) : IsDict rows d H' := ⟨e _ _ h.1, h.2⟩
abbrev SpAreWeights : Sp := SpR (fun a : Addr × List (Nat × Nat) => [.ref a.1]) (fun a H => IsDict a.2 a.1 H) (fun a v _ _ => v = .bl (weightsOk a.2))
theorem c_are_weights (T : Tx K mg) : CalX P w K mg base CX0 3 d_are_weights ["value"] SpAreWeights := by
  refine CalX.of0 (f_are_weights T) b_are_weights s_are_weights (fun vs H Q E h => ?_) (fun cdv A outer s H vs Q E hr h => ?_)
  · obtain ⟨a, rfl, _⟩ := h
    rfl
  · obtain ⟨⟨d, rows⟩, rfl, ⟨hd, hnd, hz⟩, hQ⟩ := h
    have hz : rows.length ≤ 20000 := hz
    have nd := s_are_weights.nd
    have hnd' : (rows.map (·.1)).Nodup := hnd
    refine WS.here (w_when (VW.t (vw_or (vt_not (vt_val (v_isi (k := true) T.n_isinstance (v_var 0) (v_ty T.n_dict (by decide +kernel)) (.ty "dict") (fun H1 e1 => .base (.dK (e1 _ _ hd))) (kit_ty (by decide +kernel))))) fun _ => vw_or1 (vt_not (vt_val (VR.val (vr_callR (R' := fun v _ _ => v = .bl (sizesB (rows.map (·.1)))) (c_are_sizes T) hr (by decide) T.g_are_sizes (var_one (VL.rel (VL.is (vl_listD rfl T.n_list (v_var 0) hd) (ys := ints_ (rows.map (·.1))) (by rw [keys_rows, ints_, List.map_map] <;> rfl)))) fun vs H1 H2 e1 e2 r => ?_))))))
      (fun hb => w_ret v_bl fun H1 e1 => hQ _ _ e1 ?_) fun hb => ?_)
    · obtain ⟨v, rfl, p, rfl, hp, h2⟩ := r
      exact ⟨(p, rows.map (·.1)), rfl, ⟨h2, hnd', by show (rows.map (·.1)).length ≤ 20000; rw [List.length_map]; exact hz⟩, fun v H3 e r => r⟩
    · have hs : sizesB (rows.map (·.1)) = false := by simpa using hb
      show V.bl _ = V.bl _
      congr 1
      symm
      rw [← Bool.not_eq_true] at hs ⊢
      intro h
      apply hs
      unfold weightsOk at h
      unfold sizesB
      rw [List.length_map, List.all_map]
      simp only [Bool.and_eq_true] at h ⊢
      refine ⟨h.1, ?_⟩
      rw [List.all_eq_true]
      intro p hp
      have := List.all_eq_true.mp h.2 p hp
      unfold rowOk at this
      rw [Bool.and_eq_true] at this
      exact this.1
    · have hs : sizesB (rows.map (·.1)) = true := by simpa using hb
      refine w_ret (v_all rfl T.n_all (VL.seq (VL.is (vl_lock hd fun od => vl_map (zs := rows) (f := fun p => V.int ((p.1 : Nat) : Int)) (g' := fun p => .bl (decide ((0 : Int) ≤ (p.2 : Int)) && decide ((p.2 : Int) ≤ 1000))) (j := 1) (own := [("size", 1)]) rfl nd
        (vi_rows (v_var 0) upd_same) (by omega) (blkOk_by (N := N_are_weights) (sc := defScope d_are_weights.st) (by decide +kernel)) (fun _ _ _ _ _ => pg_name (i := 1) nd rfl (Or.inl rfl)) (fun _ => rfl)
        (fun s H0 C cl fp p hp => v_call (((p.2 : Int), 0, 1000) : Int × Int × Int) (c_is_count T) hr (by decide) T.g_is_count (va_cons (v_dget (hu_of hr) (v_var 0) (v_var 1) (.inr ⟨od, upd_same⟩) (lookup_mem hnd' p hp)) (va_cons v_int (va_one (v_num T.i_MOST_WEIGHT)))) fun _ _ => trivial))
        (ys := (rows.map fun p : Nat × Nat => decide (p.2 ≤ 1000)).map V.bl) (by
          rw [List.map_map]
          refine List.map_congr_left fun p _ => ?_
          show V.bl (decide ((0 : Int) ≤ (p.2 : Int)) && decide ((p.2 : Int) ≤ 1000)) = V.bl (decide (p.2 ≤ 1000))
          congr 1
          rw [Bool.eq_iff_iff]
          simp
          omega)))) fun H1 e1 => hQ _ _ e1 ?_
      show V.bl _ = V.bl _
      congr 1
      unfold sizesB at hs
      unfold weightsOk
      rw [List.length_map, Bool.and_eq_true, List.all_map] at hs
      rw [hs.1, Bool.true_and, List.all_map, Bool.eq_iff_iff, List.all_eq_true, List.all_eq_true]
      constructor
      · intro h p hp
        have h1 := h p hp
        have h2 := List.all_eq_true.mp hs.2 p hp
        unfold rowOk
        rw [Bool.and_eq_true]
        exact ⟨h2, h1⟩
      · intro h p hp
        have h1 := h p hp
        unfold rowOk at h1
        rw [Bool.and_eq_true] at h1
        exact h1.2
/-! ### check_weights -/
theorem s_check_weights : FnScope ["value"] ["value"] (defScope d_check_weights.st) := C8.fnScope_by (by decide +kernel)
abbrev SpCheckWeights (K : PySem.W.Frag) : Sp := SpX (fun a : Addr × List (Nat × Nat) => [.ref a.1]) (fun a H => IsDict a.2 a.1 H) (fun a v _ _ => v = .non ∧ weightsOk a.2 = true) (fun a c d _ _ => weightsOk a.2 = false ∧ c = .ref (ga K "BadArgument"))
theorem c_check_weights (T : Tx K mg) : CalX P w K mg base (L2N.CX P w) 4 d_check_weights ["value"] (SpCheckWeights K) := by
  refine CalX.ofX (f_check_weights T) b_check_weights s_check_weights (fun vs H Q E h => ?_) (fun cdv A outer s H vs Q E hr h => ?_)
  · obtain ⟨a, rfl, _⟩ := h
    rfl
  · obtain ⟨⟨d, rows⟩, rfl, hd, hQ, hE⟩ := h
    refine WS.here (w_when (vt_not (vt_val (v_call (d, rows) (c_are_weights T) hr (by decide) T.g_are_weights (va_one (v_var 0)) fun H1 e1 => hd.ex e1))) (fun hb => w_raiseN (d := d_BadArgument_init) (L2N.takes_of rfl rfl rfl rfl) (T.oex "BadArgument" (by decide +kernel)) (T.ini "BadArgument" (by decide +kernel)) (c_BadArgument_init T) hr (by decide) T.g_BadArgument (v_var 0) fun dd H2 _ e2 _ => hE _ _ H2 e2 ⟨?_, rfl⟩) fun hb => w_nil fun H1 e1 => hQ _ _ e1 ⟨rfl, ?_⟩)
    · simpa using hb
    · simpa using hb
/-! ### in_order -/
abbrev N_in_order : List Str := ["sizes", "size"]
theorem s_in_order : FnScope N_in_order ["sizes"] (defScope d_in_order.st) := C8.fnScope_by (by decide +kernel)
abbrev SpInOrder : Sp := SpR (fun a : Addr × List (Nat × Nat) => [.ref a.1]) (fun a H => IsDict a.2 a.1 H) (fun a => isNewL (ints_ (srtN (a.2.map (·.1)))))
theorem c_in_order (T : Tx K mg) : CalX P w K mg base CX0 1 d_in_order ["sizes"] SpInOrder := by
  refine CalX.of0 (f_in_order T) b_in_order s_in_order (fun vs H Q E h => ?_) (fun cdv A outer s H vs Q E hr h => ?_)
  · obtain ⟨a, rfl, _⟩ := h
    rfl
  · obtain ⟨⟨d, rows⟩, rfl, ⟨hd, hnd, hz⟩, hQ⟩ := h
    have hz : rows.length ≤ 20000 := hz
    have nd := s_in_order.nd
    exact WS.here (w_retL (vl_sortedN T.n_sorted (VL.seq (VL.is (vl_lock hd fun od => vl_map (zs := rows) (f := fun p => V.int ((p.1 : Nat) : Int)) (g' := fun p => V.int ((p.1 : Nat) : Int)) (j := 1) (own := [("size", 1)]) rfl nd
        (vi_rows (v_var 0) upd_same) (by omega) (blkOk_by (N := N_in_order) (sc := defScope d_in_order.st) (by decide +kernel)) (fun _ _ _ _ _ => pg_name (i := 1) nd rfl (Or.inl rfl)) (fun _ => rfl)
        (fun s H0 C cl fp p hp => v_intI T.n_int (v_var 1))) (ys := ints_ (rows.map (·.1))) (by rw [ints_, List.map_map] <;> rfl)))) fun p H2 hp e2 h2 => hQ _ _ e2 ⟨p, rfl, hp, h2⟩)
end
end K75
/-! the defs: weights_text, read_weights -/
namespace K75
open PySem PySem.Spec PyProof.Rows L2 Evl He
section
variable {X : Cx} {W : WX} {e : Expr} {es : List Expr} {σ : L2.St} {H : Hp} {x : Str} {p pos : Pos} {d : Df} {k j : Nat} {ps : List Str}
/-- the call of a def that may raise, its arguments told by a relation -/
theorem vx_callXR {α : Type} {f : α → List V} {pre : α → Hp → Prop} {R : α → V → Hp → Hp → Prop} {B : α → Value → Option Addr → Hp → Hp → Prop} {Ra : List V → Hp → Hp → Prop} {R' : V → Hp → Hp → Prop} {B' : Value → Option Addr → Hp → Hp → Prop} {CX : CXT} (cd : CalX X.prog X.w X.K X.mg X.base CX k d ps (SpX f pre R B)) (hr : Room j X.A) (hk : k ≤ j)
    (hm : X.mg x = some (.ref (d.ad X.K))) (hx : ∀ σ, PassesAt CX X σ (WE W σ)) (ha : VAR X (e :: es) σ H Ra) (hp : ∀ vs H1 H2, Ex H H1 → Ex H1 H2 → Ra vs H1 H2 → ∃ a, vs = f a ∧ pre a H2 ∧ (∀ v H3, Ex H2 H3 → R a v H2 H3 → R' v H1 H3) ∧ ∀ c d H3, Ex H2 H3 → B a c d H2 H3 → B' c d H1 H3)
    (hg : Gl X x := by rfl) (hdb : (x == ("__debug__" : Str)) = false := by decide) (he : starEach (e :: es) X.env = (false, eval e X.env) :: starEach es X.env := by rfl) (hpl : (backTo pos (starEach es X.env)).any (·.1) = false := by rfl) : VXX X W (.Call (.Name x p) (e :: es) [] pos) σ H R' B' := fun H1 e1 Q q qb =>
  we_of (pe_cX cd hr hk hm hx pa_w hg hdb he hpl) (ha H1 e1 _ fun vs H2 e2 r => by
    obtain ⟨a, ea, hpre, h1, h2⟩ := hp vs H1 H2 e1 e2 r
    exact ⟨a, by rw [List.append_nil]; exact ea, hpre, fun v H3 e3 r' => q v H3 (e2.trans e3) (h1 v H3 e3 r'), fun c d H3 e3 b => qb c d H3 (e2.trans e3) (h2 c d H3 e3 b)⟩)
/-- the call of a def that might raise but does not -/
theorem v_callN {α : Type} {f : α → List V} {pre : α → Hp → Prop} {R : α → V → Hp → Hp → Prop} {B : α → Value → Option Addr → Hp → Hp → Prop} {g : V} (a : α) (cd : CalX X.prog X.w X.K X.mg X.base (L2N.CX X.prog X.w) k d ps (SpX f pre R B)) (hr : Room j X.A) (hk : k ≤ j) (hm : X.mg x = some (.ref (d.ad X.K))) (ha : VA X (e :: es) σ H (f a))
    (hp : ∀ H1, Ex H H1 → pre a H1) (hR : ∀ v H1 H2, R a v H1 H2 → v = g) (hB : ∀ c d H1 H2, ¬ B a c d H1 H2) (hg : Gl X x := by rfl) (hdb : (x == ("__debug__" : Str)) = false := by decide) (he : starEach (e :: es) X.env = (false, eval e X.env) :: starEach es X.env := by rfl) (hpl : (backTo pos (starEach es X.env)).any (·.1) = false := by rfl) :
    VX X (.Call (.Name x p) (e :: es) [] pos) σ H g := by
  obtain ⟨fd, F, b, G⟩ := cd.ex
  exact v_of (pe_call G (hr.mono hk) hg hm F.kp b .nil passLN pa_w hdb he hpl) fun H1 e1 Q q => ha H1 e1 _ fun H2 e2 => ⟨a, List.append_nil _, hp H2 (e1.trans e2), fun v H3 e3 r => by
    rw [hR v H2 H3 r]
    exact q H3 (e2.trans e3), fun c d H3 e3 b' => hB c d H2 H3 b'⟩
end
theorem keeps_put {H H1 : Hp} {d : Addr} {k0 k1 : List (Key × V)} (hd : H d = some (.dK k0)) (e : Ex H H1) : Keeps H (upd H1 d (.dK k1)) := fun b u hb hu => by
  have hne : b ≠ d := fun z => by
    subst z
    rw [hd] at hb
    cases hb
    exact hu k0 rfl
  rw [upd_ne hne]
  exact e _ _ hb
theorem dictOf_snoc (done : List (Nat × Nat)) (p : Nat × Nat) : dictOf (done ++ [p]) = putR p (dictOf done) := by
  unfold dictOf
  rw [List.foldl_append] <;> rfl
theorem putR_len (p : Nat × Nat) : ∀ d : List (Nat × Nat), (putR p d).length ≤ d.length + 1
  | [] => by simp [putR]
  | q :: r => by
    rw [putR]
    split
    · simp
    · have := putR_len p r
      simp only [List.length_cons]
      omega
theorem dictOf_len (rows : List (Nat × Nat)) : (dictOf rows).length ≤ rows.length := by
  have key : ∀ (rows d : List (Nat × Nat)), (rows.foldl (fun d p => putR p d) d).length ≤ d.length + rows.length := by
    intro rows
    induction rows with
    | nil =>
      intro d
      simp
    | cons p r ih =>
      intro d
      have h1 := ih (putR p d)
      have h2 := putR_len p d
      simp only [List.foldl_cons, List.length_cons]
      omega
  have := key rows []
  simp only [List.length_nil] at this
  unfold dictOf
  omega
theorem readRows_cons {i : Nat} {l : List Nat} {r : List (List Nat)} : readRows i (l :: r) = match numsOf l wSize with
    | some [s, w] => (match readRows (i + 1) r with
      | .inr rows => .inr ((s, w) :: rows)
      | .inl k => .inl k)
    | _ => .inl i := rfl
section
variable {P : Program} {w : World} {K : PySem.W.Frag} {mg : Str → Option Value} {base : Heap}
/-! ### weights_text -/
abbrev N_weights_text : List Str := ["weights", "size"]
theorem s_weights_text : FnScope N_weights_text ["weights"] (defScope d_weights_text.st) := C8.fnScope_by (by decide +kernel)
/-- the rows by rising sizes -/
def inOrder (rows : List (Nat × Nat)) : List (Nat × Nat) := rowsOf rows (srtN (rows.map (·.1)))
abbrev SpWeightsText : Sp := SpR (fun a : Addr × List (Nat × Nat) => [.ref a.1]) (fun a H => IsDict a.2 a.1 H ∧ weightsOk a.2 = true) (fun a v _ _ => v = .str (SX.S (weightsT (inOrder a.2))))
theorem rowT_len {p : Nat × Nat} (h1 : p.1 < 1000000) (h2 : p.2 < 1000000) : (rowT p).length ≤ 200000 := lineT_len (by decide) ⟨by show 2 ≤ 20000; decide, fun n hn => by
  simp only [List.mem_cons, List.not_mem_nil, or_false] at hn
  rcases hn with e | e <;> subst e
  · exact h1
  · exact h2⟩
theorem c_weights_text (T : Tx K mg) : CalX P w K mg base CX0 5 d_weights_text ["weights"] SpWeightsText := by
  refine CalX.of0 (f_weights_text T) b_weights_text s_weights_text (fun vs H Q E h => ?_) (fun cdv A outer s H vs Q E hr h => ?_)
  · obtain ⟨a, rfl, _⟩ := h
    rfl
  · obtain ⟨⟨d, rows⟩, rfl, ⟨hD, hok⟩, hQ⟩ := h
    have hD : IsDict rows d H := hD
    have hok : weightsOk rows = true := hok
    obtain ⟨hd, hnd, hz⟩ := id hD
    have nd := s_weights_text.nd
    have hrow : ∀ p ∈ rows, p.1 < 1000000 ∧ p.2 < 1000000 := fun p hp => by
      unfold weightsOk at hok
      rw [Bool.and_eq_true] at hok
      have := List.all_eq_true.mp hok.2 p hp
      unfold rowOk at this
      simp only [Bool.and_eq_true, decide_eq_true_eq] at this
      omega
    have h30 : rows.length ≤ 30 := by
      unfold weightsOk at hok
      simp only [Bool.and_eq_true, decide_eq_true_eq] at hok
      exact hok.1.2
    have hks : (srtN (rows.map (·.1))).length = rows.length := by rw [(srtN_perm _).length_eq, List.length_map]
    have hkey : ∀ z ∈ srtN (rows.map (·.1)), ∃ p ∈ rows, p.1 = z ∧ rows.lookup z = some p.2 ∧ atK rows z = p.2 := fun z hz' => by
      obtain ⟨p, hp, rfl⟩ := List.mem_map.mp ((srtN_perm _).mem_iff.mp hz')
      have hl := lookup_mem hnd p hp
      exact ⟨p, hp, rfl, hl, by rw [atK, hl] <;> rfl⟩
    refine WS.here (w_do (v_callN (d, rows) (c_check_weights T) hr (by decide) T.g_check_weights (va_one (v_var 0)) (fun H1 e1 => hD.ex e1) (fun v H1 H2 r => r.1) (fun c dd H1 H2 r => by
      have := r.1
      rw [hok] at this
      cases this)) ?_)
    refine w_ret (v_join (ts := wWeights :: (inOrder rows).map rowT) (v_lit (t := [10]) (by decide +kernel)) (VL.seq (VL.is (vl_disp (va_cons (v_lit (t := wWeights) (by decide +kernel)) (va_star (VL.seq (vl_map (zs := srtN (rows.map (·.1))) (f := fun n => V.int ((n : Nat) : Int)) (g' := fun s => V.str (SX.S (rowT (s, atK rows s)))) (j := 1) (own := [("size", 1)]) rfl nd
      ((vi_list (VL.seq (VR.lst (vr_call (d, rows) (c_in_order T) hr (by decide) T.g_in_order (va_one (v_var 0)) (fun H1 e1 => hD.ex e1) fun _ _ _ _ => new_back)))).cast (ints_len _)) (by rw [hks]; omega) (blkOk_by (N := N_weights_text) (sc := defScope d_weights_text.st) (by decide +kernel)) (fun _ _ _ _ _ => pg_name (i := 1) nd rfl (Or.inl rfl)) (fun _ => rfl)
      (fun s H0 C cl fp z hz' => ?_))) va_nil)) ?_) ?_)) ?_) fun H1 e1 => hQ _ _ e1 rfl
    · obtain ⟨p, hp, rfl, hl, ha⟩ := hkey z hz'
      refine VR.val (vr_callR (R' := fun v _ _ => v = .str (SX.S (rowT (p.1, atK rows p.1)))) (c_line_of T) hr (by decide) T.g_line_of (var_cons (v_lit (t := wSize) (by decide +kernel)).rel (var_one (VL.rel (xs := ints_ [p.1, p.2]) (vl_disp (va_cons (v_var 1) (va_one (v_dget (hu_of hr) (v_var 0) (v_var 1) (.inl hd) hl))) (by show 2 ≤ 1000000; decide))))) fun vs H1 H2 e1 e2 r => ?_)
      obtain ⟨v, vs', H3, rfl, e3, e4, rfl, u, rfl, q, rfl, hq, h2⟩ := r
      refine ⟨(wSize, q, [p.1, p.2]), rfl, ⟨h2, (by show wSize.length ≤ 100; decide), by show 2 ≤ 20000; decide, fun n hn => ?_⟩, fun v H3 e r => ?_⟩
      · simp only [List.mem_cons, List.not_mem_nil, or_false] at hn
        rcases hn with e | e <;> subst e
        · exact (hrow p hp).1
        · exact (hrow p hp).2
      · rw [r, ha] <;> rfl
    · simp only [List.length_cons, List.length_append, List.length_map, List.length_nil, hks]
      omega
    · rw [List.append_nil, txts, List.map_cons, inOrder, rowsOf, List.map_map, List.map_map] <;> rfl
    · have hle : ∀ z ∈ (inOrder rows).map rowT, z.length ≤ 200000 := fun z hz' => by
        obtain ⟨p, hp, rfl⟩ := List.mem_map.mp hz'
        obtain ⟨s, hs, rfl⟩ := List.mem_map.mp hp
        obtain ⟨q, hq, rfl, _, ha⟩ := hkey s hs
        exact rowT_len (hrow q hq).1 (by show atK rows q.1 < 1000000; rw [ha]; exact (hrow q hq).2)
      have hs := sumL_le hle
      unfold sumL at hs
      rw [List.length_map, inOrder, rowsOf, List.length_map, hks] at hs
      simp only [List.map_cons, List.sum_cons, List.length_cons, List.length_map, List.length_nil]
      rw [inOrder, rowsOf, List.length_map, hks]
      have : wWeights.length = 7 := rfl
      omega
end
end K75
/-! the defs: read_weights -/
namespace K75
open PySem PySem.Spec PyProof.Rows L2 Evl He
theorem readRows_bad {i : Nat} {l : List Nat} {r : List (List Nat)} (h : ∀ s w, numsOf l wSize ≠ some [s, w]) : readRows i (l :: r) = .inl i := by
  rw [readRows_cons]
  split
  · rename_i s w e
    exact absurd e (h s w)
  · rfl
theorem readRows_good {i s w : Nat} {l : List Nat} {r : List (List Nat)} (h : numsOf l wSize = some [s, w]) : readRows i (l :: r) = match readRows (i + 1) r with
    | .inr rows => .inr ((s, w) :: rows)
    | .inl k => .inl k := by
  rw [readRows_cons, h] <;> rfl
section
variable {P : Program} {w : World} {K : PySem.W.Frag} {mg : Str → Option Value} {base : Heap}
abbrev N_read_weights : List Str := ["text", "lines", "found", "number", "line", "told", "fault"]
theorem s_read_weights : FnScope N_read_weights ["text"] (defScope d_read_weights.st) := C8.fnScope_by (by decide +kernel)
abbrev SpReadWeights (K : PySem.W.Frag) : Sp := SpX (fun a : Txt0 => [a.v]) (fun a H => a.ok K H) (fun a v _ H2 => ∃ rows x, resOf readWeights a = .weights (inOrder rows) ∧ v = .ref x ∧ IsDict rows x H2) (fun a => BadOf K (resOf readWeights a))
theorem c_read_weights (T : Tx K mg) : CalX P w K mg base (L2.CX P w) 6 d_read_weights ["text"] (SpReadWeights K) := by
  refine CalX.ofX (f_read_weights T) b_read_weights s_read_weights (fun vs H Q E h => ?_) (fun cdv A outer s H vs Q E hr h => ?_)
  · obtain ⟨a, rfl, _⟩ := h
    rfl
  · obtain ⟨a, rfl, ha, hQ, hE⟩ := h
    have nd := s_read_weights.nd
    have tk : L2.Takes (CxX (L2.CX P w) P w K mg base d_read_weights N_read_weights cdv A outer s H E) (fun cls d _ H => E cls d H) := L2.takes_of rfl rfl rfl rfl
    refine WS.here (w_setX 1 nd (vx_callX a (c_lines_of T) hr (by decide) T.g_lines_of (fun σ => L2.passAt tk σ) (va_one (v_var 0)) (fun H1 e1 => ha.ex e1) (fun v H1 H2 H3 e r => ?_) (fun c d H1 H2 H3 e r => ⟨r.1, r.2.back e⟩)) (fun v H1 H2 e1 e2 r => ?_) fun c d H1 H2 e1 e2 r => ?_)
    · obtain ⟨l, e1, r⟩ := r
      exact ⟨l, e1, new_back e r⟩
    · obtain ⟨l, rfl, p, rfl, hp0, hp⟩ := r
      have ha : l.length ≤ 5000 := ha
      obtain ⟨u, us, hl⟩ := lines_cons l
      rw [hl] at hp
      have hmem : ∀ z ∈ us, z.length ≤ 5000 := fun z hz => Nat.le_trans (lines_le l z (by rw [hl]; exact List.mem_cons_of_mem _ hz)) ha
      have hcount : us.length ≤ 5000 := by
        have := lines_len l
        rw [hl, List.length_cons] at this
        omega
      have hq : SqL K H2 p (txts (u :: us)) := sq_of hp
      have eH := e1.trans e2
      refine w_doX (vx_callXR (Ra := fun ws H1 H3 => ∃ v vs H2, ws = v :: vs ∧ Ex H1 H2 ∧ Ex H2 H3 ∧ v = .int ((0 : Nat) : Int) ∧ ∃ v2 vs2 H4, vs = v2 :: vs2 ∧ Ex H2 H4 ∧ Ex H4 H3 ∧ isNewL [] v2 H2 H4 ∧ ∃ v3, vs2 = [v3] ∧ v3 = .bl (decide (u = wWeights)))
        (R' := fun _ _ _ => u = wWeights) (B' := fun c d H1 H2 => ¬ u = wWeights ∧ IsBad K (.int ((0 : Nat) : Int)) c d H1 H2) (c_check_line T) hr (by decide) T.g_check_line (fun σ => L2.passAt tk σ) (var_cons (VX.rel (v := .int ((0 : Nat) : Int)) v_int) (var_cons (VL.rel (xs := []) (vl_disp va_nil (Nat.zero_le _))) (var_one (v_eqS (v_ixN (i := 0) (VX.seq (v_var 1) hq) v_int rfl) (v_lit (t := wWeights) (by decide +kernel))).rel))) fun vs H3 H4 e3 e4 r => ?_)
        (fun v H3 H4 e3 e4 r => ?_) fun c d H3 H4 e3 e4 r => hE _ _ _ (eH.trans (e3.trans e4)) ⟨some 0, ?_, r.2.back (eH.trans e3)⟩
      · obtain ⟨_, _, H5, rfl, e5, e6, rfl, _, _, H6, rfl, e7, e8, ⟨q, rfl, hq0, hq1⟩, _, rfl, rfl⟩ := r
        refine ⟨((0 : Nat), V.ref q, decide (u = wWeights)), rfl, trivial, fun v H7 e r => ?_, fun c d H7 e r => ⟨?_, r.2.back e4⟩⟩
        · exact of_decide_eq_true r.2.2
        · rcases r.1 with z | z
          · cases z
          · exact of_decide_eq_false z
      · have hu : u = wWeights := r
        subst hu
        have eH4 := eH.trans (e3.trans e4)
        have hp4 : H4 p = some (.lst (txts (wWeights :: us))) := (e3.trans e4) _ _ hp
        have hread : readWeights (linesOf l) = match readRows 1 us with
            | .inl i => .line (some i)
            | .inr rows => if rows = [] then .line (some 1) else if rowsOk rows = true ∧ weightsT rows = l then .weights rows else .line none := by
          unfold readWeights
          rw [lines_join, hl, List.headD_cons, List.tail_cons, if_neg (fun z => z rfl)] <;> rfl
        -- found = {}
        refine w_cons (ps_set (i := 2) nd rfl (Or.inl rfl) pe_dnewK) fun H5 e5 d hd0 => ?_
        have hd0' : H4 d = none := fresh_back e5 hd0
        have e45 : Ex H4 (upd H5 d (.dK [])) := e5.trans (Ex.new hd0)
        refine WS.here (w_for (N := us.length) (Y := YPair (fun i => some (.int ((1 + i : Nat) : Int))) (fun i => (txts us)[i]?)) ((vi_enumF (k := 1) T.n_enumerate (VL.seq (VL.is (vl_from (k := 1) (VX.seq (v_var 1) (sq_of (e45 _ _ hp4))) v_int) (txts_drop 1 (wWeights :: us)))) v_int (by decide)).cast (txts_len _))
          (pg_tup rfl (pgs_cons (pg_name (i := 3) nd rfl (Or.inl rfl)) (pgs_cons (pg_name (i := 4) nd rfl (Or.inl rfl)) pgs_nil)))
          (fun i σ' H' => ∃ (done : List (Nat × Nat)) (x3 x4 x5 : Option V), σ' = [some (.str (SX.S l)), some (.ref p), some (.ref d), x3, x4, x5, none] ∧ Ex H4 H' ∧ H' d = some (.dK (kvsOf (dictOf done))) ∧ done.length = i ∧ readRows 1 us = (match readRows (i + 1) (us.drop i) with
            | .inr rows => .inr (done ++ rows)
            | .inl k => .inl k))
          (fun H10 e10 => ⟨[], none, none, none, rfl, e45.trans e10, e10 _ _ upd_same, rfl, ?_⟩) (fun G hG i x σ' H10 H11 hi hP gG hY => ?_) (fun σ' H10 hP => ?_) PassesOwn.leaving)
        · rw [List.drop_zero]
          cases readRows 1 us <;> rfl
        · obtain ⟨done, x3, x4, x5, rfl, e410, hd, hlen2, hrd⟩ := hP
          have hgi : us[i]? = some us[i] := List.getElem?_eq_getElem hi
          have eY := YPair.ex hY
          refine pair_go hY rfl (show (txts us)[i]? = some (.str (SX.S us[i])) by rw [txts, List.getElem?_map, hgi] <;> rfl) (WS.here ?_)
          rw [List.drop_eq_getElem_cons hi] at hrd
          have hli : us[i].length ≤ 5000 := hmem _ (List.getElem_mem hi)
          have e411 := e410.trans eY
          have eH11 := eH4.trans e411
          refine w_setR 5 nd (vr_call (us[i], wSize) (c_numbers_of T) hr (by decide) T.g_numbers_of (va_cons (v_var 4) (va_one (v_lit (t := wSize) (by decide +kernel)))) (fun _ _ => Nat.le_trans hli (by decide)) fun v H1 H2 H3 e r => isNums_back e r) fun v H12 H13 e12 e13 r => ?_
          have r : isNums (numsOf us[i] wSize) v H12 H13 := r
          have e1113 := e12.trans e13
          have eH13 := eH11.trans e1113
          have badi : (∀ s w, numsOf us[i] wSize ≠ some [s, w]) → readWeights (linesOf l) = .line (some (i + 1)) := fun hno => by
            rw [readRows_bad hno] at hrd
            rw [hread, hrd]
          cases hnl : numsOf us[i] wSize with
          | none =>
            rw [hnl] at r
            have r : v = .non := r
            subst r
            refine w_doX (vx_callX ((1 + i : Nat), V.non, false) (c_check_line T) hr (by decide) T.g_check_line (fun σ => L2.passAt tk σ) (va_cons (v_var 3) (va_cons (v_var 5) (va_one (VX.is (x := .bl false) (v_and (l := false) (v_notN (v_var 5)) fun hb => by simp at hb) (by simp))))) (fun _ _ => trivial) (fun v H1 H2 H3 e r => r) (fun c d H1 H2 H3 e r => ⟨r.1, r.2.back e⟩)) (fun v H5 H6 e5 e6 r => absurd rfl r.2.1)
              fun c d H5 H6 e5 e6 r => hE _ _ _ (eH13.trans (e5.trans e6)) ⟨some (i + 1), badi (fun s w e => by rw [hnl] at e; cases e), ?_⟩
            rw [show i + 1 = 1 + i from Nat.add_comm i 1]
            exact r.2.back (eH13.trans e5)
          | some lv =>
            rw [hnl] at r
            obtain ⟨t2, rfl, ht20, ht21⟩ := (show isNewL (ints_ lv) v H12 H13 from r)
            have hlvq : SqL K H13 t2 (ints_ lv) := sq_of ht21
            refine w_doX (vx_callX ((1 + i : Nat), V.ref t2, decide (lv.length = 2)) (c_check_line T) hr (by decide) T.g_check_line (fun σ => L2.passAt tk σ) (va_cons (v_var 3) (va_cons (v_var 5) (va_one (VX.is (x := .bl (decide (lv.length = 2))) (v_and (v_notN (v_var 5)) fun hb => v_one (v_eq (v_len T.n_len (VX.seq (v_var 5) hlvq)) v_int rfl)) ?_)))) (fun _ _ => trivial) (fun v H1 H2 H3 e r => r) (fun c d H1 H2 H3 e r => ⟨r.1, r.2.back e⟩))
              (fun v H14 H15 e14 e15 r => ?_) fun c d H14 H15 e14 e15 r => hE _ _ _ (eH13.trans (e14.trans e15)) ⟨some (i + 1), badi (fun s w e => ?_), ?_⟩
            · rw [ints_len]
              congr 1
              rw [Bool.eq_iff_iff]
              simp
              omega
            · obtain ⟨_, _, hb⟩ := r
              have hb : decide (lv.length = 2) = true := hb
              have hb := of_decide_eq_true hb
              obtain ⟨s0, w0, rfl⟩ : ∃ s0 w0, lv = [s0, w0] := by
                match lv, hb with
                | [a, b], _ => exact ⟨a, b, rfl⟩
              have e1315 := e14.trans e15
              have e1115 := e1113.trans e1315
              have hlv15 : SqL K H15 t2 (ints_ [s0, w0]) := ex_l e1315 hlvq
              have hd15 : H15 d = some (.dK (kvsOf (dictOf done))) := e1115 _ _ (eY _ _ hd)
              refine w_dput (hu_of hr) (v_ixN (i := 1) (VX.seq (v_var 5) hlv15) v_int rfl) (v_var 2) (v_ixN (i := 0) (VX.seq (v_var 5) hlv15) v_int rfl) hd15 (dict_nodup done) (by have := dictOf_len done; omega) fun H16 e16 => w_nil fun H17 e17 => ?_
              have ebase : Ex H4 (upd H16 d (.dK (kvsOf (putR (s0, w0) (dictOf done))))) := Ex.mut ((e411.trans e1115).trans e16) hd0'
              refine ⟨⟨done ++ [(s0, w0)], _, _, _, rfl, ebase.trans e17, ?_, ?_, ?_⟩, hG _ _ (Keeps.of e17) (hG H15 _ (keeps_put hd15 e16) (hG _ _ (Keeps.of (eY.trans e1115)) gG))⟩
              · rw [dictOf_snoc]
                exact e17 _ _ upd_same
              · rw [List.length_append, hlen2] <;> rfl
              · rw [readRows_good hnl] at hrd
                rw [hrd]
                cases readRows (i + 1 + 1) (us.drop (i + 1)) with
                | inl k => rfl
                | inr rows => simp
            · rw [hnl] at e
              cases e
              rcases r.1 with z | z
              · cases z
              · cases z
            · rw [show i + 1 = 1 + i from Nat.add_comm i 1]
              exact r.2.back (eH13.trans e14)
        · obtain ⟨done, x3, x4, x5, rfl, e410, hd, hlen2, hrd⟩ := hP
          rw [List.drop_length] at hrd
          have hrd2 : readRows 1 us = .inr done := by
            rw [hrd]
            show Sum.inr (done ++ []) = _
            rw [List.append_nil]
          have hp10 : SqL K H10 p (txts (wWeights :: us)) := sq_of (e410 _ _ hp4)
          have eH10 := eH4.trans e410
          refine WS.here (w_when (vt_lt (v_len T.n_len (VX.seq (v_var 1) hp10)) v_int) (fun hb => w_raise (d := d_BadText_init) tk (T.oex "BadText" (by decide +kernel)) (T.ini "BadText" (by decide +kernel)) (c_BadText_init T) hr (by decide) T.g_BadText v_int fun dd H11 hdd e11 h11 => hE _ _ H11 (eH10.trans e11) ⟨some 1, ?_, rfl, dd, rfl, fresh_back eH10 hdd, h11⟩) fun hb => ?_)
          · show readWeights (linesOf l) = _
            rw [hread, hrd2]
            dsimp only
            rw [if_pos]
            rw [txts_len, List.length_cons] at hb
            have := of_decide_eq_true hb
            exact List.length_eq_zero_iff.mp (by omega)
          · have hne : done ≠ [] := by
              intro z
              subst z
              simp only [List.length_nil] at hlen2
              rw [txts_len, List.length_cons, ← hlen2] at hb
              cases hb
            have hD10 : IsDict (dictOf done) d H10 := ⟨hd, dict_nodup done, by have := dictOf_len done; omega⟩
            have hprog := weights_prog (ls := linesOf l) (rows := done) (ks := srtN ((dictOf done).map (·.1))) (by rw [hl] <;> rfl) (spl_ne 10 l []) (lines_free l) (by rw [hl]; exact hrd2) hne (srtN_perm _) (srtN_sorted _)
            rw [lines_join] at hprog
            refine w_try T 6 tk nd hr (by decide) (fun W pn xe tkN po hW => ?_) (fun _ => PassesOwnAt.leaving)
            refine w_doX (vx_callX (d, dictOf done) (c_check_weights T) hr (by decide) T.g_check_weights (fun σ => L2N.passAt tkN σ) (va_one (v_var 2)) (fun H1 e1 => hD10.ex e1) (fun v H1 H2 H3 e r => r) (fun c d H1 H2 H3 e r => r)) (fun v H11 H12 e11 e12 r => w_nil fun H13 e13 => WS.here ?_)
              fun c dd H11 H12 e11 e12 r => hW _ _ _ _ (.inr (.inr r.2)) (by show 6 < 7; decide) fun d3 H13 hd3 e13 h13 => hE _ _ H13 ((eH10.trans (e11.trans e12)).trans e13) ⟨none, ?_, rfl, d3, rfl, fresh_back (eH10.trans (e11.trans e12)) hd3, h13⟩
            · have hok : weightsOk (dictOf done) = true := r.2
              have eH13 := eH10.trans ((e11.trans e12).trans e13)
              have hD13 : IsDict (dictOf done) d H13 := hD10.ex ((e11.trans e12).trans e13)
              refine w_when (vt_neS (q := l) (v_call (d, dictOf done) (c_weights_text T) hr (by decide) T.g_weights_text (va_one (v_var 2)) fun H9 e9 => ⟨hD13.ex e9, hok⟩) (v_var 0)) (fun hb => w_raise (d := d_BadText_init) tk (T.oex "BadText" (by decide +kernel)) (T.ini "BadText" (by decide +kernel)) (c_BadText_init T) hr (by decide) T.g_BadText v_non fun dd H14 hdd e14 h14 => hE _ _ H14 (eH13.trans e14) ⟨none, ?_, rfl, dd, rfl, fresh_back eH13 hdd, h14⟩) fun hb => ?_
              · show readWeights (linesOf l) = _
                have hb : (!decide (weightsT (inOrder (dictOf done)) = l)) = true := hb
                rw [← hprog, if_neg]
                rintro ⟨_, h2⟩
                rw [decide_eq_true (show weightsT (inOrder (dictOf done)) = l from h2)] at hb
                cases hb
              · have hb : (!decide (weightsT (inOrder (dictOf done)) = l)) = false := hb
                have hb : weightsT (inOrder (dictOf done)) = l := by simpa using hb
                refine w_ret (v_var 2) fun H14 e14 => hQ _ _ (eH13.trans e14) ⟨dictOf done, d, ?_, rfl, hD13.ex e14⟩
                show readWeights (linesOf l) = _
                rw [← hprog, if_pos ⟨hok, hb⟩] <;> rfl
            · show readWeights (linesOf l) = _
              rw [← hprog, if_neg]
              rintro ⟨h1, _⟩
              have h2 : weightsOk (dictOf done) = false := r.1
              rw [h2] at h1
              cases h1
      · show readWeights (linesOf l) = _
        unfold readWeights
        rw [hl, List.headD_cons, if_pos r.1]
    · exact hE _ _ _ (e1.trans e2) ⟨some 0, by obtain ⟨v, e⟩ := r.1; rw [e]; rfl, r.2.back e1⟩
end
end K75
/-! own words, further: name = [..], pairs stored to cells -/
namespace K75
open PySem PySem.Spec PyProof.Rows L2 Evl He
section
variable {X : Cx} {elt tg iter c : Expr} {ifs : List Expr} {scope : Scope} {own : List (Str × Nat)} {pos spos py : Pos} {σ : L2.St} {H : Hp} {n : Nat} {Y : Nat → Hp → V → Hp → Prop} {xs ys : List V} {rest : List Stmt} {D : Ends} {y : Str}
/-- a comprehension and the list that it makes -/
def LC (X : Cx) (elt tg iter : Expr) (ifs : List Expr) (scope : Scope) (own : List (Str × Nat)) (σ : L2.St) (H : Hp) (ys : List V) : Prop :=
  ∃ (wi : TI) (g : TG) (tt : TT) (te : TE), PI X tg iter wi ∧ (∀ (s : Shared) (H : Hp) (C : Addr) (cl : List (Str × Addr)) (fp : List Addr), PG (X.blk s H scope (compEnvC scope cl C X.env) fp) tg g) ∧ (∀ (s : Shared) (H : Hp) (C : Addr) (cl : List (Str × Addr)) (fp : List Addr), PTs (X.blk s H scope (compEnvC scope cl C X.env) fp) ifs tt) ∧
    (∀ (s : Shared) (H : Hp) (C : Addr) (cl : List (Str × Addr)) (fp : List Addr), PE (X.blk s H scope (compEnvC scope cl C X.env) fp) elt te) ∧ EvL (tLc wi g tt te (own.map (·.2))) σ H ys
theorem LC.is (h : LC X elt tg iter ifs scope own σ H xs) (k : xs = ys) : LC X elt tg iter ifs scope own σ H ys := by
  subst k
  exact h
/-- name = [..] -/
theorem w_setLc (i : Nat) (nd : X.N.Nodup) (h : LC X elt tg iter ifs scope own σ H ys) (ok : BlkOk X.N X.env.scope scope own) (k : ∀ p H2, H p = none → Ex H H2 → H2 p = some (.lst ys) → WS X rest D (σ.set i (some (.ref p))) H2) (hc : X.calm = true := by rfl) (hy : X.N[i]? = some y := by rfl) (hyl : X.env.scope.names.lookup y = some .local := by rfl)
    (hsw : swapsWith (.ListComp elt [⟨tg, iter, ifs, 0⟩] scope pos) (some (.Name y py)) spos.line X.env = pure true := by exact sw_true rfl rfl rfl (by decide +kernel)) (hs : ∀ x, foldedSetIterable iter X.env x = pure x := by intro _; rfl) :
    WS X (.Assign [.Name y py] (.ListComp elt [⟨tg, iter, ifs, 0⟩] scope pos) spos :: rest) D σ H := by
  obtain ⟨wi, g, tt, te, h1, h2, h3, h4, h5⟩ := h
  exact w_cons (ps_setLc hc nd hy hyl hsw h1 ok h2 h3 h4 hs) fun H1 e1 => h5 H1 e1 _ fun p H2 hp e2 hl => (k p H2 (fresh_back e1 hp) (e1.trans e2) hl).here
/-- over the items of a list told by zs -/
theorem lc_map {α : Type} {zs : List α} {f g' : α → V} {j : Nat} (hi : VI X tg iter σ H zs.length (YAt (zs.map f))) (hn : zs.length ≤ 40000)
    (hgT : ∀ (s : Shared) (H : Hp) (C : Addr) (cl : List (Str × Addr)) (fp : List Addr), PG (X.blk s H scope (compEnvC scope cl C X.env) fp) tg (gName j)) (hw : ∀ x, wipe ((wipe σ (own.map (·.2))).set j (some x)) (own.map (·.2)) = wipe σ (own.map (·.2)))
    (he : ∀ (s : Shared) (H0 : Hp) (C : Addr) (cl : List (Str × Addr)) (fp : List Addr) z, z ∈ zs → VX (X.blk s H0 scope (compEnvC scope cl C X.env) fp) elt ((wipe σ (own.map (·.2))).set j (some (f z))) H (g' z)) : LC X elt tg iter [] scope own σ H (zs.map g') := by
  have at1 : ∀ {i : Nat} (hlt : i < zs.length) (h : α → V), atF zs h i = h zs[i] := fun {i} hlt h => by
    unfold atF
    rw [List.getElem?_eq_getElem hlt]
  obtain ⟨wi, hpi, hev⟩ := hi
  refine LC.is ⟨wi, gName j, tYes, bE X scope elt, hpi, hgT, (fun _ _ _ _ _ => pts_nil), (fun s H0 C cl fp => ⟨fun pins s' σ' H' Q I h => h s H0 C cl fp pins s' I⟩), lc_go (f := fun _ => true) (v := atF zs g') (fun i => (wipe σ (own.map (·.2))).set j (some (atF zs f i))) hev (fun _ _ _ _ y => YAt.ex y) hn (fun i _ => hw _) (fun i x H' H'' _ hlt y Q q => ?_) (fun _ _ H1 _ Q q => q H1 (Ex.refl _)) (fun i hlt _ H1 e1 Q q => fun s H0 C cl fp => ?_)⟩ ((given_all fun _ _ => rfl).trans (range_at zs g'))
  · have e1 : x = atF zs f i := by
      have h2 := y.2
      rw [List.getElem?_map, List.getElem?_eq_getElem hlt] at h2
      rw [at1 hlt]
      exact (Option.some.inj h2).symm
    show Q ((wipe σ (own.map (·.2))).set j (some x)) H''
    rw [e1]
    exact q
  · have h1 := he s H0 C cl fp zs[i] (List.getElem_mem hlt)
    rw [← at1 hlt f, ← at1 hlt g'] at h1
    exact h1 H1 e1 Q q
end
section
variable {X : Cx} {a b : Expr} {rest : List Stmt} {σ : L2.St} {H : Hp} {D : Ends} {n m : Str} {pos px py pt pt2 : Pos} {kt k2 : Nat}
/-- x, y = a, b where one of them is a cell: a pair is made and taken apart -/
theorem w_parC {R1 R2' : V → Hp → Hp → Prop} (i j : Nat) (nd : X.N.Nodup) (ha : VR X a σ H R1) (hb : VR X b σ H R2') (k : ∀ v w H1 H2 H3 H4, Ex H H1 → Ex H1 H2 → Ex H2 H3 → Ex H3 H4 → R1 v H1 H2 → R2' w H2 H3 → WS X rest D ((σ.set i (some v)).set j (some w)) H4)
    (hc : X.calm = true := by rfl) (hi : X.N[i]? = some n := by rfl) (hj : X.N[j]? = some m := by rfl) (hx : Loc X.env.scope n := by first | exact Or.inl rfl | exact Or.inr rfl) (hy : Loc X.env.scope m := by first | exact Or.inl rfl | exact Or.inr rfl)
    (hfx : X.fn n = true ∨ X.env.scope.names.lookup n = some .local := by first | exact .inl rfl | exact .inr rfl) (hfy : X.fn m = true ∨ X.env.scope.names.lookup m = some .local := by first | exact .inl rfl | exact .inr rfl)
    (hs : starEach [a, b] X.env = (false, eval a X.env) :: starEach [b] X.env := by rfl) (hs2 : starEach [b] X.env = (false, eval b X.env) :: starEach [] X.env := by rfl)
    (hn : (assignEach [Expr.Name n px, Expr.Name m py] X.env).length = 2 := by rfl) (hst : (assignEach [Expr.Name n px, Expr.Name m py] X.env).findIdx? (·.1) = none := by rfl) (ht1 : PGs X [Expr.Name n px, Expr.Name m py] (gCons (gName i) (gCons (gName j) gNil)))
    (hso : swapsWithSole [.Tuple [.Name n px, .Name m py] kt pt] (.Tuple [a, b] k2 pt2) pos.line X.env = pure false := by rfl) (hsw : swappedStores [.Tuple [.Name n px, .Name m py] kt pt] (.Tuple [a, b] k2 pt2) X.env = pure none := by rfl) :
    WS X (.Assign [.Tuple [.Name n px, .Name m py] kt pt] (.Tuple [a, b] k2 pt2) pos :: rest) D σ H :=
  w_cons (ps_asg (pe_tup (pa_cons pe_w (pa_cons pe_w pa_nil hs2) hs)) (pg_tup hc ht1 hn hst) hso hsw) fun H1 e1 => ha H1 e1 _ fun v H2 e2 r1 => hb H2 (e1.trans e2) _ fun w H3 e3 r2 => ⟨by show 2 ≤ sizeLine; decide, fun t ht => ⟨t, [v, w], rfl, st_of upd_same, rfl, v, [w], rfl, w, [], rfl, rfl, (k v w H1 H2 H3 _ e1 e2 e3 (Ex.new ht) r1 r2).here⟩⟩
end
end K75
/-! the law's defs: _law_number, _law_line, _law_are_bounds, _law_steps_text -/
namespace K75
open PySem PySem.Spec PyProof.Rows L2 Evl He
/-- every sign is one -/
def CpOk (t : List Nat) : Prop := ∀ c ∈ t, c < 1114112
theorem spl_mem (s : Nat) : ∀ (l acc : List Nat), ∀ p ∈ TL.spl [s] 0 acc l, ∀ c ∈ p, c ∈ acc ∨ c ∈ l
  | [], acc, p, hp, c, hc => by
    rw [TL.spl_nil, List.mem_singleton] at hp
    subst hp
    exact .inl hc
  | a :: r, acc, p, hp, c, hc => by
    rw [spl_one] at hp
    dsimp only at hp
    split at hp
    · rcases List.mem_cons.mp hp with h | h
      · subst h
        exact .inl hc
      · rcases spl_mem s r [] p h c hc with z | z
        · cases z
        · exact .inr (List.mem_cons_of_mem _ z)
    · rcases spl_mem s r (acc ++ [a]) p hp c hc with z | z
      · rcases List.mem_append.mp z with z | z
        · exact .inl z
        · rw [List.mem_singleton] at z
          subst z
          exact .inr (List.mem_cons_self ..)
      · exact .inr (List.mem_cons_of_mem _ z)
theorem CpOk.words {l : List Nat} (h : CpOk l) : ∀ p ∈ words l, CpOk p := fun p hp c hc => by
  rcases spl_mem 32 l [] p hp c hc with z | z
  · cases z
  · exact h c z
theorem CpOk.lines {l : List Nat} (h : CpOk l) : ∀ p ∈ linesOf l, CpOk p := fun p hp c hc => by
  rcases spl_mem 10 l [] p hp c hc with z | z
  · cases z
  · exact h c z
theorem dp_strs {K : PySem.W.Frag} {H : Hp} : ∀ ts : List (List Nat), DpAll K H (txts ts) (ts.map fun t => PyData.str (SX.S t))
  | [] => .nil
  | t :: r => .cons (.str _) (dp_strs r)
theorem shk_strs {ts : List (List Nat)} (h : ∀ t ∈ ts, CpOk t) : ShK 1 (.list (ts.map fun t => PyData.str (SX.S t))) := shk_list fun d hd => by
  obtain ⟨t, ht, rfl⟩ := List.mem_map.mp hd
  refine shk_str ?_
  unfold PyData.strOk
  rw [← Array.all_toList, List.all_eq_true]
  intro c hc
  exact decide_eq_true (h t ht c hc)
theorem eqv_list_nil (ds : List PyData) : PyData.eqv (.list ds) (.list []) = decide (ds = []) := by
  cases ds with
  | nil => simp [PyData.eqv, PyData.eqvAll]
  | cons a r => simp [PyData.eqv, PyData.eqvAll]
section
variable {X : Cx} {a b : Expr} {σ : L2.St} {H : Hp} {pos p2 : Pos}
/-- a list of texts != [] -/
theorem vt_neNilS {ts : List (List Nat)} (hu : X.A.units + 64 < cLine) (ha : VS X a σ H (txts ts)) (hc : ∀ t ∈ ts, CpOk t) : VT X (.Compare a [.NotEq] [.List [] p2] pos) σ H (!decide (ts = [])) :=
  (vt_neD hu (VR.imp ha fun v H1 H2 _ _ r => by
    obtain ⟨p, rfl, hp⟩ := r
    exact .lst hp (dp_strs ts)) (VL.dp (vl_disp va_nil (Nat.zero_le _)) .nil) ((shk_strs hc).shaped (by decide)) (ShK.shaped (shk_list (k := 0) fun d hd => nomatch hd) (by decide))).is (by
    rw [eqv_list_nil]
    cases ts <;> simp)
/-- c not in a written text -/
theorem vt_notinS {c : Nat} {z : List Nat} (ha : VX X a σ H (.str (SX.S [c]))) (hb : VX X b σ H (.str (SX.S z))) (hm : behindInMarks .NotIn b = false := by with_unfolding_all rfl) : VT X (.Compare a [.NotIn] [b] pos) σ H (!decide (c ∈ z)) := vt_cmp op_notIn_str ha hb (fun H1 e1 Q q => ⟨SX.S [c], SX.S z, rfl, rfl, by
  rw [SX.in_one]
  exact q H1 (Ex.refl _)⟩) hm
end
section
variable {P : Program} {w : World} {K : PySem.W.Frag} {mg : Str → Option Value} {base : Heap}
/-! ### _law_number -/
abbrev N_law_number : List Str := ["_law_word", "_law_sign"]
theorem s_law_number : FnScope N_law_number ["_law_word"] (defScope d_law_number.st) := C8.fnScope_by (by decide +kernel)
def numV (t : List Nat) : V := if isFig t = true then .int ((val t : Nat) : Int) else .non
abbrev SpLawNumber : Sp := SpR (fun t : List Nat => [.str (SX.S t)]) (fun t _ => t.length ≤ 30000 ∧ CpOk t) (fun t v _ _ => v = numV t)
def digs : List Nat := [48, 49, 50, 51, 52, 53, 54, 55, 56, 57]
theorem mem_digs (c : Nat) : decide (c ∈ digs) = isDig c := by
  rw [Bool.eq_iff_iff, decide_eq_true_eq]
  simp only [digs, List.mem_cons, List.not_mem_nil, or_false, isDig, Bool.and_eq_true, decide_eq_true_eq]
  omega
theorem c_law_number (T : Tx K mg) : CalX P w K mg base CX0 1 d_law_number ["_law_word"] SpLawNumber := by
  refine CalX.of0 (f_law_number T) b_law_number s_law_number (fun vs H Q E h => ?_) (fun cdv A outer s H vs Q E hr h => ?_)
  · obtain ⟨a, rfl, _⟩ := h
    rfl
  · obtain ⟨t, rfl, ⟨hz, hcp⟩, hQ⟩ := h
    have nd := s_law_number.nd
    refine WS.here (w_when (VW.t (vw_or (vt_eqS (q := []) (v_var 0) (v_lit (by decide +kernel))) fun _ => vw_or (vt_gt (v_lenS T.n_len (v_var 0) (by omega)) v_int) fun _ => vw_or1 (vt_neNilS (ts := (t.filter fun c => !isDig c).map fun c => [c]) hr.units (VL.seq (VL.is (vl_filter (zs := t) (p := fun c => !isDig c) (f := fun c => V.str (SX.S [c])) (g' := fun c => V.str (SX.S [c])) (j := 1) (own := [("_law_sign", 1)]) rfl nd
      (VI.sg (f := fun c => V.str (SX.S [c])) (vi_str (v_var 0))) (by omega) (blkOk_by (N := N_law_number) (sc := defScope d_law_number.st) (by decide +kernel)) (fun _ _ _ _ _ => pg_name (i := 1) nd rfl (Or.inl rfl)) (fun _ => rfl)
      (fun s H0 C cl fp c _ => VT.is (vt_notinS (c := c) (z := digs) (v_var 1) (v_lit (by decide +kernel))) (by rw [mem_digs])) (fun s H0 C cl fp c _ _ => v_var 1)) (by rw [txts, List.map_map] <;> rfl))) (fun z hz' => by
        obtain ⟨c, hc, rfl⟩ := List.mem_map.mp hz'
        intro c' hc'
        rw [List.mem_singleton] at hc'
        subst hc'
        exact hcp _ ((List.mem_filter.mp hc).1))))) (fun hb => w_ret v_non fun H1 e1 => hQ _ _ e1 ?_) fun hb => ?_)
    · show V.non = numV t
      unfold numV
      rw [if_neg]
      intro hf
      unfold isFig at hf
      simp only [Bool.and_eq_true, decide_eq_true_eq] at hf
      have h2 : t.filter (fun c => !isDig c) = [] := by
        rw [List.filter_eq_nil_iff]
        intro c hc
        have := List.all_eq_true.mp hf.2 c hc
        rw [this]
        decide
      rw [h2] at hb
      simp at hb
      rcases hb with hb | hb
      · subst hb
        simp at hf
      · omega
    · simp at hb
      obtain ⟨h1, h2, h3⟩ := hb
      have hall : t.all isDig = true := by
        rw [List.all_eq_true]
        exact h3
      have hf : isFig t = true := by
        unfold isFig
        have : 0 < t.length := List.length_pos_iff.mpr h1
        simp only [Bool.and_eq_true, decide_eq_true_eq]
        exact ⟨⟨by omega, by omega⟩, hall⟩
      refine w_ret (v_intS T.n_int (v_var 0) hall h1 (by omega)) fun H1 e1 => hQ _ _ e1 ?_
      show _ = numV t
      unfold numV
      rw [if_pos hf] <;> rfl
/-! ### _law_line -/
abbrev N_law_line : List Str := ["_law_line_here", "_law_word", "_law_words", "_law_numbers_here", "_law_one"]
theorem s_law_line : FnScope N_law_line ["_law_line_here", "_law_word"] (defScope d_law_line.st) := C8.fnScope_by (by decide +kernel)
abbrev SpLawLine : Sp := SpR (fun a : List Nat × List Nat => [.str (SX.S a.1), .str (SX.S a.2)]) (fun a _ => a.1.length ≤ 30000 ∧ CpOk a.1) (fun a => isNums (numsOf a.1 a.2))
theorem inV_nums : ∀ us : List (List Nat), inV .non (us.map numV) = !us.all isFig
  | [] => rfl
  | u :: r => by
    have ih := inV_nums r
    show (eqV (numV u) .non || inV .non (r.map numV)) = _
    rw [ih, List.all_cons]
    unfold numV
    by_cases h : isFig u = true
    · rw [if_pos h, h]
      rfl
    · rw [if_neg h]
      have : isFig u = false := by simpa using h
      rw [this]
      rfl
theorem flat_nums (us : List (List Nat)) : (us.map numV).all flatV = true := by
  rw [List.all_map, List.all_eq_true]
  intro u _
  show flatV (numV u) = true
  unfold numV
  split <;> rfl
theorem c_law_line (T : Tx K mg) : CalX P w K mg base CX0 2 d_law_line ["_law_line_here", "_law_word"] SpLawLine := by
  refine CalX.of0 (f_law_line T) b_law_line s_law_line (fun vs H Q E h => ?_) (fun cdv A outer s H vs Q E hr h => ?_)
  · obtain ⟨a, rfl, _⟩ := h
    rfl
  · obtain ⟨⟨l, word⟩, rfl, ⟨hz, hcp⟩, hQ⟩ := h
    have hz : l.length ≤ 30000 := hz
    have hcp : CpOk l := hcp
    have nd := s_law_line.nd
    obtain ⟨u, us, hw⟩ := words_cons l
    have hsum := spl_sum 32 l
    have hw' : TL.spl [32] 0 [] l = u :: us := hw
    rw [hw'] at hsum
    simp only [sumL, List.map_cons, List.sum_cons, List.length_cons] at hsum
    have hlu : ∀ z ∈ us, z.length ≤ 30000 ∧ CpOk z := fun z hz' => by
      have := sumL_mem hz'
      unfold sumL at this
      exact ⟨by omega, hcp.words z (by rw [hw]; exact List.mem_cons_of_mem _ hz')⟩
    refine WS.here (w_setL 2 nd (VL.is (vl_split (v_var 0) (v_lit (t := [32]) (by decide +kernel)) (by decide) (by omega)) (by rw [hw'])) fun p H1 _ e1 h1 => ?_)
    have hws : SqL K H1 p (txts (u :: us)) := sq_of h1
    refine w_setLc 3 nd (lc_map (zs := us) (f := fun z => V.str (SX.S z)) (g' := numV) (j := 4) (own := [("_law_one", 4)])
      ((vi_list (VL.seq (VL.is (vl_from (k := 1) (VX.seq (v_var 2) hws) v_int) (txts_drop 1 (u :: us))))).cast (txts_len _)) (by omega) (fun _ _ _ _ _ => pg_name (i := 4) nd rfl (Or.inl rfl)) (fun _ => rfl)
      (fun s H0 C cl fp z hz' => v_call z (c_law_number T) hr (by decide) T.g_law_number (va_one (v_var 4)) fun _ _ => hlu z hz')) (blkOk_by (N := N_law_line) (sc := defScope d_law_line.st) (by decide +kernel)) fun q H2 hq e2 h2 => ?_
    have hws2 : SqL K H2 p (txts (u :: us)) := ex_l e2 hws
    by_cases hc : u = word ∧ us.all isFig = true
    · have e : numsOf l word = some (us.map val) := by
        unfold numsOf
        rw [hw]
        dsimp only
        rw [if_pos hc]
      have e5 : us.map numV = ints_ (us.map val) := by
        rw [ints_, List.map_map]
        refine List.map_congr_left fun z hz' => ?_
        unfold numV
        rw [if_pos (List.all_eq_true.mp hc.2 z hz')] <;> rfl
      refine w_ret (v_if (v := .ref q) (VW.t (vw_or (vt_neS (p := u) (q := word) (v_ixN (i := 0) (VX.seq (v_var 2) hws2) v_int rfl) (v_var 1)) fun _ => vw_or1 (vt_in v_non (VX.seq (v_var 3) (sq_of h2)) rfl (flat_nums us)))) (fun hk => ?_) fun _ => v_var 3) fun H3 e3 => hQ _ _ ((e1.trans e2).trans e3) ?_
      · rw [inV_nums, hc.2, hc.1] at hk
        simp at hk
      · show isNums (numsOf l word) _ _ _
        rw [e]
        exact ⟨q, rfl, fresh_back e1 hq, by rw [← e5]; exact e3 _ _ h2⟩
    · have e : numsOf l word = none := by
        unfold numsOf
        rw [hw]
        dsimp only
        rw [if_neg hc]
      refine w_ret (v_if (v := .non) (VW.t (vw_or (vt_neS (p := u) (q := word) (v_ixN (i := 0) (VX.seq (v_var 2) hws2) v_int rfl) (v_var 1)) fun _ => vw_or1 (vt_in v_non (VX.seq (v_var 3) (sq_of h2)) rfl (flat_nums us)))) (fun _ => v_non) fun hk => ?_) fun H3 e3 => hQ _ _ ((e1.trans e2).trans e3) ?_
      · rw [inV_nums] at hk
        simp only [Bool.or_eq_false_iff, Bool.not_eq_false', decide_eq_true_eq] at hk
        exact absurd hk hc
      · show isNums (numsOf l word) _ _ _
        rw [e]
        rfl
end
end K75
/-! for over range; the law's defs: _law_are_bounds, _law_steps_text, _law_tree_text -/
namespace K75
open PySem PySem.Spec PyProof.Rows L2 Evl He
section
variable {X : Cx} {a b tg : Expr} {body rest : List Stmt} {σ : L2.St} {H : Hp} {D : Ends} {n : Str} {np pos q : Pos}
/-- for n in range(a) -/
theorem w_forR1 {k : Nat} (j : Nat) (hm : X.mg "range" = none) (ha : VX X a σ H (.int (k : Int))) (hz : k ≤ 100000) (hgT : PG X tg (gName j)) (Pv : Nat → L2.St → Hp → Prop) (h0 : ∀ H1, Ex H H1 → Pv 0 σ H1)
    (hs : ∀ i σ' H1, i < k → Pv i σ' H1 → wSs X body { D with nx := Pv (i + 1), ct := Pv (i + 1), bk := wSs X rest D } (σ'.set j (some (.int (i : Int)))) H1) (hd : ∀ σ' H1, Pv k σ' H1 → wSs X rest D σ' H1) (hp : PassesOwn (model X.prog X.w) X.A X.env X.xe) (hc : X.calm = true := by rfl)
    (hg : Gl X "range" := by rfl) (hst : starEach [a] X.env = [(false, eval a X.env)] := by rfl) (hs2 : starEach [a] X.env = (false, eval a X.env) :: starEach [] X.env := by rfl) (hfs : ∀ x, foldedSetIterable (.Call (.Name "range" q) [a] [] np) X.env x = pure x := by intro _; rfl) :
    WS X (.For tg (.Call (.Name "range" q) [a] [] np) body [] pos :: rest) D σ H :=
  w_cons (ps_for hp hc (pi_range1 hg hm (pa_cons pe_w pa_nil hs2) hst) hgT ps_w hfs) fun H1 a1 => s_forR1 (D := { D with nx := wSs X rest D }) (n := (k : Int)) (fun H2 e2 Q q => ha H2 (a1.trans e2) _ fun H3 e3 => q H3 e3) ⟨by omega, by omega⟩ Pv (fun H2 e2 => h0 H2 (a1.trans e2)) (fun i σ' H' hi hp' => hs i σ' H' (by omega) hp') fun σ' H' hp' => by
    rw [Int.toNat_natCast] at hp'
    exact hd σ' H' hp'
/-- for n in range(a, b) -/
theorem w_forR2 {l k : Nat} (j : Nat) (hm : X.mg "range" = none) (ha : VX X a σ H (.int (l : Int))) (hb : VX X b σ H (.int (k : Int))) (hz : k ≤ 100000) (hl : l ≤ 100000) (hgT : PG X tg (gName j)) (Pv : Nat → L2.St → Hp → Prop) (h0 : ∀ H1, Ex H H1 → Pv 0 σ H1)
    (hs : ∀ i σ' H1, i < k - l → Pv i σ' H1 → wSs X body { D with nx := Pv (i + 1), ct := Pv (i + 1), bk := wSs X rest D } (σ'.set j (some (.int ((l + i : Nat) : Int)))) H1) (hd : ∀ σ' H1, Pv (k - l) σ' H1 → wSs X rest D σ' H1) (hp : PassesOwn (model X.prog X.w) X.A X.env X.xe) (hc : X.calm = true := by rfl)
    (hg : Gl X "range" := by rfl) (hst : starEach [a, b] X.env = [(false, eval a X.env), (false, eval b X.env)] := by rfl) (hst2 : starEach [b] X.env = [(false, eval b X.env)] := by rfl) (hs2 : starEach [a, b] X.env = (false, eval a X.env) :: starEach [b] X.env := by rfl) (hs3 : starEach [b] X.env = (false, eval b X.env) :: starEach [] X.env := by rfl)
    (hfs : ∀ x, foldedSetIterable (.Call (.Name "range" q) [a, b] [] np) X.env x = pure x := by intro _; rfl) : WS X (.For tg (.Call (.Name "range" q) [a, b] [] np) body [] pos :: rest) D σ H :=
  w_cons (ps_for hp hc (pi_range2 hg hm (pa_cons pe_w (pa_cons pe_w pa_nil hs3) hs2) hst hst2) hgT ps_w hfs) fun H1 a1 => s_forR2 (D := { D with nx := wSs X rest D }) (lo := (l : Int)) (n := (k : Int)) (fun H2 e2 Q q => ha H2 (a1.trans e2) _ fun H3 e3 => hb H3 ((a1.trans e2).trans e3) _ fun H4 e4 => q H4 (e3.trans e4)) ⟨by omega, by omega, by omega, by omega⟩ Pv (fun H2 e2 => h0 H2 (a1.trans e2))
    (fun i σ' H' hi hp' => by
      have h := hs i σ' H' (by omega) hp'
      rw [Int.natCast_add] at h
      exact h) fun σ' H' hp' => by
    rw [show ((k : Int) - (l : Int)).toNat = k - l by omega] at hp'
    exact hd σ' H' hp'
end
theorem asc_range : ∀ bs : List Nat, ((List.range (bs.length - 1)).filter fun i => decide (bs.getD (i + 1) 0 ≤ bs.getD i 0)) = [] ↔ asc bs = true
  | [] => by simp [asc]
  | [a] => by simp [asc]
  | a :: b :: r => by
    have ih := asc_range (b :: r)
    rw [asc, Bool.and_eq_true, decide_eq_true_eq, ← ih]
    simp only [List.filter_eq_nil_iff, List.mem_range, List.length_cons, Nat.add_sub_cancel, decide_eq_true_eq, Nat.not_le]
    constructor
    · intro h
      refine ⟨by simpa using h 0 (by omega), fun i hi => ?_⟩
      have := h (i + 1) (by omega)
      simpa using this
    · rintro ⟨h0, h⟩ i hi
      cases i with
      | zero => simpa using h0
      | succ i =>
        have := h i (by omega)
        simpa using this
theorem ints_get {ns : List Nat} {i : Nat} (h : i < ns.length) : (ints_ ns)[i]? = some (.int ((ns.getD i 0 : Nat) : Int)) := by
  rw [ints_, List.getElem?_map, List.getElem?_eq_getElem h, List.getD_eq_getElem?_getD, List.getElem?_eq_getElem h] <;> rfl
section
variable {P : Program} {w : World} {K : PySem.W.Frag} {mg : Str → Option Value} {base : Heap}
/-! ### _law_are_bounds -/
abbrev N_law_are_bounds : List Str := ["_law_numbers_here", "_law_most", "_law_bounds", "_law_at"]
theorem s_law_are_bounds : FnScope N_law_are_bounds ["_law_numbers_here"] (defScope d_law_are_bounds.st) := C8.fnScope_by (by decide +kernel)
abbrev SpLawBounds : Sp := SpR (fun a : Addr × List Nat => [.ref a.1]) (fun a H => H a.1 = some (.lst (ints_ a.2)) ∧ 1 < a.2.length ∧ a.2.length ≤ 20000) (fun a v _ _ => v = .bl (lawBounds a.2))
theorem c_law_are_bounds (T : Tx K mg) : CalX P w K mg base CX0 1 d_law_are_bounds ["_law_numbers_here"] SpLawBounds := by
  refine CalX.of0 (f_law_are_bounds T) b_law_are_bounds s_law_are_bounds (fun vs H Q E h => ?_) (fun cdv A outer s H vs Q E hr h => ?_)
  · obtain ⟨a, rfl, _⟩ := h
    rfl
  · obtain ⟨⟨a, ns⟩, rfl, ⟨ha, hl, hz⟩, hQ⟩ := h
    have nd := s_law_are_bounds.nd
    have hl : 1 < ns.length := hl
    have hz : ns.length ≤ 20000 := hz
    obtain ⟨m, bs, rfl⟩ : ∃ m bs, ns = m :: bs := by
      cases ns with
      | nil => simp at hl
      | cons m bs => exact ⟨m, bs, rfl⟩
    have hb1 : 1 ≤ bs.length := by
      rw [List.length_cons] at hl
      omega
    rw [List.length_cons] at hz
    refine WS.here (w_parC 1 2 nd (v_ixN (v := .int ((m : Nat) : Int)) (i := 0) (VX.seq (v_var 0) (sq_of ha)) v_int rfl).rel (VL.rel (xs := ints_ bs) (VL.is (vl_from (k := 1) (VX.seq (v_var 0) (sq_of ha)) v_int) (ints_drop 1 (m :: bs)))) (fun v u H1 H2 H3 H4 e1 e2 e3 e4 r1 r2 => ?_) (ht1 := pgs_cons (pg_name (i := 1) nd rfl (Or.inl rfl)) (pgs_cons (pg_name (i := 2) nd rfl (Or.inr rfl)) pgs_nil)))
    subst r1
    obtain ⟨p, rfl, hp0, hp⟩ := r2
    have eH := ((e1.trans e2).trans e3).trans e4
    have hbs : SqL K H4 p (ints_ bs) := sq_of (e4 _ _ hp)
    refine w_when (VW.t (vw_or (vt_not (vt_lele v_int (v_var 1) v_int)) fun _ => vw_or (vt_gt (v_len T.n_len (VX.seq (v_var 2) hbs)) v_int) fun _ => vw_or (vt_lt (v_ixN (i := 0) (VX.seq (v_var 2) hbs) v_int (ints_get hb1)) v_int) fun _ =>
      vw_or1 (vt_gt (v_ixN (i := bs.length - 1) (VX.seq (v_var 2) hbs) (VX.is (x := .int ((bs.length - 1 : Nat) : Int)) (v_sub (v_len T.n_len (VX.seq (v_var 2) hbs)) v_int) (by rw [ints_len]; congr 1; omega)) (ints_get (by omega))) (v_var 1)))) (fun hb => w_ret v_bl fun H5 e5 => hQ _ _ (eH.trans e5) ?_) fun hb => ?_
    · show V.bl _ = V.bl _
      rw [ints_len] at hb
      have hh : bs.headD 0 = bs.getD 0 0 := by cases bs <;> rfl
      congr 1
      symm
      rw [lawBounds, hh, ← Bool.not_eq_true]
      simp only [Bool.and_eq_true, decide_eq_true_eq]
      simp only [Bool.or_eq_true, Bool.not_eq_true', Bool.and_eq_false_iff, decide_eq_true_eq, decide_eq_false_iff_not] at hb
      omega
    · rw [ints_len] at hb
      have hh : bs.headD 0 = bs.getD 0 0 := by cases bs <;> rfl
      refine w_ret (v_eqD (d1 := .list ((((List.range (bs.length - 1)).filter fun i => decide (bs.getD (i + 1) 0 ≤ bs.getD i 0))).map fun n => PyData.int ((n : Nat) : Int))) (d2 := .list []) hr.units (VS.ints (VL.seq (VL.is (vl_filter (zs := List.range (bs.length - 1)) (p := fun i => decide (bs.getD (i + 1) 0 ≤ bs.getD i 0)) (f := fun i => V.int ((i : Nat) : Int)) (g' := fun i => V.int ((i : Nat) : Int)) (j := 3) (own := [("_law_at", 3)]) rfl nd
        (VI.rg (vi_range1 (k := bs.length - 1) T.n_range (VX.is (x := .int ((bs.length - 1 : Nat) : Int)) (v_sub (v_len T.n_len (VX.seq (v_var 2) hbs)) v_int) (by rw [ints_len]; congr 1; omega)) (by omega))) (by rw [List.length_range]; omega) (blkOk_by (N := N_law_are_bounds) (sc := defScope d_law_are_bounds.st) (by decide +kernel)) (fun _ _ _ _ _ => pg_name (i := 3) nd rfl (Or.inl rfl)) (fun _ => rfl)
        (fun s H0 C cl fp i hi => ?_) (fun s H0 C cl fp i _ _ => v_var 3)) rfl))) (VL.dp (vl_disp va_nil (Nat.zero_le _)) .nil) ((shk_ints _).shaped (by decide)) (ShK.shaped (shk_list (k := 0) fun d hd => nomatch hd) (by decide))) fun H5 e5 => hQ _ _ (eH.trans e5) ?_
      · rw [List.mem_range] at hi
        exact VT.is (vt_ge (v_ixN (i := i) (VX.seq (v_var 2) hbs) (v_var 3) (ints_get (by omega))) (v_ixN (i := i + 1) (VX.seq (v_var 2) hbs) (VX.is (x := .int ((i + 1 : Nat) : Int)) (v_add (v_var 3) v_int) rfl) (ints_get (by omega)))) (by simp)
      · show V.bl _ = V.bl _
        rw [eqv_ints_nil]
        congr 1
        rw [lawBounds, hh]
        simp at hb
        have e1 : (decide (1 ≤ m) && decide (m ≤ 1000)) = true := by
          rw [Bool.and_eq_true, decide_eq_true_eq, decide_eq_true_eq]
          omega
        have e2 : decide (bs.length ≤ 8) = true := decide_eq_true (by omega)
        have e3 : (decide (1 ≤ bs.getD 0 0) && decide (bs.getD (bs.length - 1) 0 ≤ m)) = true := by
          rw [Bool.and_eq_true, decide_eq_true_eq, decide_eq_true_eq]
          simp
          omega
        rw [e1, e2, e3, Bool.true_and, Bool.true_and, Bool.true_and, Bool.eq_iff_iff, decide_eq_true_eq]
        exact asc_range bs
end
end K75
/-! the law's defs: _law_steps_text, _law_tree_text -/
namespace K75
open PySem PySem.Spec PyProof.Rows L2 Evl He
theorem lineT_ne {word ns : List Nat} (h : ns ≠ []) : lineT word ns = (word ++ [32]) ++ TL.joinL [32] (ns.map TL.numL) := by
  unfold lineT
  rw [joinL_cons (by simpa using h)]
  simp
theorem txts_numL (ns : List Nat) : (ns.map fun n => V.str (SX.S (TL.numL n))) = txts (ns.map TL.numL) := by
  rw [txts, List.map_map] <;> rfl
theorem nums_sum {ns : List Nat} (h : Fit ns) : ((ns.map TL.numL).map (·.length)).sum + (ns.map TL.numL).length * [32].length ≤ 200000 := by
  have h1 := sumL_le (ts := ns.map TL.numL) (k := 6) fun p hp => by
    obtain ⟨n, hn, rfl⟩ := List.mem_map.mp hp
    exact TL.numL_len (by decide) (by have := h.2 n hn; omega)
  have h2 := h.1
  unfold sumL at h1
  simp only [List.length_map, List.length_cons, List.length_nil] at h1 ⊢
  omega
theorem nums_join {ns : List Nat} (h : Fit ns) : (TL.joinL [32] (ns.map TL.numL)).length ≤ 200000 := Nat.le_trans (join_le [32] _) (nums_sum h)
section
variable {P : Program} {w : World} {K : PySem.W.Frag} {mg : Str → Option Value} {base : Heap}
/-! ### _law_steps_text -/
abbrev N_law_steps_text : List Str := ["_law_most", "_law_bounds", "_law_one"]
theorem s_law_steps_text : FnScope N_law_steps_text ["_law_most", "_law_bounds"] (defScope d_law_steps_text.st) := C8.fnScope_by (by decide +kernel)
abbrev SpLawStepsText : Sp := SpR (fun a : Nat × Addr × List Nat => [.int (a.1 : Nat), .ref a.2.1]) (fun a H => H a.2.1 = some (.lst (ints_ a.2.2)) ∧ Fit (a.1 :: a.2.2)) (fun a v _ _ => v = .str (SX.S (lineT wSteps (a.1 :: a.2.2))))
theorem c_law_steps_text (T : Tx K mg) : CalX P w K mg base CX0 1 d_law_steps_text ["_law_most", "_law_bounds"] SpLawStepsText := by
  refine CalX.of0 (f_law_steps_text T) b_law_steps_text s_law_steps_text (fun vs H Q E h => ?_) (fun cdv A outer s H vs Q E hr h => ?_)
  · obtain ⟨a, rfl, _⟩ := h
    rfl
  · obtain ⟨⟨m, b, bs⟩, rfl, ⟨hb, hf⟩, hQ⟩ := h
    have hf : Fit (m :: bs) := hf
    have nd := s_law_steps_text.nd
    have hl := hf.1
    rw [List.length_cons] at hl
    refine WS.here (w_ret (VX.is (v_catS (v_lit (t := wSteps ++ [32]) (by decide +kernel)) (v_join (v_lit (t := [32]) (by decide +kernel)) (VL.seq (VL.is (vl_map (zs := m :: bs) (f := fun n => V.int ((n : Nat) : Int)) (g' := fun n => V.str (SX.S (TL.numL n))) (j := 2) (own := [("_law_one", 2)]) rfl nd
      ((vi_list (VL.seq (VL.is (vl_cat (xs := [V.int ((m : Nat) : Int)]) (VL.m (vl_disp (va_one (v_var 0)) (by show 1 ≤ 1000000; decide))) (VX.m (v_var 1) hb) (by rw [ints_len]; show 1 + bs.length ≤ 1000000; omega)) (show _ = ints_ (m :: bs) from rfl)))).cast (ints_len (m :: bs))) (by rw [List.length_cons]; omega)
      (blkOk_by (N := N_law_steps_text) (sc := defScope d_law_steps_text.st) (by decide +kernel)) (fun _ _ _ _ _ => pg_name (i := 2) nd rfl (Or.inl rfl)) (fun _ => rfl) (fun s H0 C cl fp z hz => v_strN T.n_str (v_var 2) (lt1000 (hf.2 z hz)))) (txts_numL (m :: bs)))) (Nat.le_trans (nums_sum hf) (by decide))) ?_) (by rw [lineT_ne (by simp)])) fun H1 e1 => hQ _ _ e1 rfl)
    have := nums_join hf
    have e : (wSteps ++ [32]).length = 6 := rfl
    omega
/-! ### _law_tree_text -/
abbrev N_law_tree_text : List Str := ["_law_plan", "_law_level", "_law_lines", "_law_told", "_law_many", "_law_one"]
theorem s_law_tree_text : FnScope N_law_tree_text ["_law_plan"] (defScope d_law_tree_text.st) := C8.fnScope_by (by decide +kernel)
abbrev SpLawTreeText : Sp := SpR (fun a : Addr × Nat × Addr × List Nat => [.ref a.1]) (fun a H => H a.1 = some (.lst [.int (a.2.1 : Nat), .ref a.2.2.1]) ∧ H a.2.2.1 = some (.lst (ints_ a.2.2.2)) ∧ a.2.2.2.length ≤ 63 ∧ a.2.1 < 1000000 ∧ ∀ n ∈ a.2.2.2, n < 1000000) (fun a v _ _ => v = .str (SX.S (treeT a.2.1 a.2.2.2)))
theorem c_law_tree_text (T : Tx K mg) : CalX P w K mg base CX0 1 d_law_tree_text ["_law_plan"] SpLawTreeText := by
  refine CalX.of0 (f_law_tree_text T) b_law_tree_text s_law_tree_text (fun vs H Q E h => ?_) (fun cdv A outer s H vs Q E hr h => ?_)
  · obtain ⟨a, rfl, _⟩ := h
    rfl
  · obtain ⟨⟨a, c, t, told⟩, rfl, ⟨ha, ht, hl, hc, hn⟩, hQ⟩ := h
    have ha : H a = some (.lst [.int ((c : Nat) : Int), .ref t]) := ha
    have ht : H t = some (.lst (ints_ told)) := ht
    have hl : told.length ≤ 63 := hl
    have hc : c < 1000000 := hc
    have hn : ∀ n ∈ told, n < 1000000 := hn
    have nd := s_law_tree_text.nd
    have fc : Fit [c] := ⟨by show 1 ≤ 20000; decide, fun n hn => by rw [List.mem_singleton] at hn; subst hn; exact hc⟩
    have hc6 : (TL.numL c).length ≤ 6 := TL.numL_len (by decide) (by omega)
    have e0 : lineT wTree [c] = (wTree ++ [32]) ++ TL.numL c := by rw [lineT_ne (by simp)] <;> rfl
    refine WS.here (w_par3 2 3 4 nd (VL.rel (xs := [V.str (SX.S (lineT wTree [c]))]) (vl_disp (va_one (VX.is (v_catS (v_lit (t := wTree ++ [32]) (by decide +kernel)) (v_strN T.n_str (v_ixN (i := 0) (VX.seq (v_var 0) (sq_of ha)) v_int rfl) (lt1000 hc)) (by have e : (wTree ++ [32]).length = 5 := rfl; omega)) (by rw [e0]))) (by show 1 ≤ 1000000; decide)))
      (v_ixN (v := .ref t) (i := 1) (VX.seq (v_var 0) (sq_of ha)) v_int rfl).rel (VX.rel (v := .int ((1 : Nat) : Int)) v_int) fun v2 v3 v4 H1 H2 H3 H4 e1 e2 e3 e4 r1 r2 r3 => ?_)
    obtain ⟨l, rfl, hl0, hl1⟩ := r1
    subst r2
    subst r3
    have hl0' : H l = none := fresh_back e1 hl0
    have e24 := e2.trans (e3.trans e4)
    refine w_forR1 (k := 6) 1 T.n_range v_int (by decide) (pg_name (i := 1) nd rfl (Or.inl rfl)) (fun i σ' H' => ∃ (p : Addr) (rest : List Nat) (ls : List (List Nat)) (x1 : Option V), σ' = [some (.ref a), x1, some (.ref l), some (.ref p), some (.int ((2 ^ i : Nat) : Int)), none] ∧ Ex H H' ∧ H' l = some (.lst (txts ls)) ∧ H' p = some (.lst (ints_ rest)) ∧ rest.length ≤ 63 ∧ ls.length ≤ i + 1 ∧
        (∀ n ∈ rest, n < 1000000) ∧ (∀ z ∈ ls, z.length ≤ 200000) ∧ ls ++ (chunks (6 - i) (2 ^ i) rest).map (lineT wTold) = lineT wTree [c] :: (chunks 6 1 told).map (lineT wTold))
      (fun H5 e5 => ⟨t, told, [lineT wTree [c]], none, rfl, (e1.trans e24).trans e5, e5 _ _ ((e3.trans e4) _ _ hl1), ((e1.trans e24).trans e5) _ _ ht, hl, by simp, hn, fun z hz => by rw [List.mem_singleton] at hz; subst hz; exact lineT_len (by decide) fc, rfl⟩)
      (fun i σ' H5 hi hP => ?_) (fun σ' H5 hP => ?_) PassesOwn.never
    · obtain ⟨p, rest, ls, x1, rfl, eH, hlH, hp, hlen, hcnt, hrn, hlz, heq⟩ := hP
      obtain ⟨k, hk⟩ : ∃ k, 6 - i = k + 1 := ⟨5 - i, by omega⟩
      have hk2 : 6 - (i + 1) = k := by omega
      rw [hk] at heq
      have e2i : 2 * 2 ^ i = 2 ^ (i + 1) := by rw [Nat.pow_succ, Nat.mul_comm]
      refine WS.here (w_if (vt_neNil hr.units (VX.seq (v_var 3) (sq_of hp))) (fun hb => ?_) fun hb => ?_)
      · have hne : rest ≠ [] := by simpa using hb
        have ft : Fit (rest.take (2 ^ i)) := ⟨by rw [List.length_take]; omega, fun n hn => hrn n (List.mem_of_mem_take hn)⟩
        have hne2 : rest.take (2 ^ i) ≠ [] := by
          intro z
          rw [List.take_eq_nil_iff] at z
          rcases z with z | z
          · have : 0 < 2 ^ i := Nat.pow_pos (by decide)
            omega
          · exact hne z
        refine w_append 2 (VX.rel (v := .str (SX.S (lineT wTold (rest.take (2 ^ i))))) (VX.is (v_catS (v_lit (t := wTold ++ [32]) (by decide +kernel)) (v_join (v_lit (t := [32]) (by decide +kernel)) (VL.seq (VL.is (vl_map (zs := rest.take (2 ^ i)) (f := fun n => V.int ((n : Nat) : Int)) (g' := fun n => V.str (SX.S (TL.numL n))) (j := 5) (own := [("_law_one", 5)]) rfl nd
          ((vi_list (VL.seq (VL.is (vl_to (k := 2 ^ i) (VX.seq (v_var 3) (sq_of hp)) (v_var 4)) (ints_take _ rest)))).cast (ints_len _)) (by have := ft.1; omega)
          (blkOk_by (N := N_law_tree_text) (sc := defScope d_law_tree_text.st) (by decide +kernel)) (fun _ _ _ _ _ => pg_name (i := 5) nd rfl (Or.inl rfl)) (fun _ => rfl) (fun s H0 C cl fp z hz => v_strN T.n_str (v_var 5) (lt1000 (ft.2 z hz)))) (txts_numL _))) (Nat.le_trans (nums_sum ft) (by decide))) (by have := nums_join ft; have e : (wTold ++ [32]).length = 5 := rfl; omega)) (by rw [lineT_ne hne2]))) hlH (by rw [txts_len]; omega) fun v H6 H7 e6 e7 r => ?_
        subst r
        have hpl : p ≠ l := ne_of hp hlH (by
          intro z
          cases ls with
          | nil =>
            cases rest with
            | nil => exact hne rfl
            | cons a r => cases z
          | cons a r =>
            cases rest with
            | nil => exact hne rfl
            | cons b r' => cases z)
        refine w_nil fun H8 e8 => WS.here ?_
        have hp8 : H8 p = some (.lst (ints_ rest)) := e8 _ _ (by rw [upd_ne hpl]; exact e7 _ _ (e6 _ _ hp))
        have eH8 : Ex H H8 := (Ex.mut ((eH.trans e6).trans e7) hl0').trans e8
        refine w_par 3 4 nd (VL.rel (xs := ints_ (rest.drop (2 ^ i))) (VL.is (vl_from (k := 2 ^ i) (VX.seq (v_var 3) (sq_of hp8)) (v_var 4)) (ints_drop _ rest))) (VX.rel (v := .int ((2 ^ (i + 1) : Nat) : Int)) (VX.is (v_mul v_int (v_var 4) (.inl ⟨by decide, by decide⟩)) (by rw [← e2i, Int.natCast_mul] <;> rfl))) fun v5 v6 H9 H10 H11 e9 e10 e11 r5 r6 => w_nil fun H12 e12 => ?_
        obtain ⟨q, rfl, hq0, hq1⟩ := r5
        subst r6
        have e812 := ((e9.trans e10).trans e11).trans e12
        refine ⟨q, rest.drop (2 ^ i), ls ++ [lineT wTold (rest.take (2 ^ i))], _, rfl, eH8.trans e812, ?_, e12 _ _ (e11 _ _ hq1), by rw [List.length_drop]; omega, by rw [List.length_append, List.length_singleton]; omega, fun n hn => hrn n (List.mem_of_mem_drop hn), fun z hz => ?_, ?_⟩
        · rw [← txts_snoc]
          exact e812 _ _ (e8 _ _ upd_same)
        · rcases List.mem_append.mp hz with hz | hz
          · exact hlz z hz
          · rw [List.mem_singleton] at hz
            subst hz
            exact lineT_len (by decide) ft
        · rw [hk2, ← heq, chunks_cons hne, List.map_cons, ← e2i, List.append_assoc, List.singleton_append]
      · have he : rest = [] := by simpa using hb
        subst he
        refine w_nil fun H8 e8 => WS.here ?_
        have hp8 : H8 p = some (.lst (ints_ [])) := e8 _ _ hp
        refine w_par 3 4 nd (VL.rel (xs := ints_ []) (VL.is (vl_from (k := 2 ^ i) (VX.seq (v_var 3) (sq_of hp8)) (v_var 4)) (by rw [ints_drop, List.drop_nil]))) (VX.rel (v := .int ((2 ^ (i + 1) : Nat) : Int)) (VX.is (v_mul v_int (v_var 4) (.inl ⟨by decide, by decide⟩)) (by rw [← e2i, Int.natCast_mul] <;> rfl))) fun v5 v6 H9 H10 H11 e9 e10 e11 r5 r6 => w_nil fun H12 e12 => ?_
        obtain ⟨q, rfl, hq0, hq1⟩ := r5
        subst r6
        have e812 := ((e9.trans e10).trans e11).trans e12
        refine ⟨q, [], ls, _, rfl, (eH.trans e8).trans e812, e812 _ _ (e8 _ _ hlH), e12 _ _ (e11 _ _ hq1), by simp, by omega, hrn, hlz, ?_⟩
        rw [← heq, chunks_nil, chunks_nil]
    · obtain ⟨p, rest, ls, x1, rfl, eH, hlH, hp, hlen, hcnt, hrn, hlz, heq⟩ := hP
      have heq : ls = lineT wTree [c] :: (chunks 6 1 told).map (lineT wTold) := by
        rw [← heq, Nat.sub_self]
        simp [chunks]
      refine WS.here (w_ret (v_join (v_lit (t := [10]) (by decide +kernel)) (VX.seq (v_var 2) (sq_of hlH)) ?_) fun H6 e6 => hQ _ _ (eH.trans e6) ?_)
      · have := sumL_le hlz
        unfold sumL at this
        simp only [List.length_nil, List.length_cons] at hcnt ⊢
        omega
      · show V.str (SX.S (TL.joinL [10] ls)) = _
        rw [heq] <;> rfl
end
end K75
/-! what a reading tells, as an object; the law's defs: _law_read_steps, _law_read_tree -/
namespace K75
open PySem PySem.Spec PyProof.Rows L2 Evl He
def wLine : List Nat := [108, 105, 110, 101]
/-- the rows, each a list of two -/
abbrev RowsAt (H : Hp) : List Addr → List (Nat × Nat) → Prop := Paired fun p r => H p = some (.lst (ints_ [r.1, r.2]))
def IsRs (r : Rs) (p : Addr) (H : Hp) : Prop := match r with
  | .line o => H p = some (.lst [.str (SX.S wLine), lineV o])
  | .steps ns => ∃ q, H p = some (.lst [.str (SX.S wSteps), .ref q]) ∧ H q = some (.lst (ints_ ns))
  | .tree c told => ∃ q, H p = some (.lst [.str (SX.S wTree), .int ((c : Nat) : Int), .ref q]) ∧ H q = some (.lst (ints_ told))
  | .weights rows => ∃ q rs, H p = some (.lst [.str (SX.S wWeights), .ref q]) ∧ H q = some (.lst (rs.map V.ref)) ∧ RowsAt H rs rows
theorem RowsAt.ex {H H' : Hp} {rs : List Addr} {rows : List (Nat × Nat)} (e : Ex H H') (h : RowsAt H rs rows) : RowsAt H' rs rows := Paired.mapP h fun p r z => e _ _ z
theorem IsRs.ex {r : Rs} {p : Addr} {H H' : Hp} (e : Ex H H') (h : IsRs r p H) : IsRs r p H' := by
  cases r with
  | line o => exact e _ _ h
  | steps ns =>
    obtain ⟨q, h1, h2⟩ := h
    exact ⟨q, e _ _ h1, e _ _ h2⟩
  | tree c told =>
    obtain ⟨q, h1, h2⟩ := h
    exact ⟨q, e _ _ h1, e _ _ h2⟩
  | weights rows =>
    obtain ⟨q, rs, h1, h2, h3⟩ := h
    exact ⟨q, rs, e _ _ h1, e _ _ h2, h3.ex e⟩
def isRs (r : Rs) : V → Hp → Hp → Prop := fun v _ H2 => ∃ p, v = .ref p ∧ IsRs r p H2
/-! ### as data -/
def oD : Option Nat → PyData
  | none => .none
  | some i => .int ((i : Nat) : Int)
def Rs.data : Rs → PyData
  | .line o => .list [.str (SX.S wLine), oD o]
  | .steps ns => .list [.str (SX.S wSteps), .list (ns.map fun n => PyData.int ((n : Nat) : Int))]
  | .tree c told => .list [.str (SX.S wTree), .int ((c : Nat) : Int), .list (told.map fun n => PyData.int ((n : Nat) : Int))]
  | .weights rows => .list [.str (SX.S wWeights), .list (rows.map fun r => PyData.list ([r.1, r.2].map fun n => PyData.int ((n : Nat) : Int)))]
theorem dp_lineV {K : PySem.W.Frag} {H : Hp} (o : Option Nat) : Dp K H (lineV o) (oD o) := by
  cases o with
  | none => exact .non
  | some i => exact .int _
theorem dp_rows {K : PySem.W.Frag} {H : Hp} : ∀ {rs : List Addr} {rows : List (Nat × Nat)}, RowsAt H rs rows → DpAll K H (rs.map V.ref) (rows.map fun r => PyData.list ([r.1, r.2].map fun n => PyData.int ((n : Nat) : Int)))
  | _, _, .nil => .nil
  | _, _, .cons h t => .cons (.lst (sq_of h) (dp_ints [_, _])) (dp_rows t)
theorem dp_rs {K : PySem.W.Frag} {H : Hp} {r : Rs} {p : Addr} (h : IsRs r p H) : Dp K H (.ref p) r.data := by
  cases r with
  | line o => exact .lst (sq_of h) (.cons (.str _) (.cons (dp_lineV o) .nil))
  | steps ns =>
    obtain ⟨q, h1, h2⟩ := h
    exact .lst (sq_of h1) (.cons (.str _) (.cons (.lst (sq_of h2) (dp_ints ns)) .nil))
  | tree c told =>
    obtain ⟨q, h1, h2⟩ := h
    exact .lst (sq_of h1) (.cons (.str _) (.cons (.int _) (.cons (.lst (sq_of h2) (dp_ints told)) .nil)))
  | weights rows =>
    obtain ⟨q, rs, h1, h2, h3⟩ := h
    exact .lst (sq_of h1) (.cons (.str _) (.cons (.lst (sq_of h2) (dp_rows h3)) .nil))
theorem shk_lit {t : List Nat} (h : PyData.strOk (SX.S t) = true) : ShK 2 (.str (SX.S t)) := (shk_str h).mono (by decide)
theorem rs_sh (r : Rs) : ShK 3 r.data := by
  cases r with
  | line o =>
    refine shk_list fun d hd => ?_
    simp only [List.mem_cons, List.not_mem_nil, or_false] at hd
    rcases hd with e | e <;> subst e
    · exact shk_lit (by decide +kernel)
    · cases o with
      | none => exact shk_non.mono (by decide)
      | some i => exact shk_int.mono (by decide)
  | steps ns =>
    refine shk_list fun d hd => ?_
    simp only [List.mem_cons, List.not_mem_nil, or_false] at hd
    rcases hd with e | e <;> subst e
    · exact shk_lit (by decide +kernel)
    · exact (shk_ints ns).mono (by decide)
  | tree c told =>
    refine shk_list fun d hd => ?_
    simp only [List.mem_cons, List.not_mem_nil, or_false] at hd
    rcases hd with e | e | e <;> subst e
    · exact shk_lit (by decide +kernel)
    · exact shk_int.mono (by decide)
    · exact (shk_ints told).mono (by decide)
  | weights rows =>
    refine shk_list fun d hd => ?_
    simp only [List.mem_cons, List.not_mem_nil, or_false] at hd
    rcases hd with e | e <;> subst e
    · exact shk_lit (by decide +kernel)
    · refine shk_list fun d hd => ?_
      obtain ⟨q, _, rfl⟩ := List.mem_map.mp hd
      exact shk_ints [q.1, q.2]
theorem rs_shaped (r : Rs) : SeqAt.shaped r.data = true := (rs_sh r).shaped (by decide)
/-! ### the law's own reading -/
def written : Rs → List Nat
  | .line _ => []
  | .steps ns => lineT wSteps ns
  | .tree c told => treeT c told
  | .weights rows => weightsT rows
def isLine : Rs → Bool
  | .line _ => true
  | _ => false
def lawSteps (ls : List (List Nat)) : Rs := match numsOf (ls.headD []) wSteps with
  | some ns => if ns.length < 2 then .line (some 0) else if 1 < ls.length then .line (some 1) else if lawBounds ns = true then .steps ns else .line none
  | none => .line (some 0)
def lawTreeR (ls : List (List Nat)) : Rs := match numsOf (ls.headD []) wTree with
  | some [c] => (match levels 1 [] 1 ls.tail with
    | .inl i => .line (some i)
    | .inr told => if ls.length < 3 then .line (some ls.length) else if lawTree c told = true then .tree c told else .line none)
  | _ => .line (some 0)
def lawWeightsR (ls : List (List Nat)) : Rs := if ls.headD [] ≠ wWeights then .line (some 0) else match readRows 1 ls.tail with
  | .inl i => .line (some i)
  | .inr rows => if rows = [] then .line (some 1) else if rowsOk rows = true then .weights rows else .line none
/-- .. and what it comes to, told against the text -/
def dueOf (r : Rs) (ls : List (List Nat)) : Rs := if isLine r = false ∧ written r ≠ TL.joinL [10] ls then .line none else r
theorem due_ok {r : Rs} {ls : List (List Nat)} (h : isLine r = false) : dueOf r ls = if written r = TL.joinL [10] ls then r else .line none := by
  unfold dueOf
  by_cases h4 : written r = TL.joinL [10] ls
  · rw [if_neg (fun z => z.2 h4), if_pos h4]
  · rw [if_pos ⟨h, h4⟩, if_neg h4]
theorem due_line {o : Option Nat} {ls : List (List Nat)} : dueOf (.line o) ls = .line o := by
  unfold dueOf
  rw [if_neg (fun z => by cases z.1)]
theorem and_if {c d : Prop} [Decidable c] [Decidable d] {a b : Rs} (h : c) : (if c ∧ d then a else b) = if d then a else b := by
  by_cases hd : d
  · rw [if_pos ⟨h, hd⟩, if_pos hd]
  · rw [if_neg (fun z => hd z.2), if_neg hd]
theorem due_steps (ls : List (List Nat)) : dueOf (lawSteps ls) ls = readSteps ls := by
  cases hn : numsOf (ls.headD []) wSteps with
  | none =>
    have e1 : lawSteps ls = .line (some 0) := by
      unfold lawSteps
      rw [hn]
    have e2 : readSteps ls = .line (some 0) := by
      unfold readSteps
      rw [hn]
    rw [e1, e2, due_line]
  | some ns =>
    have e1 : lawSteps ls = if ns.length < 2 then .line (some 0) else if 1 < ls.length then .line (some 1) else if lawBounds ns = true then .steps ns else .line none := by
      unfold lawSteps
      rw [hn]
    have e2 : readSteps ls = if ns.length ≤ 1 then .line (some 0) else if 1 < ls.length then .line (some 1) else if stepsOk ns = true ∧ lineT wSteps ns = TL.joinL [10] ls then .steps ns else .line none := by
      unfold readSteps
      rw [hn]
    rw [e1, e2]
    by_cases h : ns.length < 2
    · rw [if_pos h, if_pos (c := ns.length ≤ 1) (by omega), due_line]
    · rw [if_neg h, if_neg (c := ns.length ≤ 1) (by omega)]
      by_cases h2 : 1 < ls.length
      · rw [if_pos h2, if_pos h2, due_line]
      · rw [if_neg h2, if_neg h2, lawBounds_eq (by omega)]
        by_cases h3 : stepsOk ns = true
        · rw [if_pos h3, due_ok rfl, and_if h3] <;> rfl
        · rw [if_neg h3, if_neg (fun z => h3 z.1), due_line]
theorem due_tree (ls : List (List Nat)) : dueOf (lawTreeR ls) ls = readTree ls := by
  have bad : (∀ c, numsOf (ls.headD []) wTree ≠ some [c]) → lawTreeR ls = .line (some 0) ∧ readTree ls = .line (some 0) := fun hno => by
    unfold lawTreeR readTree
    constructor
    · split
      · rename_i c e
        exact absurd e (hno c)
      · rfl
    · split
      · rename_i c e
        exact absurd e (hno c)
      · rfl
  by_cases hg : ∃ c, numsOf (ls.headD []) wTree = some [c]
  · obtain ⟨c, hn⟩ := hg
    cases hl : levels 1 [] 1 ls.tail with
    | inl i =>
      have e1 : lawTreeR ls = .line (some i) := by
        unfold lawTreeR
        rw [hn]
        dsimp only
        rw [hl]
      have e2 : readTree ls = .line (some i) := by
        unfold readTree
        rw [hn]
        dsimp only
        rw [hl]
      rw [e1, e2, due_line]
    | inr told =>
      have e1 : lawTreeR ls = if ls.length < 3 then .line (some ls.length) else if lawTree c told = true then .tree c told else .line none := by
        unfold lawTreeR
        rw [hn]
        dsimp only
        rw [hl]
      have e2 : readTree ls = if ls.length < 3 then .line (some ls.length) else if treeOk c told = true ∧ treeT c told = TL.joinL [10] ls then .tree c told else .line none := by
        unfold readTree
        rw [hn]
        dsimp only
        rw [hl]
      rw [e1, e2]
      by_cases h2 : ls.length < 3
      · rw [if_pos h2, if_pos h2, due_line]
      · have hs := (levels_size hl (by rw [List.length_tail]; omega)).1
        rw [if_neg h2, if_neg h2, lawTree_eq hs]
        by_cases h3 : treeOk c told = true
        · rw [if_pos h3, due_ok rfl, and_if h3] <;> rfl
        · rw [if_neg h3, if_neg (fun z => h3 z.1), due_line]
  · obtain ⟨e1, e2⟩ := bad fun c e => hg ⟨c, e⟩
    rw [e1, e2, due_line]
theorem due_weights (ls : List (List Nat)) : dueOf (lawWeightsR ls) ls = readWeights ls := by
  by_cases h : ls.headD [] ≠ wWeights
  · have e1 : lawWeightsR ls = .line (some 0) := if_pos h
    have e2 : readWeights ls = .line (some 0) := if_pos h
    rw [e1, e2, due_line]
  · cases hl : readRows 1 ls.tail with
    | inl i =>
      have e1 : lawWeightsR ls = .line (some i) := by
        unfold lawWeightsR
        rw [if_neg h, hl]
      have e2 : readWeights ls = .line (some i) := by
        unfold readWeights
        rw [if_neg h, hl]
      rw [e1, e2, due_line]
    | inr rows =>
      have e1 : lawWeightsR ls = if rows = [] then .line (some 1) else if rowsOk rows = true then .weights rows else .line none := by
        unfold lawWeightsR
        rw [if_neg h, hl]
      have e2 : readWeights ls = if rows = [] then .line (some 1) else if rowsOk rows = true ∧ weightsT rows = TL.joinL [10] ls then .weights rows else .line none := by
        unfold readWeights
        rw [if_neg h, hl]
      rw [e1, e2]
      by_cases h2 : rows = []
      · rw [if_pos h2, if_pos h2, due_line]
      · rw [if_neg h2, if_neg h2]
        by_cases h3 : rowsOk rows = true
        · rw [if_pos h3, due_ok rfl, and_if h3] <;> rfl
        · rw [if_neg h3, if_neg (fun z => h3 z.1), due_line]
/-- lines that a law's reading takes -/
def LinesOk (ls : List (List Nat)) : Prop := ls ≠ [] ∧ ls.length ≤ 6000 ∧ ∀ z ∈ ls, z.length ≤ 6000 ∧ CpOk z
section
variable {P : Program} {w : World} {K : PySem.W.Frag} {mg : Str → Option Value} {base : Heap}
/-! ### _law_read_steps -/
theorem s_law_read_steps : FnScope ["_law_lines", "_law_numbers_here"] ["_law_lines"] (defScope d_law_read_steps.st) := C8.fnScope_by (by decide +kernel)
abbrev SpLawRead (rd : List (List Nat) → Rs) : Sp := SpR (fun a : Addr × List (List Nat) => [.ref a.1]) (fun a H => H a.1 = some (.lst (txts a.2)) ∧ LinesOk a.2) (fun a => isRs (rd a.2))
/-- ['line', e] -/
theorem vr_line {X : Cx} {e1 e2 : Expr} {σ : L2.St} {H : Hp} {pos : Pos} {o : Option Nat} (h1 : VX X e1 σ H (.str (SX.S wLine))) (h2 : VX X e2 σ H (lineV o)) (hs : starEach [e1, e2] X.env = (false, eval e1 X.env) :: starEach [e2] X.env := by rfl) (hs2 : starEach [e2] X.env = (false, eval e2 X.env) :: starEach [] X.env := by rfl) : VR X (.List [e1, e2] pos) σ H (isRs (.line o)) :=
  VR.imp (VL.rel (vl_disp (va_cons h1 (va_one h2 hs2) hs) (by show 2 ≤ 1000000; decide))) fun v H1 H2 _ _ r => by
    obtain ⟨p, rfl, _, hp⟩ := r
    exact ⟨p, rfl, hp⟩
theorem c_law_read_steps (T : Tx K mg) : CalX P w K mg base CX0 3 d_law_read_steps ["_law_lines"] (SpLawRead lawSteps) := by
  refine CalX.of0 (f_law_read_steps T) b_law_read_steps s_law_read_steps (fun vs H Q E h => ?_) (fun cdv A outer s H vs Q E hr h => ?_)
  · obtain ⟨a, rfl, _⟩ := h
    rfl
  · obtain ⟨⟨p, ls⟩, rfl, ⟨hp, hne, hcount, hls⟩, hQ⟩ := h
    have nd := s_law_read_steps.nd
    have hp : H p = some (.lst (txts ls)) := hp
    obtain ⟨u, us, rfl⟩ := List.exists_cons_of_ne_nil hne
    obtain ⟨hu1, hu2⟩ := hls u (List.mem_cons_self ..)
    refine WS.here (w_setR 1 nd (vr_call (u, wSteps) (c_law_line T) hr (by decide) T.g_law_line (va_cons (v_ixN (i := 0) (VX.seq (v_var 0) (sq_of hp)) v_int rfl) (va_one (v_lit (t := wSteps) (by decide +kernel)))) (fun _ _ => ⟨Nat.le_trans hu1 (by decide), hu2⟩) fun v H1 H2 H3 e r => isNums_back e r) fun v H1 H2 e1 e2 r => ?_)
    have r : isNums (numsOf u wSteps) v H1 H2 := r
    have eH := e1.trans e2
    have hlaw : lawSteps (u :: us) = match numsOf u wSteps with
        | some ns => if ns.length < 2 then .line (some 0) else if 1 < (u :: us).length then .line (some 1) else if lawBounds ns = true then .steps ns else .line none
        | none => .line (some 0) := rfl
    cases hn : numsOf u wSteps with
    | none =>
      rw [hn] at r hlaw
      have r : v = .non := r
      subst r
      refine w_when (b := true) (VT.is (VW.t (vw_or (l := true) (vt_isN (v_var 1)) fun hb => by simp at hb)) (by simp)) (fun _ => w_retR (vr_line (o := some 0) (v_lit (by decide +kernel)) v_int) fun v H3 H4 e3 e4 r => hQ _ _ (eH.trans (e3.trans e4)) ?_) fun hb => by cases hb
      show isRs (lawSteps (u :: us)) _ _ _
      rw [hlaw]
      exact r
    | some ns =>
      rw [hn] at r hlaw
      dsimp only at hlaw
      obtain ⟨q, rfl, hq0, hq1⟩ := (show isNewL (ints_ ns) v H1 H2 from r)
      have hq : SqL K H2 q (ints_ ns) := sq_of hq1
      refine w_when (VT.is (b := decide (ns.length < 2)) (VW.t (vw_or (vt_isN (v_var 1)) fun _ => vw_or1 (vt_lt (v_len T.n_len (VX.seq (v_var 1) hq)) v_int))) ?_) (fun hb => w_retR (vr_line (o := some 0) (v_lit (by decide +kernel)) v_int) fun v H3 H4 e3 e4 r => hQ _ _ (eH.trans (e3.trans e4)) ?_) fun hb => ?_
      · rw [ints_len, Bool.eq_iff_iff]
        simp
        omega
      · show isRs (lawSteps (u :: us)) _ _ _
        rw [hlaw, if_pos (of_decide_eq_true hb)]
        exact r
      · have h2 : ¬ ns.length < 2 := of_decide_eq_false hb
        rw [if_neg h2] at hlaw
        refine w_when (vt_gt (v_len T.n_len (VX.seq (v_var 0) (sq_of (eH _ _ hp)))) v_int) (fun hb => w_retR (vr_line (o := some 1) (v_lit (by decide +kernel)) v_int) fun v H3 H4 e3 e4 r => hQ _ _ (eH.trans (e3.trans e4)) ?_) fun hb => ?_
        · show isRs (lawSteps (u :: us)) _ _ _
          rw [hlaw, if_pos]
          · exact r
          · rw [txts_len] at hb
            have := of_decide_eq_true hb
            omega
        · have h3 : ¬ 1 < (u :: us).length := by
            intro z
            rw [txts_len, decide_eq_true (by omega)] at hb
            cases hb
          rw [if_neg h3] at hlaw
          have hnl : ns.length ≤ 20000 := Nat.le_trans (numsOf_len hn) (by omega)
          refine w_retR (vr_if (k := lawBounds ns) (R := isRs (lawSteps (u :: us))) (vt_val (v_call (q, ns) (c_law_are_bounds T) hr (by decide) T.g_law_are_bounds (va_one (v_var 1)) fun H3 e3 => ⟨e3 _ _ hq1, (by show 1 < ns.length; omega), hnl⟩)) (fun hb => ?_) (fun hb => ?_) (fun _ _ _ _ _ r => r)) fun v H3 H4 e3 e4 r => hQ _ _ (eH.trans (e3.trans e4)) r
          · rw [hlaw, if_pos hb]
            refine VR.imp (VL.rel (vl_disp (va_cons (v_lit (t := wSteps) (by decide +kernel)) (va_one (v_var 1))) (by show 2 ≤ 1000000; decide))) fun v H3 H4 e3 e4 r => ?_
            obtain ⟨p2, rfl, _, hp2⟩ := r
            exact ⟨p2, rfl, q, hp2, (e3.trans e4) _ _ hq1⟩
          · rw [hlaw, if_neg (by rw [hb]; decide)]
            exact vr_line (o := none) (v_lit (by decide +kernel)) v_non
end
end K75
/-! the law's defs: _law_read_tree -/
namespace K75
open PySem PySem.Spec PyProof.Rows L2 Evl He
theorem VW.cast {X : Cx} {e : Expr} {σ : L2.St} {H : Hp} {a b : Bool} (h : VW X e σ H a) (k : a = b) : VW X e σ H b := by
  subst k
  exact h
section
variable {P : Program} {w : World} {K : PySem.W.Frag} {mg : Str → Option Value} {base : Heap}
abbrev N_law_read_tree : List Str := ["_law_lines", "_law_numbers_here", "_law_at", "_law_is_so", "_law_told", "_law_many", "_law_level", "_law_one"]
theorem s_law_read_tree : FnScope N_law_read_tree ["_law_lines"] (defScope d_law_read_tree.st) := C8.fnScope_by (by decide +kernel)
theorem c_law_read_tree (T : Tx K mg) : CalX P w K mg base CX0 3 d_law_read_tree ["_law_lines"] (SpLawRead lawTreeR) := by
  refine CalX.of0 (f_law_read_tree T) b_law_read_tree s_law_read_tree (fun vs H Q E h => ?_) (fun cdv A outer s H vs Q E hr h => ?_)
  · obtain ⟨a, rfl, _⟩ := h
    rfl
  · obtain ⟨⟨p, ls⟩, rfl, ⟨hp, hne, hcount, hls⟩, hQ⟩ := h
    have nd := s_law_read_tree.nd
    have hp : H p = some (.lst (txts ls)) := hp
    have hcount : ls.length ≤ 6000 := hcount
    obtain ⟨u, us, rfl⟩ := List.exists_cons_of_ne_nil hne
    obtain ⟨hu1, hu2⟩ := hls u (List.mem_cons_self ..)
    have hQ : ∀ v H', Ex H H' → isRs (lawTreeR (u :: us)) v H H' → Q v H' := hQ
    refine WS.here (w_setR 1 nd (vr_call (u, wTree) (c_law_line T) hr (by decide) T.g_law_line (va_cons (v_ixN (i := 0) (VX.seq (v_var 0) (sq_of hp)) v_int rfl) (va_one (v_lit (t := wTree) (by decide +kernel)))) (fun _ _ => ⟨Nat.le_trans hu1 (by decide), hu2⟩) fun v H1 H2 H3 e r => isNums_back e r) fun v H1 H2 e1 e2 r => ?_)
    have r : isNums (numsOf u wTree) v H1 H2 := r
    have eH := e1.trans e2
    have bad0 : (∀ c, numsOf u wTree ≠ some [c]) → lawTreeR (u :: us) = .line (some 0) := fun hno => by
      unfold lawTreeR
      rw [List.headD_cons]
      split
      · rename_i c e
        exact absurd e (hno c)
      · rfl
    cases hn : numsOf u wTree with
    | none =>
      rw [hn] at r
      have r : v = .non := r
      subst r
      refine w_when (b := true) (VT.is (VW.t (vw_or (l := true) (vt_isN (v_var 1)) fun hb => by simp at hb)) (by simp)) (fun _ => w_retR (vr_line (o := some 0) (v_lit (by decide +kernel)) v_int) fun v H3 H4 e3 e4 r => hQ _ _ (eH.trans (e3.trans e4)) ?_) fun hb => by cases hb
      rw [bad0 (fun c e => by rw [hn] at e; cases e)]
      exact r
    | some ns =>
      rw [hn] at r
      obtain ⟨q, rfl, hq0, hq1⟩ := (show isNewL (ints_ ns) v H1 H2 from r)
      have hq : SqL K H2 q (ints_ ns) := sq_of hq1
      refine w_when (VT.is (b := !decide (ns.length = 1)) (VW.t (vw_or (vt_isN (v_var 1)) fun _ => vw_or1 (vt_ne (v_len T.n_len (VX.seq (v_var 1) hq)) v_int rfl))) ?_) (fun hb => w_retR (vr_line (o := some 0) (v_lit (by decide +kernel)) v_int) fun v H3 H4 e3 e4 r => hQ _ _ (eH.trans (e3.trans e4)) ?_) fun hb => ?_
      · rw [ints_len, Bool.eq_iff_iff]
        simp
        omega
      · rw [bad0 (fun c e => by
          rw [hn] at e
          cases e
          simp at hb)]
        exact r
      · have h1 : ns.length = 1 := by simpa using hb
        obtain ⟨c, rfl⟩ := List.length_eq_one_iff.mp h1
        have hlaw : lawTreeR (u :: us) = match levels 1 [] 1 us with
            | .inl i => .line (some i)
            | .inr told => if (u :: us).length < 3 then .line (some (u :: us).length) else if lawTree c told = true then .tree c told else .line none := by
          unfold lawTreeR
          rw [List.headD_cons, hn, List.tail_cons] <;> rfl
        have hp2 := eH _ _ hp
        refine w_par 4 5 nd (VL.rel (xs := ints_ []) (vl_disp va_nil (Nat.zero_le _))) (VX.rel (v := .int ((1 : Nat) : Int)) v_int) fun v2 v3 H3 H4 H5 e3 e4 e5 r3 r4 => ?_
        obtain ⟨t0, rfl, _, ht0⟩ := r3
        subst r4
        have e25 := e3.trans (e4.trans e5)
        refine w_forR2 (l := 1) (k := (txts (u :: us)).length) 2 T.n_range v_int (v_len T.n_len (VX.seq (v_var 0) (sq_of (e25 _ _ hp2)))) (by rw [txts_len]; omega) (by decide) (pg_name (i := 2) nd rfl (Or.inl rfl))
          (fun i σ' H' => ∃ (t : Addr) (told : List Nat) (x2 x6 : Option V), σ' = [some (.ref p), some (.ref q), x2, none, some (.ref t), some (.int ((2 ^ i : Nat) : Int)), x6, none] ∧ Ex H2 H' ∧ H' t = some (.lst (ints_ told)) ∧ told.length + 1 = 2 ^ i ∧ i ≤ 6 ∧ levels 1 [] 1 us = levels (i + 1) told (2 ^ i) (us.drop i))
          (fun H6 e6 => ⟨t0, [], none, none, rfl, e25.trans e6, e6 _ _ (e5 _ _ ht0), rfl, by decide, rfl⟩) (fun i σ' H6 hi hP => ?_) (fun σ' H6 hP => ?_) PassesOwn.never
        · obtain ⟨t, told, x2, x6, rfl, e26, ht, hlen2, hi6, hlv⟩ := hP
          rw [txts_len, List.length_cons] at hi
          have hi : i < us.length := by omega
          obtain ⟨hl1, hl2⟩ := hls us[i] (List.mem_cons_of_mem _ (List.getElem_mem hi))
          have hlv2 : levels 1 [] 1 us = levels (i + 1) told (2 ^ i) (us[i] :: us.drop (i + 1)) := by rw [hlv, List.drop_eq_getElem_cons hi]
          rw [levels_cons] at hlv2
          have hline : (txts (u :: us))[1 + i]? = some (.str (SX.S us[i])) := by
            rw [txts, List.getElem?_map, Nat.add_comm, List.getElem?_cons_succ, List.getElem?_eq_getElem hi] <;> rfl
          refine WS.here (w_setR 6 nd (vr_call (us[i], wTold) (c_law_line T) hr (by decide) T.g_law_line (va_cons (v_ixN (i := 1 + i) (VX.seq (v_var 0) (sq_of (e26 _ _ hp2))) (v_var 2) hline) (va_one (v_lit (t := wTold) (by decide +kernel)))) (fun _ _ => ⟨Nat.le_trans hl1 (by decide), hl2⟩) fun v H1 H2 H3 e r => isNums_back e r) fun v H7 H8 e7 e8 r => ?_)
          have r : isNums (numsOf us[i] wTold) v H7 H8 := r
          have e68 := e7.trans e8
          have eH8 := eH.trans (e26.trans e68)
          have badi : lawTreeR (u :: us) = .line (some (i + 1)) → ∀ v H9 H10, Ex H8 H9 → Ex H9 H10 → isRs (.line (some (1 + i))) v H9 H10 → Q v H10 := fun he v H9 H10 e9 e10 r => hQ _ _ (eH8.trans (e9.trans e10)) (by
            rw [he, Nat.add_comm]
            exact r)
          cases hnl : numsOf us[i] wTold with
          | none =>
            rw [hnl] at r hlv2
            have r : v = .non := r
            subst r
            refine w_when (b := true) (VT.is (VW.t (vw_or (l := true) (vt_gt (v_var 2) v_int) fun _ => VW.cast (vw_or (l := true) (vt_isN (v_var 6)) fun hb => by simp at hb) (by simp))) (by simp)) (fun _ => w_retR (vr_line (o := some (1 + i)) (v_lit (by decide +kernel)) (v_var 2)) fun v H9 H10 e9 e10 r => badi ?_ v H9 H10 e9 e10 r) fun hb => by cases hb
            rw [hlaw, hlv2]
          | some lv =>
            rw [hnl] at r hlv2
            dsimp only at hlv2
            obtain ⟨t2, rfl, ht20, ht21⟩ := (show isNewL (ints_ lv) v H7 H8 from r)
            have hlvq : SqL K H8 t2 (ints_ lv) := sq_of ht21
            refine w_when (VT.is (b := !decide (i + 1 ≤ 6 ∧ lv.length = 2 ^ i)) (VW.t (vw_or (vt_gt (v_var 2) v_int) fun _ => vw_or (vt_isN (v_var 6)) fun _ => vw_or1 (vt_ne (v_len T.n_len (VX.seq (v_var 6) hlvq)) (v_var 5) rfl))) ?_) (fun hb => w_retR (vr_line (o := some (1 + i)) (v_lit (by decide +kernel)) (v_var 2)) fun v H9 H10 e9 e10 r => badi ?_ v H9 H10 e9 e10 r) fun hb => ?_
            · rw [ints_len, Bool.eq_iff_iff]
              simp only [Bool.or_eq_true, Bool.not_eq_true', decide_eq_true_eq, decide_eq_false_iff_not]
              constructor
              · rintro (h1 | h1 | h1) ⟨h2, h3⟩
                · omega
                · cases h1
                · exact h1 (by rw [h3])
              · intro h1
                by_cases h2 : i + 1 ≤ 6
                · exact .inr (.inr fun z => h1 ⟨h2, Int.ofNat.inj (V.int.inj z)⟩)
                · exact .inl (by omega)
            · rw [Bool.not_eq_true'] at hb
              rw [hlaw, hlv2, if_neg (of_decide_eq_false hb)]
            · have hb : i + 1 ≤ 6 ∧ lv.length = 2 ^ i := by
                rw [Bool.not_eq_false'] at hb
                exact of_decide_eq_true hb
              rw [if_pos hb] at hlv2
              have e2i : 2 * 2 ^ i = 2 ^ (i + 1) := by rw [Nat.pow_succ, Nat.mul_comm]
              have hpow : 2 ^ (i + 1) ≤ 2 ^ 6 := Nat.pow_le_pow_right (by decide) hb.1
              have hp64 : 2 ^ (i + 1) ≤ 64 := hpow
              have ht8 := e68 _ _ ht
              refine w_par 4 5 nd (VL.rel (xs := ints_ (told ++ lv)) (VL.is (vl_cat (VX.m (v_var 4) ht8) (VX.m (v_var 6) ht21) (by rw [ints_len, ints_len]; omega)) (ints_app told lv))) (VX.rel (v := .int ((2 ^ (i + 1) : Nat) : Int)) (VX.is (v_mul v_int (v_var 5) (.inl ⟨by decide, by decide⟩)) (by rw [← e2i, Int.natCast_mul] <;> rfl))) fun v4 v5 H9 H10 H11 e9 e10 e11 r9 r10 => w_nil fun H12 e12 => ?_
              obtain ⟨t3, rfl, _, ht31⟩ := r9
              subst r10
              have e812 := (e9.trans e10).trans (e11.trans e12)
              refine ⟨t3, told ++ lv, _, _, rfl, e26.trans (e68.trans e812), e12 _ _ (e11 _ _ ht31), ?_, hb.1, ?_⟩
              · rw [List.length_append, hb.2, ← e2i]
                omega
              · rw [hlv2, e2i]
        · obtain ⟨t, told, x2, x6, rfl, e26, ht, hlen2, hi6, hlv⟩ := hP
          have hk : (txts (u :: us)).length - 1 = us.length := by rw [txts_len, List.length_cons]; omega
          rw [hk] at hlv hlen2 hi6
          rw [List.drop_length] at hlv
          have hlv2 : levels 1 [] 1 us = .inr told := hlv
          rw [hlv2] at hlaw
          dsimp only at hlaw
          have eH6 := eH.trans e26
          have hp6 : SqL K H6 p (txts (u :: us)) := sq_of (e26 _ _ hp2)
          have hq6 : SqL K H6 q (ints_ [c]) := ex_l e26 hq
          have h64 : 2 ^ us.length ≤ 2 ^ 6 := Nat.pow_le_pow_right (by decide) hi6
          have h64' : told.length ≤ 63 := by
            have : 2 ^ us.length ≤ 64 := h64
            omega
          refine WS.here (w_when (vt_lt (v_len T.n_len (VX.seq (v_var 0) hp6)) v_int) (fun hb => w_retR (vr_line (o := some (txts (u :: us)).length) (v_lit (by decide +kernel)) (v_len T.n_len (VX.seq (v_var 0) hp6))) fun v H7 H8 e7 e8 r => hQ _ _ (eH6.trans (e7.trans e8)) ?_) fun hb => ?_)
          · rw [txts_len] at hb r
            rw [hlaw, if_pos (by have := of_decide_eq_true hb; omega)]
            exact r
          · have h3 : ¬ (u :: us).length < 3 := by
              intro z
              rw [txts_len, decide_eq_true (by omega)] at hb
              cases hb
            rw [if_neg h3] at hlaw
            refine w_set 3 nd (VX.is (x := .bl (lawTree c told)) (v_and (v_lele v_int (v_ixN (v := .int ((c : Nat) : Int)) (i := 0) (VX.seq (v_var 1) hq6) v_int rfl) v_int) fun _ => v_one (v_eqD (d1 := .list ((told.filter fun x => decide (c < x)).map fun n => PyData.int ((n : Nat) : Int))) (d2 := .list []) hr.units
              (VS.ints (VL.seq (VL.is (vl_filter (zs := told) (p := fun x => decide (c < x)) (f := fun n => V.int ((n : Nat) : Int)) (g' := fun n => V.int ((n : Nat) : Int)) (j := 7) (own := [("_law_one", 7)]) rfl nd ((vi_list (VX.seq (v_var 4) (sq_of ht))).cast (ints_len told)) (by omega)
                (blkOk_by (N := N_law_read_tree) (sc := defScope d_law_read_tree.st) (by decide +kernel)) (fun _ _ _ _ _ => pg_name (i := 7) nd rfl (Or.inl rfl)) (fun _ => rfl)
                (fun s H0 C cl fp z _ => VT.is (vt_gt (v_var 7) (v_ixN (v := .int ((c : Nat) : Int)) (i := 0) (VX.seq (v_var 1) hq6) v_int rfl)) (by simp)) (fun s H0 C cl fp z _ _ => v_var 7)) rfl))) (VL.dp (vl_disp va_nil (Nat.zero_le _)) .nil) ((shk_ints _).shaped (by decide)) (ShK.shaped (shk_list (k := 0) fun d hd => nomatch hd) (by decide)))) ?_) ?_
            · have eA : (decide ((1 : Int) ≤ ((c : Nat) : Int)) && decide (((c : Nat) : Int) ≤ 8)) = (decide (1 ≤ c) && decide (c ≤ 8)) := by
                rw [Bool.eq_iff_iff]
                simp
                omega
              have eB : decide ((told.filter fun x => decide (c < x)) = []) = told.all fun x => decide (x ≤ c) := by
                rw [Bool.eq_iff_iff, decide_eq_true_eq, List.filter_eq_nil_iff, List.all_eq_true]
                constructor
                · intro h x hx
                  have := h x hx
                  simp at this ⊢
                  omega
                · intro h x hx
                  have := h x hx
                  simp at this ⊢
                  omega
              rw [eqv_ints_nil, eA, eB] <;> rfl
            · refine w_retR (vr_if (k := lawTree c told) (R := isRs (lawTreeR (u :: us))) (vt_val (v_var 3)) (fun hb => ?_) (fun hb => ?_) (fun _ _ _ _ _ r => r)) fun v H7 H8 e7 e8 r => hQ _ _ (eH6.trans (e7.trans e8)) r
              · rw [hlaw, if_pos hb]
                refine VR.imp (VL.rel (vl_disp (va_cons (v_lit (t := wTree) (by decide +kernel)) (va_cons (v_ixN (v := .int ((c : Nat) : Int)) (i := 0) (VX.seq (v_var 1) hq6) v_int rfl) (va_one (v_var 4)))) (by show 3 ≤ 1000000; decide))) fun v H7 H8 e7 e8 r => ?_
                obtain ⟨p2, rfl, _, hp2⟩ := r
                exact ⟨p2, rfl, t, hp2, (e7.trans e8) _ _ ht⟩
              · rw [hlaw, if_neg (by rw [hb]; decide)]
                exact vr_line (o := none) (v_lit (by decide +kernel)) v_non
end
end K75
/-! the law's defs: _law_read_weights -/
namespace K75
open PySem PySem.Spec PyProof.Rows L2 Evl He
theorem rows_zip {H : Hp} : ∀ {rs : List Addr} {rows : List (Nat × Nat)}, RowsAt H rs rows → ∀ z ∈ rs.zip rows, H z.1 = some (.lst (ints_ [z.2.1, z.2.2]))
  | _, _, .nil, z, hz => by cases hz
  | _, _, .cons h t, z, hz => by
    rcases List.mem_cons.mp hz with e | e
    · subst e
      exact h
    · exact rows_zip t z e
theorem rows_len {H : Hp} {rs : List Addr} {rows : List (Nat × Nat)} (h : RowsAt H rs rows) : rs.length = rows.length := Paired.length h
theorem zip_map1 : ∀ {rs : List Addr} {rows : List (Nat × Nat)}, rs.length = rows.length → (rs.zip rows).map (fun z => V.ref z.1) = rs.map V.ref
  | [], [], _ => rfl
  | _ :: _, _ :: _, h => by
    rw [List.zip_cons_cons, List.map_cons, List.map_cons, zip_map1 (by simpa using h)]
  | [], _ :: _, h => by simp at h
  | _ :: _, [], h => by simp at h
theorem zip_all : ∀ {rs : List Addr} {rows : List (Nat × Nat)} {f : Nat × Nat → Bool}, rs.length = rows.length → ((rs.zip rows).all fun z => f z.2) = rows.all f
  | [], [], _, _ => rfl
  | _ :: _, _ :: _, f, h => by
    rw [List.zip_cons_cons, List.all_cons, List.all_cons, zip_all (by simpa using h)]
  | [], _ :: _, _, h => by simp at h
  | _ :: _, [], _, h => by simp at h
theorem rows_get {H : Hp} : ∀ {rs : List Addr} {rows : List (Nat × Nat)} {i : Nat}, RowsAt H rs rows → i < rows.length → ∃ r p, rs[i]? = some r ∧ rows[i]? = some p ∧ H r = some (.lst (ints_ [p.1, p.2]))
  | _, _, 0, .cons h t, _ => ⟨_, _, rfl, rfl, h⟩
  | _, _, i + 1, .cons h t, hi => by
    obtain ⟨r, p, h1, h2, h3⟩ := rows_get (i := i) t (by simpa using hi)
    exact ⟨r, p, by simpa using h1, by simpa using h2, h3⟩
theorem RowsAt.snoc {H : Hp} {r : Addr} {p : Nat × Nat} (hr : H r = some (.lst (ints_ [p.1, p.2]))) : ∀ {rs : List Addr} {rows : List (Nat × Nat)}, RowsAt H rs rows → RowsAt H (rs ++ [r]) (rows ++ [p])
  | _, _, .nil => .cons hr .nil
  | _, _, .cons h t => .cons h (RowsAt.snoc hr t)
theorem dp_zip {K : PySem.W.Frag} {H : Hp} : ∀ {zs : List (Addr × (Nat × Nat))}, (∀ z ∈ zs, H z.1 = some (.lst (ints_ [z.2.1, z.2.2]))) → DpAll K H (zs.map fun z => V.ref z.1) (zs.map fun z => PyData.list ([z.2.1, z.2.2].map fun n => PyData.int ((n : Nat) : Int)))
  | [], _ => .nil
  | z :: r, h => .cons (.lst (sq_of (h z (List.mem_cons_self ..))) (dp_ints [_, _])) (dp_zip fun z hz => h z (List.mem_cons_of_mem _ hz))
theorem shk_zip (zs : List (Addr × (Nat × Nat))) : ShK 2 (.list (zs.map fun z => PyData.list ([z.2.1, z.2.2].map fun n => PyData.int ((n : Nat) : Int)))) := shk_list fun d hd => by
  obtain ⟨q, _, rfl⟩ := List.mem_map.mp hd
  exact shk_ints [q.2.1, q.2.2]
theorem VS.cast {X : Cx} {e : Expr} {σ : L2.St} {H : Hp} {xs ys : List V} (h : VS X e σ H xs) (k : xs = ys) : VS X e σ H ys := by
  subst k
  exact h
theorem asc_getD (l : List Nat) : ((List.range (l.length - 1)).filter fun i => decide (l.getD (i + 1) 0 ≤ l.getD i 0)) = [] ↔ asc l = true := asc_range l
section
variable {P : Program} {w : World} {K : PySem.W.Frag} {mg : Str → Option Value} {base : Heap}
abbrev N_law_read_weights : List Str := ["_law_lines", "_law_rows", "_law_at", "_law_is_so", "_law_row"]
theorem s_law_read_weights : FnScope N_law_read_weights ["_law_lines"] (defScope d_law_read_weights.st) := C8.fnScope_by (by decide +kernel)
theorem c_law_read_weights (T : Tx K mg) : CalX P w K mg base CX0 3 d_law_read_weights ["_law_lines"] (SpLawRead lawWeightsR) := by
  refine CalX.of0 (f_law_read_weights T) b_law_read_weights s_law_read_weights (fun vs H Q E h => ?_) (fun cdv A outer s H vs Q E hr h => ?_)
  · obtain ⟨a, rfl, _⟩ := h
    rfl
  · obtain ⟨⟨p, ls⟩, rfl, ⟨hp, hne, hcount, hls⟩, hQ⟩ := h
    have nd := s_law_read_weights.nd
    have hp : H p = some (.lst (txts ls)) := hp
    have hcount : ls.length ≤ 6000 := hcount
    obtain ⟨u, us, rfl⟩ := List.exists_cons_of_ne_nil hne
    have hQ : ∀ v H', Ex H H' → isRs (lawWeightsR (u :: us)) v H H' → Q v H' := hQ
    refine WS.here (w_when (vt_neS (p := u) (q := wWeights) (v_ixN (i := 0) (VX.seq (v_var 0) (sq_of hp)) v_int rfl) (v_lit (by decide +kernel))) (fun hb => w_retR (vr_line (o := some 0) (v_lit (by decide +kernel)) v_int) fun v H3 H4 e3 e4 r => hQ _ _ (e3.trans e4) ?_) fun hb => ?_)
    · have h1 : ¬ u = wWeights := by simpa using hb
      have e : lawWeightsR (u :: us) = .line (some 0) := if_pos h1
      rw [e]
      exact r
    have hu : u = wWeights := by simpa using hb
    subst hu
    have hlaw : lawWeightsR (wWeights :: us) = match readRows 1 us with
        | .inl i => .line (some i)
        | .inr rows => if rows = [] then .line (some 1) else if rowsOk rows = true then .weights rows else .line none := by
      unfold lawWeightsR
      rw [List.headD_cons, List.tail_cons, if_neg (fun z => z rfl)] <;> rfl
    refine w_setL 1 nd (vl_disp va_nil (Nat.zero_le _)) fun d H1 hd0 e1 hd1 => ?_
    refine w_forR2 (l := 1) (k := (txts (wWeights :: us)).length) 2 T.n_range v_int (v_len T.n_len (VX.seq (v_var 0) (sq_of (e1 _ _ hp)))) (by rw [txts_len]; omega) (by decide) (pg_name (i := 2) nd rfl (Or.inl rfl))
      (fun i σ' H' => ∃ (rs : List Addr) (done : List (Nat × Nat)) (x2 x4 : Option V), σ' = [some (.ref p), some (.ref d), x2, none, x4] ∧ Ex H H' ∧ H' d = some (.lst (rs.map V.ref)) ∧ RowsAt H' rs done ∧ d ∉ rs ∧ done.length = i ∧ readRows 1 us = (match readRows (i + 1) (us.drop i) with
        | .inr rows => .inr (done ++ rows)
        | .inl k => .inl k))
      (fun H2 e2 => ⟨[], [], none, none, rfl, e1.trans e2, e2 _ _ hd1, .nil, by simp, rfl, ?_⟩) (fun i σ' H2 hi hP => ?_) (fun σ' H2 hP => ?_) PassesOwn.never
    · rw [List.drop_zero]
      cases readRows 1 us <;> rfl
    · obtain ⟨rs, done, x2, x4, rfl, eH, hd, hrs, hnm, hlen2, hrd⟩ := hP
      rw [txts_len, List.length_cons] at hi
      have hi : i < us.length := by omega
      obtain ⟨hl1, hl2⟩ := hls us[i] (List.mem_cons_of_mem _ (List.getElem_mem hi))
      rw [List.length_cons] at hcount
      rw [List.drop_eq_getElem_cons hi] at hrd
      have hline : (txts (wWeights :: us))[1 + i]? = some (.str (SX.S us[i])) := by
        rw [txts, List.getElem?_map, Nat.add_comm, List.getElem?_cons_succ, List.getElem?_eq_getElem hi] <;> rfl
      refine WS.here (w_setR 4 nd (vr_call (us[i], wSize) (c_law_line T) hr (by decide) T.g_law_line (va_cons (v_ixN (i := 1 + i) (VX.seq (v_var 0) (sq_of (eH _ _ hp))) (v_var 2) hline) (va_one (v_lit (t := wSize) (by decide +kernel)))) (fun _ _ => ⟨Nat.le_trans hl1 (by decide), hl2⟩) fun v H1 H2 H3 e r => isNums_back e r) fun v H7 H8 e7 e8 r => ?_)
      have r : isNums (numsOf us[i] wSize) v H7 H8 := r
      have e28 := e7.trans e8
      have eH8 := eH.trans e28
      have badi : (∀ s w, numsOf us[i] wSize ≠ some [s, w]) → ∀ v H9 H10, Ex H8 H9 → Ex H9 H10 → isRs (.line (some (1 + i))) v H9 H10 → Q v H10 := fun hno v H9 H10 e9 e10 r => hQ _ _ (eH8.trans (e9.trans e10)) (by
        rw [readRows_bad hno] at hrd
        rw [hlaw, hrd, show i + 1 = 1 + i from Nat.add_comm i 1]
        exact r)
      cases hnl : numsOf us[i] wSize with
      | none =>
        rw [hnl] at r
        have r : v = .non := r
        subst r
        exact w_when (b := true) (VT.is (VW.t (vw_or (l := true) (vt_isN (v_var 4)) fun hb => by simp at hb)) (by simp)) (fun _ => w_retR (vr_line (o := some (1 + i)) (v_lit (by decide +kernel)) (v_var 2)) fun v H9 H10 e9 e10 r => badi (fun s w e => by rw [hnl] at e; cases e) v H9 H10 e9 e10 r) fun hb => by cases hb
      | some lv =>
        rw [hnl] at r
        obtain ⟨t2, rfl, ht20, ht21⟩ := (show isNewL (ints_ lv) v H7 H8 from r)
        have hlvq : SqL K H8 t2 (ints_ lv) := sq_of ht21
        refine w_when (VT.is (b := !decide (lv.length = 2)) (VW.t (vw_or (vt_isN (v_var 4)) fun _ => vw_or1 (vt_ne (v_len T.n_len (VX.seq (v_var 4) hlvq)) v_int rfl))) ?_) (fun hb => w_retR (vr_line (o := some (1 + i)) (v_lit (by decide +kernel)) (v_var 2)) fun v H9 H10 e9 e10 r => badi (fun s w e => ?_) v H9 H10 e9 e10 r) fun hb => ?_
        · rw [ints_len, Bool.eq_iff_iff]
          simp
          omega
        · rw [hnl] at e
          cases e
          simp at hb
        · have hb : lv.length = 2 := by simpa using hb
          obtain ⟨s0, w0, rfl⟩ : ∃ s0 w0, lv = [s0, w0] := by
            match lv, hb with
            | [a, b], _ => exact ⟨a, b, rfl⟩
          have hd8 := e28 _ _ hd
          have htd : t2 ≠ d := (ne_of_none (e7 _ _ hd) ht20).symm
          refine w_append 1 (v_var 4).rel hd8 (by rw [List.length_map, rows_len hrs]; omega) fun v H9 H10 e9 e10 r => w_nil fun H11 e11 => ?_
          subst r
          have e810 := e9.trans e10
          refine ⟨rs ++ [t2], done ++ [(s0, w0)], _, _, rfl, (Ex.mut (eH8.trans e810) hd0).trans e11, ?_, ?_, ?_, by rw [List.length_append, hlen2] <;> rfl, ?_⟩
          · rw [List.map_append]
            exact e11 _ _ upd_same
          · refine RowsAt.snoc (e11 _ _ (by rw [upd_ne htd]; exact e810 _ _ ht21)) (RowsAt.ex e11 ?_)
            have key : ∀ {l : List Addr} {m : List (Nat × Nat)}, d ∉ l → RowsAt H2 l m → RowsAt (upd H10 d (.lst (rs.map V.ref ++ [V.ref t2]))) l m := by
              intro l m hn h
              induction h with
              | nil => exact .nil
              | @cons a0 b0 l0 m0 h0 t0 ih =>
                simp only [List.mem_cons, not_or] at hn
                exact .cons (by rw [upd_ne (fun z => hn.1 z.symm)]; exact e810 _ _ (e28 _ _ h0)) (ih hn.2)
            exact key hnm hrs
          · intro hm
            rcases List.mem_append.mp hm with hm | hm
            · exact hnm hm
            · rw [List.mem_singleton] at hm
              exact htd hm.symm
          · rw [readRows_good hnl] at hrd
            rw [hrd]
            cases readRows (i + 1 + 1) (us.drop (i + 1)) with
            | inl k => rfl
            | inr rows => simp
    · obtain ⟨rs, rows, x2, x4, rfl, eH, hd, hrs, hnm, hlen2, hrd⟩ := hP
      have hk : (txts (wWeights :: us)).length - 1 = us.length := by rw [txts_len, List.length_cons]; omega
      rw [hk] at hrd hlen2
      rw [List.drop_length] at hrd
      rw [List.length_cons] at hcount
      have hrd2 : readRows 1 us = .inr rows := by
        rw [hrd]
        show Sum.inr (rows ++ []) = _
        rw [List.append_nil]
      rw [hrd2] at hlaw
      dsimp only at hlaw
      have hl := rows_len hrs
      refine WS.here (w_when (vt_eqD (d1 := .list (rows.map fun r => PyData.list ([r.1, r.2].map fun n => PyData.int ((n : Nat) : Int)))) (d2 := .list []) hr.units (VR.imp (v_var 1).rel fun v H3 H4 e3 e4 r => by
        subst r
        exact .lst (sq_of ((e3.trans e4) _ _ hd)) (dp_rows (hrs.ex (e3.trans e4)))) (VL.dp (vl_disp va_nil (Nat.zero_le _)) .nil) ((shk_list (k := 1) fun d hd => by
          obtain ⟨q, _, rfl⟩ := List.mem_map.mp hd
          exact shk_ints [q.1, q.2]).shaped (by decide)) (ShK.shaped (shk_list (k := 0) fun d hd => nomatch hd) (by decide))) (fun hb => w_retR (vr_line (o := some 1) (v_lit (by decide +kernel)) v_int) fun v H7 H8 e7 e8 r => hQ _ _ (eH.trans (e7.trans e8)) ?_) fun hb => ?_)
      · rw [eqv_list_nil] at hb
        have hb := of_decide_eq_true hb
        rw [hlaw, if_pos (by simpa using hb)]
        exact r
      · have hne : rows ≠ [] := by
          rw [eqv_list_nil] at hb
          intro z
          subst z
          simp at hb
        rw [if_neg hne] at hlaw
        have hrows : SqL K H2 d (rs.map V.ref) := sq_of hd
        have hlr : (rs.map V.ref).length = rows.length := by rw [List.length_map, hl]
        have zl : (rs.zip rows).length = rows.length := by rw [List.length_zip, hl, Nat.min_self]
        -- every row fits
        refine w_set 3 nd (VX.is (x := .bl (decide (rows.length ≤ 30) && rows.all rowOk)) (v_and (v_le (v_len T.n_len (VX.seq (v_var 1) hrows)) v_int) fun _ => v_one (v_eqD (d1 := .list (((rs.zip rows).filter fun z => !rowOk z.2).map fun z => PyData.list ([z.2.1, z.2.2].map fun n => PyData.int ((n : Nat) : Int)))) (d2 := .list []) hr.units
          (VL.dp (vl_filter (zs := rs.zip rows) (p := fun z => !rowOk z.2) (f := fun z => V.ref z.1) (g' := fun z => V.ref z.1) (j := 4) (own := [("_law_row", 4)]) rfl nd
            ((vi_list (VS.cast (VX.seq (v_var 1) hrows) (zip_map1 hl).symm)).cast (by rw [List.length_map])) (by rw [zl]; omega) (blkOk_by (N := N_law_read_weights) (sc := defScope d_law_read_weights.st) (by decide +kernel)) (fun _ _ _ _ _ => pg_name (i := 4) nd rfl (Or.inl rfl)) (fun _ => rfl)
            (fun s H0 C cl fp z hz => ?_) (fun s H0 C cl fp z hz _ => v_var 4)) (dp_zip fun z hz => rows_zip hrs z (List.mem_filter.mp hz).1))
          (VL.dp (vl_disp va_nil (Nat.zero_le _)) .nil) ((shk_zip _).shaped (by decide)) (ShK.shaped (shk_list (k := 0) fun d hd => nomatch hd) (by decide)))) ?_) ?_
        · have hz1 := rows_zip hrs z hz
          have hzq : SqL K H2 z.1 (ints_ [z.2.1, z.2.2]) := sq_of hz1
          exact VT.is (VW.t (vw_or (vt_not (vt_lele v_int (v_ixN (v := .int ((z.2.1 : Nat) : Int)) (i := 0) (VX.seq (v_var 4) hzq) v_int rfl) v_int)) fun _ => vw_or1 (vt_gt (v_ixN (v := .int ((z.2.2 : Nat) : Int)) (i := 1) (VX.seq (v_var 4) hzq) v_int rfl) v_int))) (by
            unfold rowOk
            rw [Bool.eq_iff_iff]
            simp
            omega)
        · rw [eqv_list_nil, hlr]
          congr 1
          have e1 : decide ((((rs.zip rows).filter fun z => !rowOk z.2).map fun z => PyData.list ([z.2.1, z.2.2].map fun n => PyData.int ((n : Nat) : Int))) = []) = rows.all rowOk := by
            rw [← zip_all (f := rowOk) hl, Bool.eq_iff_iff, decide_eq_true_eq, List.map_eq_nil_iff, List.filter_eq_nil_iff, List.all_eq_true]
            constructor
            · intro h z hz
              have := h z hz
              simpa using this
            · intro h z hz
              have := h z hz
              rw [this]
              decide
          rw [e1]
          congr 1
          rw [Bool.eq_iff_iff]
          simp
          omega
        · -- and they rise
          have hkl : (rows.map (·.1)).length = rows.length := List.length_map _
          refine w_set 3 nd (VX.is (x := .bl (rowsOk rows)) (v_and (v_var 3) fun _ => v_one (v_eqD (d1 := .list (((List.range ((rows.map (·.1)).length - 1)).filter fun i => decide ((rows.map (·.1)).getD (i + 1) 0 ≤ (rows.map (·.1)).getD i 0)).map fun n => PyData.int ((n : Nat) : Int))) (d2 := .list []) hr.units
            (VS.ints (VL.seq (VL.is (vl_filter (zs := List.range ((rows.map (·.1)).length - 1)) (p := fun i => decide ((rows.map (·.1)).getD (i + 1) 0 ≤ (rows.map (·.1)).getD i 0)) (f := fun i => V.int ((i : Nat) : Int)) (g' := fun i => V.int ((i : Nat) : Int)) (j := 2) (own := [("_law_at", 2)]) rfl nd
              (VI.rg (vi_range1 (k := (rows.map (·.1)).length - 1) T.n_range (VX.is (x := .int (((rows.map (·.1)).length - 1 : Nat) : Int)) (v_sub (v_len T.n_len (VX.seq (v_var 1) hrows)) v_int) (by rw [hlr, hkl]; have := List.length_pos_iff.mpr hne; congr 1; omega)) (by rw [hkl]; omega))) (by rw [List.length_range, hkl]; omega) (blkOk_by (N := N_law_read_weights) (sc := defScope d_law_read_weights.st) (by decide +kernel)) (fun _ _ _ _ _ => pg_name (i := 2) nd rfl (Or.inl rfl)) (fun _ => rfl)
              (fun s H0 C cl fp i hi => ?_) (fun s H0 C cl fp i _ _ => v_var 2)) rfl))) (VL.dp (vl_disp va_nil (Nat.zero_le _)) .nil) ((shk_ints _).shaped (by decide)) (ShK.shaped (shk_list (k := 0) fun d hd => nomatch hd) (by decide)))) ?_) ?_
          · rw [List.mem_range, hkl] at hi
            obtain ⟨r0, p0, g1, g2, g3⟩ := rows_get (i := i) hrs (by omega)
            obtain ⟨r1, p1, g4, g5, g6⟩ := rows_get (i := i + 1) hrs (by omega)
            have k1 : (rs.map V.ref)[i]? = some (.ref r0) := by rw [List.getElem?_map, g1] <;> rfl
            have k2 : (rs.map V.ref)[i + 1]? = some (.ref r1) := by rw [List.getElem?_map, g4] <;> rfl
            have m1 : (rows.map (·.1)).getD i 0 = p0.1 := by rw [List.getD_eq_getElem?_getD, List.getElem?_map, g2] <;> rfl
            have m2 : (rows.map (·.1)).getD (i + 1) 0 = p1.1 := by rw [List.getD_eq_getElem?_getD, List.getElem?_map, g5] <;> rfl
            exact VT.is (vt_ge (v_ixN (v := .int ((p0.1 : Nat) : Int)) (i := 0) (VX.seq (v_ixN (i := i) (VX.seq (v_var 1) hrows) (v_var 2) k1) (sq_of g3)) v_int rfl) (v_ixN (v := .int ((p1.1 : Nat) : Int)) (i := 0) (VX.seq (v_ixN (i := i + 1) (VX.seq (v_var 1) hrows) (VX.is (x := .int ((i + 1 : Nat) : Int)) (v_add (v_var 2) v_int) rfl) k2) (sq_of g6)) v_int rfl)) (by rw [m1, m2]; simp)
          · rw [eqv_ints_nil]
            unfold rowsOk
            congr 2
            rw [Bool.eq_iff_iff, decide_eq_true_eq]
            exact asc_getD _
          · refine w_retR (vr_if (k := rowsOk rows) (R := isRs (lawWeightsR (wWeights :: us))) (vt_val (v_var 3)) (fun hb => ?_) (fun hb => ?_) (fun _ _ _ _ _ r => r)) fun v H7 H8 e7 e8 r => hQ _ _ (eH.trans (e7.trans e8)) r
            · rw [hlaw, if_pos hb]
              refine VR.imp (VL.rel (vl_disp (va_cons (v_lit (t := wWeights) (by decide +kernel)) (va_one (v_var 1))) (by show 2 ≤ 1000000; decide))) fun v H7 H8 e7 e8 r => ?_
              obtain ⟨p2, rfl, _, hp2⟩ := r
              exact ⟨p2, rfl, d, rs, hp2, (e7.trans e8) _ _ hd, hrs.ex (e7.trans e8)⟩
            · rw [hlaw, if_neg (by rw [hb]; decide)]
              exact vr_line (o := none) (v_lit (by decide +kernel)) v_non
end
end K75
/-! the law's defs: _law_written, _law_reading -/
namespace K75
open PySem PySem.Spec PyProof.Rows L2 Evl He
/-- what is fit to be written again -/
def RsFit : Rs → Prop
  | .line _ => True
  | .steps ns => ns ≠ [] ∧ Fit ns
  | .tree c told => told.length ≤ 63 ∧ c < 1000000 ∧ ∀ n ∈ told, n < 1000000
  | .weights rows => rows.length ≤ 30 ∧ ∀ p ∈ rows, p.1 < 1000000 ∧ p.2 < 1000000
def headW : Rs → List Nat
  | .line _ => wLine
  | .steps _ => wSteps
  | .tree _ _ => wTree
  | .weights _ => wWeights
theorem rs_head {K : PySem.W.Frag} {r : Rs} {p : Addr} {H : Hp} (h : IsRs r p H) : ∃ xs, SqL K H p (.str (SX.S (headW r)) :: xs) := by
  cases r with
  | line o => exact ⟨_, sq_of h⟩
  | steps ns =>
    obtain ⟨q, h1, h2⟩ := h
    exact ⟨_, sq_of h1⟩
  | tree c told =>
    obtain ⟨q, h1, h2⟩ := h
    exact ⟨_, sq_of h1⟩
  | weights rows =>
    obtain ⟨q, rs, h1, h2, h3⟩ := h
    exact ⟨_, sq_of h1⟩
section
variable {P : Program} {w : World} {K : PySem.W.Frag} {mg : Str → Option Value} {base : Heap}
/-! ### _law_written -/
abbrev N_law_written : List Str := ["_law_told", "_law_row"]
theorem s_law_written : FnScope N_law_written ["_law_told"] (defScope d_law_written.st) := C8.fnScope_by (by decide +kernel)
abbrev SpLawWritten : Sp := SpR (fun a : Addr × Rs => [.ref a.1]) (fun a H => IsRs a.2 a.1 H ∧ isLine a.2 = false ∧ RsFit a.2) (fun a v _ _ => v = .str (SX.S (written a.2)))
theorem rowT_eq (p : Nat × Nat) : rowT p = (((wSize ++ [32]) ++ TL.numL p.1) ++ [32]) ++ TL.numL p.2 := by
  unfold rowT
  rw [lineT_ne (by simp)]
  simp [TL.joinL]
theorem c_law_written (T : Tx K mg) : CalX P w K mg base CX0 2 d_law_written ["_law_told"] SpLawWritten := by
  refine CalX.of0 (f_law_written T) b_law_written s_law_written (fun vs H Q E h => ?_) (fun cdv A outer s H vs Q E hr h => ?_)
  · obtain ⟨a, rfl, _⟩ := h
    rfl
  · obtain ⟨⟨p, r⟩, rfl, ⟨hI, hl, hf⟩, hQ⟩ := h
    have nd := s_law_written.nd
    have hI : IsRs r p H := hI
    have hf : RsFit r := hf
    have hQ : ∀ v H', Ex H H' → v = .str (SX.S (written r)) → Q v H' := hQ
    obtain ⟨xs, hh⟩ := rs_head (K := K) hI
    refine WS.here (w_when (vt_eqS (p := headW r) (q := wSteps) (v_ixN (i := 0) (VX.seq (v_var 0) hh) v_int rfl) (v_lit (by decide +kernel))) (fun hb => ?_) fun hb => ?_)
    · cases r with
      | steps ns =>
        obtain ⟨q, h1, h2⟩ := hI
        obtain ⟨hne, hfit⟩ := hf
        obtain ⟨m, bs, rfl⟩ := List.exists_cons_of_ne_nil hne
        refine w_ret (VR.val (vr_callR (R' := fun v _ _ => v = .str (SX.S (lineT wSteps (m :: bs)))) (c_law_steps_text T) hr (by decide) T.g_law_steps_text (var_cons (v_ixN (v := .int ((m : Nat) : Int)) (i := 0) (VX.seq (v_ixN (v := .ref q) (i := 1) (VX.seq (v_var 0) (sq_of h1)) v_int rfl) (sq_of h2)) v_int rfl).rel
          (var_one (VL.rel (xs := ints_ bs) (VL.is (vl_from (k := 1) (VX.seq (v_ixN (v := .ref q) (i := 1) (VX.seq (v_var 0) (sq_of h1)) v_int rfl) (sq_of h2)) v_int) (ints_drop 1 (m :: bs)))))) fun vs H1 H2 e1 e2 r => ?_)) fun H1 e1 => hQ _ _ e1 rfl
        obtain ⟨v, vs', H3, rfl, e3, e4, rfl, u, rfl, b, rfl, hb0, hb1⟩ := r
        exact ⟨(m, b, bs), rfl, ⟨hb1, hfit⟩, fun v H3 e r => r⟩
      | line o => cases hl
      | tree c told => exact absurd (of_decide_eq_true hb) (by show ¬ (wTree = wSteps); decide)
      | weights rows => exact absurd (of_decide_eq_true hb) (by show ¬ (wWeights = wSteps); decide)
    · refine w_when (vt_eqS (p := headW r) (q := wTree) (v_ixN (i := 0) (VX.seq (v_var 0) hh) v_int rfl) (v_lit (by decide +kernel))) (fun hb2 => ?_) fun hb2 => ?_
      · cases r with
        | tree c told =>
          obtain ⟨q, h1, h2⟩ := hI
          obtain ⟨f1, f2, f3⟩ := hf
          refine w_ret (VR.val (vr_callR (R' := fun v _ _ => v = .str (SX.S (treeT c told))) (c_law_tree_text T) hr (by decide) T.g_law_tree_text (var_one (VL.rel (vl_from (k := 1) (VX.seq (v_var 0) (sq_of h1)) v_int))) fun vs H1 H2 e1 e2 r => ?_)) fun H1 e1 => hQ _ _ e1 rfl
          obtain ⟨v, rfl, b, rfl, hb0, hb1⟩ := r
          exact ⟨(b, c, q, told), rfl, ⟨hb1, (e1.trans e2) _ _ h2, f1, f2, f3⟩, fun v H3 e r => r⟩
        | line o => cases hl
        | steps ns => exact absurd (of_decide_eq_true hb2) (by show ¬ (wSteps = wTree); decide)
        | weights rows => exact absurd (of_decide_eq_true hb2) (by show ¬ (wWeights = wTree); decide)
      · cases r with
        | line o => cases hl
        | steps ns => exact absurd rfl (of_decide_eq_false hb)
        | tree c told => exact absurd rfl (of_decide_eq_false hb2)
        | weights rows =>
          obtain ⟨q, rs, h1, h2, h3⟩ := hI
          obtain ⟨f1, f2⟩ := hf
          have hlen := rows_len h3
          have zl : (rs.zip rows).length = rows.length := by rw [List.length_zip, hlen, Nat.min_self]
          have hmem : ∀ z ∈ rs.zip rows, z.2 ∈ rows := fun z hz => (List.of_mem_zip hz).2
          refine w_ret (v_join (ts := wWeights :: rows.map rowT) (v_lit (t := [10]) (by decide +kernel)) (VL.seq (VL.is (vl_cat (xs := [V.str (SX.S wWeights)]) (VL.m (vl_disp (va_one (v_lit (t := wWeights) (by decide +kernel))) (by show 1 ≤ 1000000; decide))) (VL.m (vl_map (zs := rs.zip rows) (f := fun z => V.ref z.1) (g' := fun z => V.str (SX.S (rowT z.2))) (j := 1) (own := [("_law_row", 1)]) rfl nd
            ((vi_list (VS.cast (VX.seq (v_ixN (v := .ref q) (i := 1) (VX.seq (v_var 0) (sq_of h1)) v_int rfl) (sq_of h2)) (zip_map1 hlen).symm)).cast (by rw [List.length_map])) (by omega) (blkOk_by (N := N_law_written) (sc := defScope d_law_written.st) (by decide +kernel)) (fun _ _ _ _ _ => pg_name (i := 1) nd rfl (Or.inl rfl)) (fun _ => rfl)
            (fun s H0 C cl fp z hz => ?_))) (by rw [List.length_map, zl]; show 1 + rows.length ≤ 1000000; omega)) ?_)) ?_) fun H1 e1 => hQ _ _ e1 rfl
          · obtain ⟨g1, g2⟩ := f2 z.2 (hmem z hz)
            have hzq : SqL K H z.1 (ints_ [z.2.1, z.2.2]) := sq_of (rows_zip h3 z hz)
            have l1 : (TL.numL z.2.1).length ≤ 6 := TL.numL_len (by decide) (by omega)
            have l2 : (TL.numL z.2.2).length ≤ 6 := TL.numL_len (by decide) (by omega)
            have l0 : (wSize ++ [32]).length = 5 := rfl
            refine VX.is (v_catS (v_catS (v_catS (v_lit (t := wSize ++ [32]) (by decide +kernel)) (v_strN T.n_str (v_ixN (v := .int ((z.2.1 : Nat) : Int)) (i := 0) (VX.seq (v_var 1) hzq) v_int rfl) (lt1000 g1)) (by omega)) (v_lit (t := [32]) (by decide +kernel)) ?_) (v_strN T.n_str (v_ixN (v := .int ((z.2.2 : Nat) : Int)) (i := 1) (VX.seq (v_var 1) hzq) v_int rfl) (lt1000 g2)) ?_) (by rw [rowT_eq])
            · simp only [List.length_append, List.length_cons, List.length_nil] at l0 ⊢
              omega
            · simp only [List.length_append, List.length_cons, List.length_nil] at l0 ⊢
              omega
          · have e : (rs.zip rows).map (fun z => V.str (SX.S (rowT z.2))) = rows.map fun p => V.str (SX.S (rowT p)) := by
              have key : ∀ {rs : List Addr} {rows : List (Nat × Nat)}, rs.length = rows.length → (rs.zip rows).map (fun z => V.str (SX.S (rowT z.2))) = rows.map fun p => V.str (SX.S (rowT p)) := by
                intro rs
                induction rs with
                | nil =>
                  intro rows h
                  cases rows with
                  | nil => rfl
                  | cons a r => simp at h
                | cons a r ih =>
                  intro rows h
                  cases rows with
                  | nil => simp at h
                  | cons b s => rw [List.zip_cons_cons, List.map_cons, List.map_cons, ih (by simpa using h)]
              exact key hlen
            rw [e, txts, List.map_cons, List.map_map] <;> rfl
          · have hle : ∀ z ∈ rows.map rowT, z.length ≤ 200000 := fun z hz => by
              obtain ⟨p, hp, rfl⟩ := List.mem_map.mp hz
              exact rowT_len (f2 p hp).1 (f2 p hp).2
            have hs := sumL_le hle
            unfold sumL at hs
            rw [List.length_map] at hs
            simp only [List.map_cons, List.sum_cons, List.length_cons, List.length_map, List.length_nil]
            have : wWeights.length = 7 := rfl
            omega
end
end K75
/-! the law's defs: _law_reading -/
namespace K75
open PySem PySem.Spec PyProof.Rows L2 Evl He
section
variable {X : Cx} {c : Expr} {A B rest : List Stmt} {σ : L2.St} {H : Hp} {D : Ends} {pos : Pos}
/-- if c: A else: B, what follows shown once, from Mid -/
theorem w_ifM {b : Bool} (Mid : L2.St → Hp → Prop) (ht : VT X c σ H b) (h1 : b = true → WS X A { D with nx := Mid } σ H) (h2 : b = false → WS X B { D with nx := Mid } σ H) (k : ∀ σ' H', Mid σ' H' → WS X rest D σ' H') : WS X (.If c A B pos :: rest) D σ H := fun H1 e1 =>
  ws_of (pss_cut (ps_if pt_w ps_w ps_w) ps_w) ⟨Mid, ht H1 e1 _ fun H2 e2 => by
    cases b with
    | true =>
      show wSs X A { D with nx := Mid } σ H2
      exact h1 rfl H2 (e1.trans e2)
    | false =>
      show wSs X B { D with nx := Mid } σ H2
      exact h2 rfl H2 (e1.trans e2), fun σ' H' m => (k σ' H' m).here⟩
end
def lawK (k : Nat) (ls : List (List Nat)) : Rs := if k = 0 then lawSteps ls else if k = 1 then lawTreeR ls else lawWeightsR ls
def readK (k : Nat) (ls : List (List Nat)) : Rs := if k = 0 then readSteps ls else if k = 1 then readTree ls else readWeights ls
theorem due_K (k : Nat) (ls : List (List Nat)) : dueOf (lawK k ls) ls = readK k ls := by
  unfold lawK readK
  by_cases h0 : k = 0
  · rw [if_pos h0, if_pos h0, due_steps]
  · rw [if_neg h0, if_neg h0]
    by_cases h1 : k = 1
    · rw [if_pos h1, if_pos h1, due_tree]
    · rw [if_neg h1, if_neg h1, due_weights]
theorem fit_steps (ls : List (List Nat)) : RsFit (lawSteps ls) := by
  unfold lawSteps
  split
  · rename_i ns hn
    split
    · trivial
    · rename_i h2
      split
      · trivial
      · split
        · rename_i h4
          rw [lawBounds_eq (by omega)] at h4
          obtain ⟨m, bs, rfl⟩ : ∃ m bs, ns = m :: bs := by
            cases ns with
            | nil => simp at h2
            | cons m bs => exact ⟨m, bs, rfl⟩
          exact ⟨by simp, steps_fit h4⟩
        · trivial
  · trivial
theorem fit_tree (ls : List (List Nat)) : RsFit (lawTreeR ls) := by
  unfold lawTreeR
  split
  · rename_i c hn
    split
    · trivial
    · rename_i told hl
      split
      · trivial
      · rename_i h3
        split
        · rename_i h4
          unfold lawTree at h4
          simp only [Bool.and_eq_true, decide_eq_true_eq] at h4
          refine ⟨(levels_size hl (by rw [List.length_tail]; omega)).2, by omega, fun n hn => ?_⟩
          have := List.all_eq_true.mp h4.2 n hn
          simp only [decide_eq_true_eq] at this
          omega
        · trivial
  · trivial
theorem fit_weights (ls : List (List Nat)) : RsFit (lawWeightsR ls) := by
  unfold lawWeightsR
  split
  · trivial
  · split
    · trivial
    · rename_i rows hl
      split
      · trivial
      · split
        · rename_i h4
          unfold rowsOk at h4
          simp only [Bool.and_eq_true, decide_eq_true_eq] at h4
          refine ⟨h4.1.1, fun p hp => ?_⟩
          have := List.all_eq_true.mp h4.1.2 p hp
          unfold rowOk at this
          simp only [Bool.and_eq_true, decide_eq_true_eq] at this
          omega
        · trivial
theorem fit_K (k : Nat) (ls : List (List Nat)) : RsFit (lawK k ls) := by
  unfold lawK
  split
  · exact fit_steps ls
  · split
    · exact fit_tree ls
    · exact fit_weights ls
theorem headW_line (r : Rs) : decide (headW r = wLine) = isLine r := by
  cases r <;> rfl
section
variable {P : Program} {w : World} {K : PySem.W.Frag} {mg : Str → Option Value} {base : Heap}
abbrev N_law_reading : List Str := ["_law_kind", "_law_lines", "_law_told"]
theorem s_law_reading : FnScope N_law_reading ["_law_kind", "_law_lines"] (defScope d_law_reading.st) := C8.fnScope_by (by decide +kernel)
abbrev SpLawReading : Sp := SpR (fun a : Nat × Addr × List (List Nat) => [.int (a.1 : Nat), .ref a.2.1]) (fun a H => H a.2.1 = some (.lst (txts a.2.2)) ∧ LinesOk a.2.2 ∧ sumL a.2.2 ≤ 100000) (fun a => isRs (readK a.1 a.2.2))
theorem c_law_reading (T : Tx K mg) : CalX P w K mg base CX0 4 d_law_reading ["_law_kind", "_law_lines"] SpLawReading := by
  refine CalX.of0 (f_law_reading T) b_law_reading s_law_reading (fun vs H Q E h => ?_) (fun cdv A outer s H vs Q E hr h => ?_)
  · obtain ⟨a, rfl, _⟩ := h
    rfl
  · obtain ⟨⟨k, p, ls⟩, rfl, ⟨hp, hls, hsum⟩, hQ⟩ := h
    have nd := s_law_reading.nd
    have hp : H p = some (.lst (txts ls)) := hp
    have hls : LinesOk ls := hls
    have hsum : sumL ls ≤ 100000 := hsum
    have hQ : ∀ v H', Ex H H' → isRs (readK k ls) v H H' → Q v H' := hQ
    refine WS.here (w_ifM (fun σ' H' => ∃ q, σ' = [some (.int ((k : Nat) : Int)), some (.ref p), some (.ref q)] ∧ Ex H H' ∧ IsRs (lawK k ls) q H') (vt_eq (v_var 0) v_int rfl) (fun hb => ?_) (fun hb => ?_) fun σ' H' hM => ?_)
    · have h0 : k = 0 := by
        have := V.int.inj (of_decide_eq_true hb)
        omega
      subst h0
      refine w_setR 2 nd (vr_call (p, ls) (c_law_read_steps T) hr (by decide) T.g_law_read_steps (va_one (v_var 1)) (fun H1 e1 => ⟨e1 _ _ hp, hls⟩) fun _ _ _ _ _ r => r) fun v H1 H2 e1 e2 r => w_nil fun H3 e3 => ?_
      obtain ⟨q, rfl, hI⟩ := r
      exact ⟨q, rfl, (e1.trans e2).trans e3, hI.ex e3⟩
    · have h0 : k ≠ 0 := by
        intro z
        subst z
        exact absurd rfl (of_decide_eq_false hb)
      refine w_setR 2 nd (vr_if (k := decide (k = 1)) (R := isRs (lawK k ls)) (VT.is (vt_eq (v_var 0) v_int rfl) (by
        rw [Bool.eq_iff_iff, decide_eq_true_eq, decide_eq_true_eq]
        constructor
        · intro z
          have := V.int.inj z
          omega
        · intro z
          subst z
          rfl)) (fun h1 => ?_) (fun h1 => ?_) fun _ _ _ _ _ r => r) fun v H1 H2 e1 e2 r => w_nil fun H3 e3 => ?_
      · have h1 := of_decide_eq_true h1
        subst h1
        exact vr_call (p, ls) (c_law_read_tree T) hr (by decide) T.g_law_read_tree (va_one (v_var 1)) (fun H1 e1 => ⟨e1 _ _ hp, hls⟩) fun _ _ _ _ _ r => r
      · have h1 := of_decide_eq_false h1
        have e : lawK k ls = lawWeightsR ls := by
          unfold lawK
          rw [if_neg h0, if_neg h1]
        rw [e]
        exact vr_call (p, ls) (c_law_read_weights T) hr (by decide) T.g_law_read_weights (va_one (v_var 1)) (fun H1 e1 => ⟨e1 _ _ hp, hls⟩) fun _ _ _ _ _ r => r
      · obtain ⟨q, rfl, hI⟩ := r
        exact ⟨q, rfl, (e1.trans e2).trans e3, hI.ex e3⟩
    · obtain ⟨q, rfl, eH, hI⟩ := hM
      obtain ⟨xs, hh⟩ := rs_head (K := K) hI
      have hp' := eH _ _ hp
      refine w_when (VT.is (b := decide (isLine (lawK k ls) = false ∧ written (lawK k ls) ≠ TL.joinL [10] ls)) (VW.t (vw_and (l := !decide (written (lawK k ls) = TL.joinL [10] ls)) (vt_neS (p := headW (lawK k ls)) (q := wLine) (v_ixN (i := 0) (VX.seq (v_var 2) hh) v_int rfl) (v_lit (by decide +kernel))) fun hb => vw_and1 (vt_neS (v_call (q, lawK k ls) (c_law_written T) hr (by decide) T.g_law_written (va_one (v_var 2)) fun H1 e1 => ⟨hI.ex e1, ?_, fit_K k ls⟩) (v_join (v_lit (t := [10]) (by decide +kernel)) (VX.seq (v_var 1) (sq_of hp')) ?_)))) ?_) (fun hb => w_retR (vr_line (o := none) (v_lit (by decide +kernel)) v_non) fun v H7 H8 e7 e8 r => hQ _ _ (eH.trans (e7.trans e8)) ?_) fun hb => ?_
      · rw [headW_line, Bool.not_eq_true'] at hb
        exact hb
      · unfold sumL at hsum
        have := hls.2.1
        simp only [List.length_cons, List.length_nil]
        omega
      · rw [headW_line, Bool.eq_iff_iff]
        simp
      · rw [← due_K]
        unfold dueOf
        rw [if_pos (of_decide_eq_true hb)]
        exact r
      · refine w_ret (v_var 2) fun H7 e7 => hQ _ _ (eH.trans e7) ⟨q, rfl, ?_⟩
        rw [← due_K]
        unfold dueOf
        rw [if_neg (of_decide_eq_false hb)]
        exact hI.ex e7
end
end K75
/-! own words, further: lists of new lists; try .. except BadText as e: return ['line', e.line] -/
namespace K75
open PySem PySem.Spec PyProof.Rows L2 Evl He
section
variable {X : Cx} {elt tg iter : Expr} {scope : Scope} {own : List (Str × Nat)} {pos : Pos} {σ : L2.St} {H : Hp}
abbrev ListsAt {α : Type} (g : α → List V) (H : Hp) : List Addr → List α → Prop := Paired fun p z => H p = some (.lst (g z))
theorem ListsAt.ex {α : Type} {g : α → List V} {H H' : Hp} {rs : List Addr} {zs : List α} (e : Ex H H') (h : ListsAt g H rs zs) : ListsAt g H' rs zs := Paired.mapP h fun p r z => e _ _ z
theorem ListsAt.snoc {α : Type} {g : α → List V} {H : Hp} {r : Addr} {p : α} (hr : H r = some (.lst (g p))) : ∀ {rs : List Addr} {zs : List α}, ListsAt g H rs zs → ListsAt g H (rs ++ [r]) (zs ++ [p])
  | _, _, .nil => .cons hr .nil
  | _, _, .cons h t => .cons h (ListsAt.snoc hr t)
theorem ListsAt.over {α : Type} {g : α → List V} (hne : ∀ (z : α) (rs : List Addr), g z ≠ rs.map V.ref) {H : Hp} {Dl : Addr} {rs0 : List Addr} {o : HO} (hD : H Dl = some (.lst (rs0.map V.ref))) : ∀ {rs : List Addr} {zs : List α}, ListsAt g H rs zs → ListsAt g (L2.upd H Dl o) rs zs
  | _, _, .nil => .nil
  | _, _, .cons h t => .cons (by rw [upd_ne (ne_of h hD (fun z => hne _ _ (HO.lst.inj z)))]; exact h) (ListsAt.over hne hD t)
/-- [elt for tg in iter], each item a list of its own -/
theorem vr_lcNew {α : Type} {zs : List α} {f : α → V} {g : α → List V} {j : Nat} (hne : ∀ (z : α) (rs : List Addr), g z ≠ rs.map V.ref) (hc : X.calm = true) (nd : X.N.Nodup) (hi : VI X tg iter σ H zs.length (YAt (zs.map f))) (hn : zs.length ≤ 40000) (ok : BlkOk X.N X.env.scope scope own)
    (hgT : ∀ (s : Shared) (H : Hp) (C : Addr) (cl : List (Str × Addr)) (fp : List Addr), PG (X.blk s H scope (compEnvC scope cl C X.env) fp) tg (gName j)) (hw : ∀ x, wipe ((wipe σ (own.map (·.2))).set j (some x)) (own.map (·.2)) = wipe σ (own.map (·.2)))
    (he : ∀ (s : Shared) (H0 : Hp) (C : Addr) (cl : List (Str × Addr)) (fp : List Addr) z, z ∈ zs → VM (X.blk s H0 scope (compEnvC scope cl C X.env) fp) elt ((wipe σ (own.map (·.2))).set j (some (f z))) H (g z)) (hs : ∀ x, foldedSetIterable iter X.env x = pure x := by intro _; rfl) :
    VR X (.ListComp elt [⟨tg, iter, [], 0⟩] scope pos) σ H (fun v H1 H2 => ∃ Dl rs, v = .ref Dl ∧ H1 Dl = none ∧ H2 Dl = some (.lst (rs.map V.ref)) ∧ ListsAt g H2 rs zs) := by
  obtain ⟨wi, hpi, hev⟩ := hi
  refine vr_of (pe_lc (te := bE X scope elt) hc nd hpi ok hgT (fun _ _ _ _ _ => pts_nil) (fun s H0 C cl fp => ⟨fun pins s' σ' H' Q I h => h s H0 C cl fp pins s' I⟩) hs) fun H0 e0 Q q => hev H0 e0 _ fun J H1 G e1 gk hG Dl hD => ?_
  refine lc_it gk.walk (fun i H' => Ex H1 H' ∧ G H' ∧ ∃ rs, H' Dl = some (.lst (rs.map V.ref)) ∧ ListsAt g H' rs (zs.take i)) ⟨Ex.new hD, gk.mono _ _ (Keeps.of (Ex.new hD)) hG, [], upd_same, .nil⟩ (fun _ _ _ h => h.2.1) (fun i x H2 H3 hlt hp hy => ?_) fun H' hp => ?_
  · obtain ⟨p1, p2, rs, p3, p4⟩ := hp
    have eY := YAt.ex hy
    have ex : x = f zs[i] := by
      have h2 := hy.2
      rw [List.getElem?_map, List.getElem?_eq_getElem hlt] at h2
      exact (Option.some.inj h2).symm
    subst ex
    refine ⟨hw _, ?_⟩
    show bE X scope elt _ _ _
    intro s H00 C cl fp
    refine he s H00 C cl fp zs[i] (List.getElem_mem hlt) H3 ((e0.trans e1).trans (p1.trans eY)) _ fun v H4 e4 r => ?_
    obtain ⟨r0, rfl, hr⟩ := r
    have hD4 := e4 _ _ (eY _ _ p3)
    have hl4 : ListsAt g H4 rs (zs.take i) := p4.ex (eY.trans e4)
    have e14 := p1.trans (eY.trans e4)
    have hrs : rs.length = (zs.take i).length := Paired.length p4
    rw [List.length_take] at hrs
    refine ⟨rs.map V.ref, hD4, by rw [List.length_map, sizeLine_eq]; omega, Ex.mut e14 hD, gk.mono H1 _ (Keeps.of (Ex.mut e14 hD)) hG, rs ++ [r0], ?_, ?_⟩
    · rw [upd_same, List.map_append] <;> rfl
    · have e5 : zs.take (i + 1) = zs.take i ++ [zs[i]] := by rw [List.take_succ, List.getElem?_eq_getElem hlt] <;> rfl
      rw [e5]
      refine ListsAt.snoc ?_ (ListsAt.over hne hD4 hl4)
      rw [upd_ne (ne_of hr hD4 (fun z => hne _ _ (HO.lst.inj z)))]
      exact hr
  · obtain ⟨p1, p2, rs, p3, p4⟩ := hp
    rw [List.take_length] at p4
    exact q _ H' (e1.trans p1) ⟨Dl, rs, rfl, fresh_back e1 hD, p3, p4⟩
end
section
variable {X : Cx} {body rest : List Stmt} {σ : L2.St} {H : Hp} {D : Ends} {n f : Str} {np np2 p1 p3 pos pos' pos2 lp : Pos} {i : Nat} {j : Nat}
/-- try: body except BadText as n: return ['line', n.line] -/
theorem w_tryLine (T : Tx X.K X.mg) (i : Nat) (nd : X.N.Nodup)
    (hb : ∀ (W : WX) (pn : List (Addr × Obj)) (xe : Value → Shared → Prop), L2.Takes (X.tr pn xe) W → (∀ c d σ' H1 H' lv, IsBad X.K lv c d H1 H' → i < σ'.length → (∀ p H2, Ex H' H2 → H2 p = some (.lst [.str (SX.S wLine), lv]) → D.rt (.ref p) H2) → W c d σ' H') → WS (X.tr pn xe) body { D with nx := wSs X rest D } σ H)
    (hlit : n.cps.size = n.cps.size := by rfl) (hs : X.stack = X.env :: X.outer := by rfl) (hf : X.env.frame = some X.env.locals := by rfl) (hi : X.N[i]? = some n := by rfl) (hln : X.env.kindOf n = some .local := by rfl) (hg : Gl X "BadText" := by rfl) (hv : Vis X.env.scope n := by first | exact Or.inl rfl | exact Or.inr (Or.inl rfl))
    (hd1 : (n == ("__debug__" : Str)) = false := by decide) (hd2 : (n == ("__classdict__" : Str)) = false := by decide)
    (he : starEach [.Constant (.str "line") j p1, .Attribute (.Name n np2) "line" p3] X.env = (false, eval (.Constant (.str "line") j p1) X.env) :: starEach [.Attribute (.Name n np2) "line" p3] X.env := by rfl)
    (he2 : starEach [.Attribute (.Name n np2) "line" p3] X.env = (false, eval (.Attribute (.Name n np2) "line" p3) X.env) :: starEach [] X.env := by rfl) (hab : attributeBase (.Name n np2) "line" X.env (eval (.Name n np2) X.env) = eval (.Name n np2) X.env := by rfl) :
    WS X (.Try body [.ExceptHandler (some (.Name "BadText" np)) (some n) [.Return (some (.List [.Constant (.str "line") j p1, .Attribute (.Name n np2) "line" p3] lp)) pos2] pos'] [] [] pos :: rest) D σ H := by
  refine w_cons (L2.ps_try_as (i := i) (Wout := fun _ _ _ _ => False) (tb := fun W D σ H => ∀ pn xe, L2.Takes (X.tr pn xe) W → wSs (X.tr pn xe) body D σ H)
    (ts := fun a cls d => tRet (tLst (tCons (tC (.str "line")) (tCons (tXf a cls d (ga X.K "BadText") "line" (tVar i)) tNil)))) (c := .ref (ga X.K "BadText")) hs hf nd hi hln ⟨hg, by decide, .inl T.g_BadText⟩ takes0 (fun W pn xe t po => ⟨fun pins s σ' H' D' I h => h pn xe t pins s I⟩) (fun a oe cls d pn hz hfld => ?_)) fun H1 e1 => ?_
  · exact pss_one (ps_ret (pe_lst (pa_cons pe_str (pa_cons (pe_xf T.xf T.noLine hz hfld (pe_var hi hv hd1 hd2) hab) pa_nil he2) he)))
  · intro pn xe t
    refine (hb _ pn xe t fun c d σ' H3 H' lv hB hi' hE => ?_) H1 e1
    obtain ⟨rfl, dd, rfl, _, hdd⟩ := hB
    refine ⟨true, T.exm "BadText" "BadText" true (by decide +kernel), fun _ a ha => ?_, fun z => nomatch z⟩
    refine ⟨.ref a, by rw [List.getElem?_set_self hi'], rfl, rfl, dd, [("line", lv)], lv, rfl, hdd, rfl, by show 2 ≤ sizeLine; decide, fun p hp => hE p _ (Ex.new hp) ?_⟩
    rw [upd_same, show SX.S wLine = ("line" : Str) by decide +kernel]
end
end K75
/-! the law's defs: _law_heard -/
namespace K75
open PySem PySem.Spec PyProof.Rows L2 Evl He
theorem VAR.imp {X : Cx} {es : List Expr} {σ : L2.St} {H : Hp} {R R' : List V → Hp → Hp → Prop} (h : VAR X es σ H R) (k : ∀ vs H1 H2, R vs H1 H2 → R' vs H1 H2) : VAR X es σ H R' := fun H1 a Q q => h H1 a Q fun vs H2 e2 r => q vs H2 e2 (k vs H1 H2 r)
theorem steps_len {a : Txt0} {m : Nat} {ns : List Nat} (h : resOf readSteps a = .steps (m :: ns)) : ns.length ≤ 8 := by
  cases a with
  | o v => cases h
  | t l =>
    have h : readSteps (linesOf l) = .steps (m :: ns) := h
    unfold readSteps at h
    split at h
    · split at h
      · cases h
      · split at h
        · cases h
        · split at h
          · rename_i hc
            cases h
            have := hc.1
            unfold stepsOk boundsB at this
            simp only [Bool.and_eq_true, decide_eq_true_eq] at this
            exact this.2.1.2
          · cases h
    · cases h
section
variable {P : Program} {w : World} {K : PySem.W.Frag} {mg : Str → Option Value} {base : Heap}
abbrev N_law_heard : List Str := ["_law_kind", "_law_text", "_law_told", "e", "_law_size", "_law_one"]
theorem s_law_heard : FnScope N_law_heard ["_law_kind", "_law_text"] (defScope d_law_heard.st) := C8.fnScope_by (by decide +kernel)
abbrev SpLawHeard (K : PySem.W.Frag) : Sp := SpR (fun a : Nat × Txt0 => [.int (a.1 : Nat), a.2.v]) (fun a H => a.2.ok K H) (fun a => isRs (resOf (readK a.1) a.2))
theorem resK0 {a : Txt0} : resOf (readK 0) a = resOf readSteps a := by cases a <;> rfl
theorem resK1 {a : Txt0} : resOf (readK 1) a = resOf readTree a := by cases a <;> rfl
theorem resK2 {k : Nat} {a : Txt0} (h0 : k ≠ 0) (h1 : k ≠ 1) : resOf (readK k) a = resOf readWeights a := by
  cases a with
  | t l =>
    show readK k (linesOf l) = _
    unfold readK
    rw [if_neg h0, if_neg h1] <;> rfl
  | o v => rfl
theorem isRs_line {o : Option Nat} {p : Addr} {H : Hp} (h : H p = some (.lst [.str (SX.S wLine), lineV o])) : IsRs (.line o) p H := h
theorem c_law_heard (T : Tx K mg) : CalX P w K mg base CX0 7 d_law_heard ["_law_kind", "_law_text"] (SpLawHeard K) := by
  refine CalX.of0 (f_law_heard T) b_law_heard s_law_heard (fun vs H Q E h => ?_) (fun cdv A outer s H vs Q E hr h => ?_)
  · obtain ⟨a, rfl, _⟩ := h
    rfl
  · obtain ⟨⟨k, a⟩, rfl, ha, hQ⟩ := h
    have nd := s_law_heard.nd
    have ha : a.ok K H := ha
    have hQ : ∀ v H', Ex H H' → isRs (resOf (readK k) a) v H H' → Q v H' := hQ
    refine WS.here (w_tryLine T 3 nd fun W pn xe tk hW => ?_)
    -- what is caught
    have caught : ∀ (r : Rs) c d σ' H1 H2, r = resOf (readK k) a → Ex H H2 → BadOf K r c d H1 H2 → 3 < σ'.length → W c d σ' H2 := fun r c d σ' H1 H2 hr2 e2 hB hl => by
      obtain ⟨o, ho, hb⟩ := hB
      exact hW c d σ' H1 H2 (lineV o) hb hl fun p H3 e3 h3 => hQ _ _ (e2.trans e3) ⟨p, rfl, by rw [← hr2, ho]; exact isRs_line h3⟩
    refine w_when (vt_eq (v_var 0) v_int rfl) (fun hb => ?_) fun hb => ?_
    · have h0 : k = 0 := by
        have := V.int.inj (of_decide_eq_true hb)
        omega
      subst h0
      refine w_setX 2 nd (vx_callX a (c_read_steps T) hr (by decide) T.g_read_steps (fun σ => L2.passAt tk σ) (va_one (v_var 1)) (fun H1 e1 => ha.ex e1) (fun v H1 H2 H3 e r => r) (fun c d H1 H2 H3 e r => r.back e)) (fun v H1 H2 e1 e2 r => ?_) fun c d H1 H2 e1 e2 r => caught _ c d _ H1 H2 resK0.symm (e1.trans e2) r (by show 3 < 6; decide)
      obtain ⟨m, ns, x, hres, rfl, hS⟩ := r
      obtain ⟨dx, t, hx, ht⟩ := id hS
      refine w_retR (vr_disp (R := fun vs H1 H3 => ∃ q, vs = [.str (SX.S wSteps), .ref q] ∧ H3 q = some (.lst (ints_ (m :: ns)))) (VAR.imp (var_cons (v_lit (t := wSteps) (by decide +kernel)).rel (var_one (VL.rel (VL.is (vl_cat (xs := [V.int ((m : Nat) : Int)]) (VL.m (vl_disp (va_one (v_fld (v_var 2) hx T.clS (T.naS _ (by decide +kernel)) rfl)) (by show 1 ≤ 1000000; decide))) (VL.m (VR.lst (vr_prop (x, m, ns) (c_Steps_bounds T) hr (by decide) (v_var 2) hx T.clS T.prS rfl (fun H1 e1 => hS.ex e1) fun _ _ _ _ => new_back))) ?_) (show _ = ints_ (m :: ns) from rfl))))) fun vs H3 H4 r => ?_) fun vs H3 H4 r => ?_) fun v H3 H4 e3 e4 r => ?_
      · rw [ints_len]
        show 1 + ns.length ≤ 1000000
        have := steps_len hres
        omega
      · obtain ⟨v, vs', H5, rfl, e5, e6, rfl, u, rfl, q, rfl, hq0, hq1⟩ := r
        exact ⟨q, rfl, hq1⟩
      · obtain ⟨q, rfl, _⟩ := r
        show 2 ≤ 1000000
        decide
      · obtain ⟨p, vs, H5, rfl, hp0, hp1, e5, ⟨q, rfl, hq⟩, rfl⟩ := r
        refine hQ _ _ ((e1.trans e2).trans (e3.trans e4)) ⟨p, rfl, ?_⟩
        rw [resK0, hres]
        exact ⟨q, upd_same, by rw [upd_ne (ne_of_none hq hp1)]; exact hq⟩
    · have h0 : k ≠ 0 := by
        intro z
        subst z
        exact absurd rfl (of_decide_eq_false hb)
      refine w_when (vt_eq (v_var 0) v_int rfl) (fun hb => ?_) fun hb => ?_
      · have h1 : k = 1 := by
          have := V.int.inj (of_decide_eq_true hb)
          omega
        subst h1
        refine w_setX 2 nd (vx_callX a (c_read_tree T) hr (by decide) T.g_read_tree (fun σ => L2.passAt tk σ) (va_one (v_var 1)) (fun H1 e1 => ha.ex e1) (fun v H1 H2 H3 e r => r) (fun c d H1 H2 H3 e r => r.back e)) (fun v H1 H2 e1 e2 r => ?_) fun c d H1 H2 e1 e2 r => caught _ c d _ H1 H2 resK1.symm (e1.trans e2) r (by show 3 < 6; decide)
        obtain ⟨c, told, x, hres, rfl, hS⟩ := r
        obtain ⟨dx, t, fs, hx, hcl, hrow, ht⟩ := id hS
        refine w_retR (vr_disp (R := fun vs H1 H3 => ∃ q, vs = [.str (SX.S wTree), .int ((c : Nat) : Int), .ref q] ∧ H3 q = some (.lst (ints_ told))) (VAR.imp (var_cons (v_lit (t := wTree) (by decide +kernel)).rel (var_cons (v_fld (v_var 2) hx T.clT (T.naT _ (by decide +kernel)) hcl).rel (var_one (VL.rel (VR.lst (vr_prop (x, c, told) (c_Tree_told T) hr (by decide) (v_var 2) hx T.clT T.prT rfl (fun H1 e1 => hS.ex e1) fun _ _ _ _ => new_back)))))) fun vs H3 H4 r => ?_) fun vs H3 H4 r => ?_) fun v H3 H4 e3 e4 r => ?_
        · obtain ⟨v, vs', H5, rfl, e5, e6, rfl, v2, vs2, H6, rfl, e7, e8, rfl, u, rfl, q, rfl, hq0, hq1⟩ := r
          exact ⟨q, rfl, hq1⟩
        · obtain ⟨q, rfl, _⟩ := r
          show 3 ≤ 1000000
          decide
        · obtain ⟨p, vs, H5, rfl, hp0, hp1, e5, ⟨q, rfl, hq⟩, rfl⟩ := r
          refine hQ _ _ ((e1.trans e2).trans (e3.trans e4)) ⟨p, rfl, ?_⟩
          rw [resK1, hres]
          exact ⟨q, upd_same, by rw [upd_ne (ne_of_none hq hp1)]; exact hq⟩
      · have h1 : k ≠ 1 := by
          intro z
          subst z
          exact absurd rfl (of_decide_eq_false hb)
        refine w_setX 2 nd (vx_callX a (c_read_weights T) hr (by decide) T.g_read_weights (fun σ => L2.passAt tk σ) (va_one (v_var 1)) (fun H1 e1 => ha.ex e1) (fun v H1 H2 H3 e r => r) (fun c d H1 H2 H3 e r => r.back e)) (fun v H1 H2 e1 e2 r => ?_) fun c d H1 H2 e1 e2 r => caught _ c d _ H1 H2 (resK2 h0 h1).symm (e1.trans e2) r (by show 3 < 6; decide)
        obtain ⟨rows, x, hres, rfl, hD⟩ := r
        obtain ⟨hd, hnd, hz⟩ := id hD
        have hks : (srtN (rows.map (·.1))).length = rows.length := by rw [(srtN_perm _).length_eq, List.length_map]
        have hkey : ∀ z ∈ srtN (rows.map (·.1)), ∃ w0, rows.lookup z = some w0 ∧ atK rows z = w0 := fun z hz' => by
          obtain ⟨p, hp, rfl⟩ := List.mem_map.mp ((srtN_perm _).mem_iff.mp hz')
          have hl := lookup_mem hnd p hp
          exact ⟨p.2, hl, by rw [atK, hl] <;> rfl⟩
        refine w_retR (vr_disp (R := fun vs H1 H3 => ∃ q rs, vs = [.str (SX.S wWeights), .ref q] ∧ H3 q = some (.lst (rs.map V.ref)) ∧ RowsAt H3 rs (inOrder rows)) (VAR.imp (var_cons (v_lit (t := wWeights) (by decide +kernel)).rel (var_one (vr_lcNew (zs := srtN (rows.map (·.1))) (f := fun n => V.int ((n : Nat) : Int)) (g := fun s => ints_ [s, atK rows s]) (j := 4) (own := [("_law_size", 4)]) (fun z rs h => ?_) rfl nd
          ((vi_list (VL.seq (vl_sortedN T.n_sorted (VL.seq (VL.is (vl_lock hd fun od => vl_map (zs := rows) (f := fun p => V.int ((p.1 : Nat) : Int)) (g' := fun p => V.int ((p.1 : Nat) : Int)) (j := 5) (own := [("_law_one", 5)]) rfl nd
            (vi_rows (v_var 2) upd_same) (by omega) (blkOk_by (N := N_law_heard) (sc := defScope d_law_heard.st) (by decide +kernel)) (fun _ _ _ _ _ => pg_name (i := 5) nd rfl (Or.inl rfl)) (fun _ => rfl)
            (fun s H0 C cl fp p hp => v_intI T.n_int (v_var 5))) (ys := ints_ (rows.map (·.1))) (by rw [ints_, List.map_map] <;> rfl)))))).cast (ints_len _)) (by rw [hks]; omega) (blkOk_by (N := N_law_heard) (sc := defScope d_law_heard.st) (by decide +kernel)) (fun _ _ _ _ _ => pg_name (i := 4) nd rfl (Or.inl rfl)) (fun _ => rfl)
          (fun s H0 C cl fp z hz' => ?_)))) fun vs H3 H4 r => ?_) fun vs H3 H4 r => ?_) fun v H3 H4 e3 e4 r => ?_
        · cases rs with
          | nil => cases h
          | cons a r => cases h
        · obtain ⟨w0, hl, ha2⟩ := hkey z hz'
          refine VL.m (VL.is (vl_disp (va_cons (v_var 4) (va_one (v_dget (hu_of hr) (v_var 2) (v_var 4) (.inl hd) hl))) (by show 2 ≤ 1000000; decide)) ?_)
          rw [ha2] <;> rfl
        · obtain ⟨v, vs', H5, rfl, e5, e6, rfl, u, rfl, q, rs, rfl, hq0, hq1, hl⟩ := r
          refine ⟨q, rs, rfl, hq1, ?_⟩
          unfold inOrder rowsOf
          have key : ∀ {rs : List Addr} {ks : List Nat}, ListsAt (fun s => ints_ [s, atK rows s]) H4 rs ks → RowsAt H4 rs (ks.map fun s => (s, atK rows s)) := by
            intro rs ks h
            induction h with
            | nil => exact .nil
            | cons h t ih => exact .cons h ih
          exact key hl
        · obtain ⟨q, rs, rfl, _⟩ := r
          show 2 ≤ 1000000
          decide
        · obtain ⟨p, vs, H5, rfl, hp0, hp1, e5, ⟨q, rs, rfl, hq, hrs⟩, rfl⟩ := r
          refine hQ _ _ ((e1.trans e2).trans (e3.trans e4)) ⟨p, rfl, ?_⟩
          rw [resK2 h0 h1, hres]
          exact ⟨q, rs, upd_same, by rw [upd_ne (ne_of_none hq hp1)]; exact hq, hrs.ex (Ex.new hp1)⟩
end
end K75
/-! the law's defs: _law_numbers, _law_opened, _law_weights_text -/
namespace K75
open PySem PySem.Spec PyProof.Rows L2 Evl He
section
variable {X : Cx} {a b : Expr} {σ : L2.St} {H : Hp} {pos q : Pos}
theorem v_neg {i : Int} (ha : VX X a σ H (.int i)) : VX X (.UnaryOp .USub a pos) σ H (.int (-i)) := v_of (pe_un un_neg pe_w) (ev_un ha ru_neg)
theorem v_max2 {i j : Int} (hc : X.calm = true) (hm : X.mg "max" = none) (ha : VX X a σ H (.int i)) (hb : VX X b σ H (.int j)) (hg : Gl X "max" := by rfl) (hs : starEach [a, b] X.env = (false, eval a X.env) :: starEach [b] X.env := by rfl) (hs2 : starEach [b] X.env = (false, eval b X.env) :: starEach [] X.env := by rfl) (hpl : (backTo pos (starEach [b] X.env)).any (·.1) = false := by rfl) :
    VX X (.Call (.Name "max" q) [a, b] [] pos) σ H (.int (if j > i then j else i)) := v_callB (call_max2 hc) hm (by decide +kernel) (va_cons ha (va_one hb hs2) hs) (fun H1 e Q k => ⟨i, j, rfl, k H1 (Ex.refl _)⟩) hg (by decide) (by decide) hs hpl
theorem v_min2 {i j : Int} (hc : X.calm = true) (hm : X.mg "min" = none) (ha : VX X a σ H (.int i)) (hb : VX X b σ H (.int j)) (hg : Gl X "min" := by rfl) (hs : starEach [a, b] X.env = (false, eval a X.env) :: starEach [b] X.env := by rfl) (hs2 : starEach [b] X.env = (false, eval b X.env) :: starEach [] X.env := by rfl) (hpl : (backTo pos (starEach [b] X.env)).any (·.1) = false := by rfl) :
    VX X (.Call (.Name "min" q) [a, b] [] pos) σ H (.int (if j < i then j else i)) := v_callB (call_min2 hc) hm (by decide +kernel) (va_cons ha (va_one hb hs2) hs) (fun H1 e Q k => ⟨i, j, rfl, k H1 (Ex.refl _)⟩) hg (by decide) (by decide) hs hpl
end
theorem mod_lt64 {i p : Int} (hp : 0 < p) (h : p ≤ 4294967296) : 0 ≤ i % p ∧ i % p < 4294967296 := ⟨Int.emod_nonneg _ (by omega), Int.lt_of_lt_of_le (Int.emod_lt_of_pos _ hp) h⟩
section
variable {P : Program} {w : World} {K : PySem.W.Frag} {mg : Str → Option Value} {base : Heap}
abbrev N_law_numbers : List Str := ["_law_cell", "_law_salt", "_law_often", "_law_whole", "_law_left", "_law_result", "_law_k", "_law_one"]
theorem s_law_numbers : FnScope N_law_numbers ["_law_cell", "_law_salt", "_law_often"] (defScope d_law_numbers.st) := C8.fnScope_by (by decide +kernel)
abbrev SpNums : Sp := SpR (fun a : Int × Nat × Nat => [.int a.1, .int (a.2.1 : Nat), .int (a.2.2 : Nat)]) (fun a _ => a.2.1 ≤ 100 ∧ a.2.2 ≤ 1000) (fun a v H1 H2 => ∃ (p : Addr) (is : List Int), v = .ref p ∧ H1 p = none ∧ H2 p = some (.lst (is.map V.int)))
theorem c_law_numbers (T : Tx K mg) : CalX P w K mg base CX0 1 d_law_numbers ["_law_cell", "_law_salt", "_law_often"] SpNums := by
  refine CalX.of0 (f_law_numbers T) b_law_numbers s_law_numbers (fun vs H Q E h => ?_) (fun cdv A outer s H vs Q E hr h => ?_)
  · obtain ⟨a, rfl, _⟩ := h
    rfl
  · obtain ⟨⟨cell, salt, often⟩, rfl, ⟨hs, ho⟩, hQ⟩ := h
    have hs : salt ≤ 100 := hs
    have ho : often ≤ 1000 := ho
    have nd := s_law_numbers.nd
    refine WS.here (w_set 3 nd (v_max2 rfl T.n_max (v_intI T.n_int (v_var 0)) (v_intI T.n_int (v_sub (v_neg v_int) (v_var 0)))) ?_)
    generalize (if (-1 : Int) - cell > cell then (-1 : Int) - cell else cell) = whole
    refine w_set 4 nd (v_var 3) (w_setL 5 nd (vl_disp va_nil (Nat.zero_le _)) fun p H1 hp0 e1 hp1 => ?_)
    refine w_forR1 (k := often) 6 T.n_range (v_var 2) (by omega) (pg_name (i := 6) nd rfl (Or.inl rfl)) (fun i σ' H' => ∃ (left : Int) (is : List Int) (x6 x7 : Option V), σ' = [some (.int cell), some (.int ((salt : Nat) : Int)), some (.int ((often : Nat) : Int)), some (.int whole), some (.int left), some (.ref p), x6, x7] ∧ Ex H H' ∧ H' p = some (.lst (is.map V.int)) ∧ is.length = i)
      (fun H2 e2 => ⟨whole, [], none, none, rfl, e1.trans e2, e2 _ _ hp1, rfl⟩) (fun i σ' H2 hi hP => ?_) (fun σ' H2 hP => ?_) PassesOwn.never
    · obtain ⟨left, is, x6, x7, rfl, eH, hp, hlen⟩ := hP
      refine WS.here (w_if (VW.t (vw_and (l := decide (0 < left)) (vt_ge (v_var 3) (v_pow v_int v_int ⟨by decide, by decide, by decide⟩)) fun _ => vw_and1 (vt_gt (v_var 4) v_int))) (fun hb => ?_) fun hb => ?_)
      · refine w_append 5 (v_mod (v_intI T.n_int (v_var 4)) v_int (by decide)).rel hp (by rw [List.length_map]; omega) fun v H3 H4 e3 e4 r => ?_
        subst r
        refine w_set 4 nd (v_fdiv (v_var 4) v_int ⟨by decide, by decide⟩) (w_nil fun H5 e5 => WS.here (w_nil fun H6 e6 => ⟨_, is ++ [left % 840], _, _, rfl, (Ex.mut (eH.trans (e3.trans e4)) hp0).trans (e5.trans e6), ?_, by rw [List.length_append, hlen] <;> rfl⟩))
        rw [List.map_append]
        exact (e5.trans e6) _ _ upd_same
      · have b0 := mod_lt64 (i := whole) (p := 2147483629) (by decide) (by decide)
        refine w_set 7 nd (v_mod (v_intI T.n_int (v_pow (v_add (v_add (v_mod (v_intI T.n_int (v_var 3)) v_int (by decide)) (v_mul v_int (v_var 1) (.inl ⟨by decide, by decide⟩))) v_int) v_int ⟨by decide, by decide, ?_⟩)) v_int (by decide)) ?_
        · omega
        · generalize hx1 : ((whole % 2147483629 + 7717 * ((salt : Nat) : Int) + 3) ^ (3 : Int).toNat) % 2147483647 = x1
          have b1 : 0 ≤ x1 ∧ x1 < 4294967296 := hx1 ▸ mod_lt64 (by decide) (by decide)
          refine w_set 7 nd (v_mod (v_intI T.n_int (v_mul (v_add (v_var 7) (v_mul v_int (v_add (v_var 6) v_int) (.inl ⟨by decide, by decide⟩))) (v_add (v_var 6) v_int) (.inl ⟨by omega, by omega⟩))) v_int (by decide)) ?_
          generalize hx2 : ((x1 + 99991 * (((i : Nat) : Int) + 1)) * (((i : Nat) : Int) + 5)) % 2147483629 = x2
          have b2 : 0 ≤ x2 ∧ x2 < 4294967296 := hx2 ▸ mod_lt64 (by decide) (by decide)
          have b3 : 0 ≤ (x2 ^ (5 : Int).toNat) % 2147483647 ∧ (x2 ^ (5 : Int).toNat) % 2147483647 < 4294967296 := mod_lt64 (by decide) (by decide)
          refine w_set 7 nd (v_mod (v_intI T.n_int (v_mul (v_mod (v_intI T.n_int (v_pow (v_var 7) v_int ⟨by decide, by decide, by omega⟩)) v_int (by decide)) v_int (.inr ⟨by decide, by decide⟩))) v_int (by decide)) ?_
          refine w_append 5 (v_mod (v_intI T.n_int (v_fdiv (v_var 7) v_int ⟨by decide, by decide⟩)) v_int (by decide)).rel hp (by rw [List.length_map]; omega) fun v H3 H4 e3 e4 r => ?_
          subst r
          refine w_nil fun H5 e5 => WS.here (w_nil fun H6 e6 => ⟨_, is ++ [x2 ^ Int.toNat 5 % 2147483647 * 48271 % 2147483629 / 16 % 840], _, _, rfl, (Ex.mut (eH.trans (e3.trans e4)) hp0).trans (e5.trans e6), ?_, by rw [List.length_append, hlen] <;> rfl⟩)
          rw [List.map_append]
          exact (e5.trans e6) _ _ upd_same
    · obtain ⟨left, is, x6, x7, rfl, eH, hp, hlen⟩ := hP
      exact WS.here (w_ret (v_var 5) fun H3 e3 => hQ _ _ (eH.trans e3) ⟨p, is, rfl, hp0, e3 _ _ hp⟩)
/-! ### _law_opened -/
abbrev N_law_opened : List Str := ["_law_script", "_law_k", "_law_often", "_law_cell"]
theorem s_law_opened : FnScope N_law_opened ["_law_script", "_law_k", "_law_often"] (defScope d_law_opened.st) := C8.fnScope_by (by decide +kernel)
/-- the drawn numbers: the list at a of the numbers' list at l and the next place -/
def IsPool (a l : Addr) (is : List Int) (H : Hp) : Prop := (∃ k : Nat, H a = some (.lst [.ref l, .int ((k : Nat) : Int)])) ∧ H l = some (.lst (is.map V.int))
theorem IsPool.ex {a l : Addr} {is : List Int} {H H' : Hp} (e : Ex H H') (h : IsPool a l is H) : IsPool a l is H' := by
  obtain ⟨⟨k, h1⟩, h2⟩ := h
  exact ⟨⟨k, e _ _ h1⟩, e _ _ h2⟩
abbrev SpOpened (K : PySem.W.Frag) : Sp := SpR (fun a : Addr × List Int × Nat × Nat => [.ref a.1, .int (a.2.2.1 : Nat), .int (a.2.2.2 : Nat)]) (fun a H => SqL K H a.1 (a.2.1.map V.int) ∧ (a.2.1 = [] ∨ a.2.2.1 < a.2.1.length) ∧ a.2.2.1 ≤ 100 ∧ a.2.2.2 ≤ 1000) (fun a v H1 H2 => ∃ p l is, v = .ref p ∧ H1 p = none ∧ IsPool p l is H2)
theorem dp_is {K : PySem.W.Frag} {H : Hp} : ∀ is : List Int, DpAll K H (is.map V.int) (is.map PyData.int)
  | [] => .nil
  | i :: r => .cons (.int _) (dp_is r)
theorem shk_is (is : List Int) : ShK 1 (.list (is.map PyData.int)) := shk_list fun d hd => by
  obtain ⟨n, _, rfl⟩ := List.mem_map.mp hd
  exact shk_int
theorem c_law_opened (T : Tx K mg) : CalX P w K mg base CX0 2 d_law_opened ["_law_script", "_law_k", "_law_often"] (SpOpened K) := by
  refine CalX.of0 (f_law_opened T) b_law_opened s_law_opened (fun vs H Q E h => ?_) (fun cdv A outer s H vs Q E hr h => ?_)
  · obtain ⟨a, rfl, _⟩ := h
    rfl
  · obtain ⟨⟨a, is, k, often⟩, rfl, ⟨ha, hk, hk2, ho⟩, hQ⟩ := h
    have nd := s_law_opened.nd
    have ha : SqL K H a (is.map V.int) := ha
    have hk : is = [] ∨ k < is.length := hk
    refine WS.here (w_set 3 nd (v := .int (if is = [] then 5 else is.getD k 0)) (v_if (k := !decide (is = [])) (VT.is (vt_neD (d1 := .list (is.map PyData.int)) (d2 := .list []) hr.units (VR.imp (v_var 0).rel fun v H1 H2 e1 e2 r => by
      subst r
      exact .lst (ex_l (e1.trans e2) ha) (dp_is is)) (VL.dp (vl_disp va_nil (Nat.zero_le _)) .nil) ((shk_is is).shaped (by decide)) (ShK.shaped (shk_list (k := 0) fun d hd => nomatch hd) (by decide))) (by rw [eqv_list_nil]; cases is <;> simp)) (fun hb => ?_) fun hb => ?_) ?_)
    · have hne : is ≠ [] := by simpa using hb
      have hlt : k < is.length := hk.resolve_left hne
      rw [if_neg hne]
      exact v_ixN (i := k) (VX.seq (v_var 0) ha) (v_var 1) (by rw [List.getElem?_map, List.getElem?_eq_getElem hlt, List.getD_eq_getElem?_getD, List.getElem?_eq_getElem hlt] <;> rfl)
    · have hne : is = [] := by simpa using hb
      rw [if_pos hne]
      exact v_int
    · refine w_retR (vr_disp (R := fun vs H1 H3 => ∃ (l : Addr) (js : List Int), vs = [.ref l, .int ((0 : Nat) : Int)] ∧ H3 l = some (.lst (js.map V.int))) (VAR.imp (var_cons (vr_call (_, k, often) (c_law_numbers T) hr (by decide) T.g_law_numbers (va_cons (v_var 3) (va_cons (v_var 1) (va_one (v_var 2)))) (fun _ _ => ⟨hk2, ho⟩) fun v H1 H2 H3 e r => ?_) (var_one (VX.rel (v := .int ((0 : Nat) : Int)) v_int))) fun vs H3 H4 r => ?_) fun vs H3 H4 r => ?_) fun v H3 H4 e3 e4 r => ?_
      · obtain ⟨p, js, rfl, h1, h2⟩ := r
        exact ⟨p, js, rfl, fresh_back e h1, h2⟩
      · obtain ⟨v, vs', H5, rfl, e5, e6, ⟨l, js, rfl, h1, h2⟩, u, rfl, rfl⟩ := r
        exact ⟨l, js, rfl, e6 _ _ h2⟩
      · obtain ⟨l, js, rfl, _⟩ := r
        show 2 ≤ 1000000
        decide
      · obtain ⟨p, vs, H5, rfl, hp0, hp1, e5, ⟨l, js, rfl, hl⟩, rfl⟩ := r
        exact hQ _ _ (e3.trans e4) ⟨p, l, js, rfl, fresh_back e3 hp0, ⟨0, upd_same⟩, by rw [upd_ne (ne_of_none hl hp1)]; exact hl⟩
end
end K75
/-! own words, further: what draws from the pool, a list that is changed by each draw -/
namespace K75
open PySem PySem.Spec PyProof.Rows L2 Evl He
structure Pl where
  a : Addr
  l : Addr
  is : List Int
def IsPl (pl : Pl) (H : Hp) : Prop := IsPool pl.a pl.l pl.is H
theorem IsPl.ex {pl : Pl} {H H' : Hp} (e : Ex H H') (h : IsPl pl H) : IsPl pl H' := IsPool.ex e h
/-- what stood, but at a, stands -/
def Exq (a : Addr) (H H' : Hp) : Prop := ∀ b o, b ≠ a → H b = some o → H' b = some o
theorem Exq.of {a : Addr} {H H' : Hp} (e : Ex H H') : Exq a H H' := fun b o _ h => e b o h
theorem Exq.refl {a : Addr} (H : Hp) : Exq a H H := fun _ _ _ h => h
theorem Exq.trans {a : Addr} {H H1 H2 : Hp} (e : Exq a H H1) (e2 : Exq a H1 H2) : Exq a H H2 := fun b o n h => e2 b o n (e b o n h)
theorem IsPl.ne {pl : Pl} {H : Hp} {p : Addr} (h : IsPl pl H) (hp : H p = none) : p ≠ pl.a ∧ p ≠ pl.l := by
  obtain ⟨⟨k, h1⟩, h2⟩ := h
  constructor
  · rintro rfl
    rw [hp] at h1
    cases h1
  · rintro rfl
    rw [hp] at h2
    cases h2
theorem IsPl.al {pl : Pl} {H : Hp} (h : IsPl pl H) : pl.l ≠ pl.a := by
  obtain ⟨⟨k, h1⟩, h2⟩ := h
  intro e
  rw [e, h1] at h2
  injection h2 with h2
  injection h2 with h2
  obtain ⟨is⟩ := pl
  rename_i l is
  cases is with
  | nil => cases h2
  | cons i r => 
    injection h2 with h3
    cases h3
theorem fresh_backP {pl : Pl} {H H' : Hp} {p : Addr} (hp : IsPl pl H') (e : Exq pl.a H H') (h : H' p = none) : H p = none := by
  cases ho : H p with
  | none => rfl
  | some o =>
    have := e p o (hp.ne h).1 ho
    rw [h] at this
    cases this
theorem IsPl.upd {pl : Pl} {H : Hp} {p : Addr} {o : HO} (h : IsPl pl H) (n : p ≠ pl.a ∧ p ≠ pl.l) : IsPl pl (L2.upd H p o) := by
  obtain ⟨⟨k, h1⟩, h2⟩ := h
  exact ⟨⟨k, by rw [upd_ne (Ne.symm n.1)]; exact h1⟩, by rw [upd_ne (Ne.symm n.2)]; exact h2⟩
theorem exP_mut {a : Addr} {H H1 : Hp} {p : Addr} {o : HO} (e : Exq a H H1) (hp : H p = none) : Exq a H (L2.upd H1 p o) := fun b u n h => by
  by_cases z : b = p
  · subst z
    rw [hp] at h
    cases h
  · rw [upd_ne z]
    exact e b u n h
theorem exP_sq {K : PySem.W.Frag} {a p : Addr} {H H' : Hp} {xs : List V} (e : Exq a H H') (n : p ≠ a) (h : SqL K H p xs) : SqL K H' p xs := by
  rcases h with (h | ⟨o, h⟩) | h
  · exact .inl (.inl (e _ _ n h))
  · exact .inl (.inr ⟨o, e _ _ n h⟩)
  · exact .inr h
theorem ex_updP {a : Addr} {H H1 : Hp} {o : HO} (e : Exq a H H1) : Exq a H (L2.upd H1 a o) := fun b u n h => by
  rw [upd_ne n]
  exact e b u n h
/-! ### expressions -/
def EvP (te : TE) (pl : Pl) (σ : L2.St) (H : Hp) (R : V → Hp → Hp → Prop) : Prop := ∀ H1, Exq pl.a H H1 → IsPl pl H1 → ∀ Q : VK, (∀ v H2, Exq pl.a H1 H2 → IsPl pl H2 → R v H1 H2 → Q v H2) → te σ H1 Q
abbrev PR (X : Cx) (pl : Pl) (e : Expr) (σ : L2.St) (H : Hp) (R : V → Hp → Hp → Prop) : Prop := EvP (wE X e) pl σ H R
def EvPA (ta : TA) (pl : Pl) (σ : L2.St) (H : Hp) (R : List V → Hp → Hp → Prop) : Prop := ∀ H1, Exq pl.a H H1 → IsPl pl H1 → ∀ Q : List V → Hp → Prop, (∀ vs H2, Exq pl.a H1 H2 → IsPl pl H2 → R vs H1 H2 → Q vs H2) → ta σ H1 Q
abbrev PAR (X : Cx) (pl : Pl) (es : List Expr) (σ : L2.St) (H : Hp) (R : List V → Hp → Hp → Prop) : Prop := EvPA (wA X es) pl σ H R
section
variable {X : Cx} {pl : Pl} {a b e c : Expr} {es : List Expr} {σ : L2.St} {H H' : Hp} {v x y : V} {vs xs ys : List V} {pos q p2 : Pos} {R R1 R' : V → Hp → Hp → Prop} {Ra Rb : List V → Hp → Hp → Prop} {t : TE} {ta : TA}
theorem pr_of (h : PE X e t) (r : EvP t pl σ H R) : PR X pl e σ H R := fun H1 a p Q q => we_of h (r H1 a p Q q)
theorem pr_v (h : ∀ H1, Exq pl.a H H1 → IsPl pl H1 → VR X e σ H1 R) : PR X pl e σ H R := fun H1 a p Q q => h H1 a p H1 (Ex.refl _) Q fun v H2 e2 r => q v H2 (Exq.of e2) (p.ex e2) r
theorem pr_x (h : ∀ H1, Exq pl.a H H1 → IsPl pl H1 → VX X e σ H1 v) : PR X pl e σ H (fun u _ _ => u = v) := pr_v fun H1 a p => (h H1 a p).rel
theorem PR.imp (h : PR X pl e σ H R) (k : ∀ v H1 H2, Exq pl.a H H1 → IsPl pl H1 → Exq pl.a H1 H2 → IsPl pl H2 → R v H1 H2 → R' v H1 H2) : PR X pl e σ H R' := fun H1 a p Q q => h H1 a p Q fun v H2 e2 p2 r => q v H2 e2 p2 (k v H1 H2 a p e2 p2 r)
theorem PR.mono (a : Exq pl.a H H') (h : PR X pl e σ H R) : PR X pl e σ H' R := fun H1 b p Q q => h H1 (a.trans b) p Q q
theorem pa_v (h : ∀ H1, Exq pl.a H H1 → IsPl pl H1 → VAR X es σ H1 Ra) : PAR X pl es σ H Ra := fun H1 a p Q q => h H1 a p H1 (Ex.refl _) Q fun v H2 e2 r => q v H2 (Exq.of e2) (p.ex e2) r
theorem pa_x (h : ∀ H1, Exq pl.a H H1 → IsPl pl H1 → VA X es σ H1 vs) : PAR X pl es σ H (fun us _ _ => us = vs) := pa_v fun H1 a p => (h H1 a p).rel
theorem p_one (ha : PR X pl e σ H R) (hs : starEach [e] X.env = (false, eval e X.env) :: starEach [] X.env := by rfl) : PAR X pl [e] σ H (fun vs H1 H2 => ∃ v, vs = [v] ∧ R v H1 H2) :=
  fun H1 a p Q q => wa_of (pa_cons pe_w pa_nil hs) (ha H1 a p _ fun v H2 e2 p2 r => q _ H2 e2 p2 ⟨v, rfl, r⟩)
theorem p_cons (ha : PR X pl e σ H R) (hr : PAR X pl es σ H Rb) (hs : starEach (e :: es) X.env = (false, eval e X.env) :: starEach es X.env := by rfl) :
    PAR X pl (e :: es) σ H (fun ws H1 H3 => ∃ v vs H2, ws = v :: vs ∧ Exq pl.a H1 H2 ∧ IsPl pl H2 ∧ Exq pl.a H2 H3 ∧ R v H1 H2 ∧ Rb vs H2 H3) :=
  fun H1 a p Q q => wa_of (pa_cons pe_w pa_w hs) (ha H1 a p _ fun v H2 e2 p2 r => hr H2 (a.trans e2) p2 _ fun vs H3 e3 p3 r' => q _ H3 (e2.trans e3) p3 ⟨v, vs, H2, rfl, e2, p2, e3, r, r'⟩)
theorem PAR.imp (h : PAR X pl es σ H Ra) (k : ∀ v H1 H2, Exq pl.a H H1 → IsPl pl H1 → Exq pl.a H1 H2 → IsPl pl H2 → Ra v H1 H2 → Rb v H1 H2) : PAR X pl es σ H Rb := fun H1 a p Q q => h H1 a p Q fun v H2 e2 p2 r => q v H2 e2 p2 (k v H1 H2 a p e2 p2 r)
/-- a number that P tells -/
def isN (P : Nat → Prop) : V → Hp → Hp → Prop := fun v _ _ => ∃ n : Nat, v = .int (n : Int) ∧ P n
theorem p_add {i : Nat} {P P' : Nat → Prop} (ha : ∀ H1, Exq pl.a H H1 → IsPl pl H1 → VX X a σ H1 (.int (i : Int))) (hb : PR X pl b σ H (isN P)) (k : ∀ n, P n → P' (i + n)) : PR X pl (.BinOp a .Add b pos) σ H (isN P') :=
  pr_of (pe_op op_add pe_w pe_w) fun H1 a1 p1 Q q => ha H1 a1 p1 H1 (Ex.refl _) _ fun H2 e2 => hb H2 (a1.trans (Exq.of e2)) (p1.ex e2) _ fun y H3 e3 p3 r => by
    obtain ⟨n, rfl, hn⟩ := r
    exact rv_I0 (H := H3) H3 (Ex.refl _) Q fun H4 e4 => q _ H4 ((Exq.of e2).trans (e3.trans (Exq.of e4))) (p3.ex e4) ⟨i + n, by rw [Int.natCast_add], k n hn⟩
/-- xs[n] -/
theorem p_ix {P : Nat → Prop} {q0 : Addr} (ha : ∀ H1, Exq pl.a H H1 → IsPl pl H1 → VX X a σ H1 (.ref q0)) (hx : SqL X.K H q0 xs) (hq : q0 ≠ pl.a) (hb : PR X pl b σ H (isN P)) (hP : ∀ n, P n → n < xs.length) (hs : PlainIx b := by intro _ _; rfl) : PR X pl (.Subscript a b pos) σ H (fun v _ _ => v ∈ xs) :=
  pr_of (pe_ix ix_list pe_w pe_w hs) fun H1 a1 p1 Q q => ha H1 a1 p1 H1 (Ex.refl _) _ fun H2 e2 => hb H2 (a1.trans (Exq.of e2)) (p1.ex e2) _ fun y H3 e3 p3 r => by
    obtain ⟨n, rfl, hn⟩ := r
    have hlt := hP n hn
    have e23 := (Exq.of e2).trans e3
    exact ⟨q0, xs, (n : Int), xs[n], rfl, rfl, exP_sq (a1.trans e23) hq hx, atI_nat (List.getElem?_eq_getElem hlt), q _ H3 e23 p3 (List.getElem_mem hlt)⟩
/-- a new list of what is drawn -/
theorem p_disp (ha : PAR X pl es σ H Ra) (hz : ∀ vs H1 H2, Ra vs H1 H2 → vs.length ≤ 1000000) : PR X pl (.List es pos) σ H (fun v H1 H3 => ∃ p vs H2, v = .ref p ∧ H1 p = none ∧ H2 p = none ∧ Exq pl.a H1 H2 ∧ IsPl pl H2 ∧ Ra vs H1 H2 ∧ H3 = L2.upd H2 p (.lst vs)) :=
  pr_of (pe_lst pa_w) fun H1 a1 p1 Q k => ha H1 a1 p1 _ fun vs H2 e2 p2 r => ⟨by have := hz vs H1 H2 r; rw [sizeLine_eq]; omega, fun p hp => k _ _ (e2.trans (Exq.of (Ex.new hp))) (p2.ex (Ex.new hp)) ⟨p, vs, H2, rfl, fresh_backP p2 e2 hp, hp, e2, p2, r, rfl⟩⟩
/-- a new tuple of what is drawn -/
theorem p_tup {kk : Nat} (ha : PAR X pl es σ H Ra) (hz : ∀ vs H1 H2, Ra vs H1 H2 → vs.length ≤ 1000000) : PR X pl (.Tuple es kk pos) σ H (fun v H1 H3 => ∃ p vs H2, v = .ref p ∧ H1 p = none ∧ H2 p = none ∧ Exq pl.a H1 H2 ∧ IsPl pl H2 ∧ Ra vs H1 H2 ∧ H3 = L2.upd H2 p (.tup vs)) :=
  pr_of (pe_tup pa_w) fun H1 a1 p1 Q k => ha H1 a1 p1 _ fun vs H2 e2 p2 r => ⟨by have := hz vs H1 H2 r; rw [sizeLine_eq]; omega, fun p hp => k _ _ (e2.trans (Exq.of (Ex.new hp))) (p2.ex (Ex.new hp)) ⟨p, vs, H2, rfl, fresh_backP p2 e2 hp, hp, e2, p2, r, rfl⟩⟩
end
/-! ### promises -/
def SpP {α : Type} (f : α → List V) (pre : Pl → α → Hp → Prop) (R : α → V → Hp → Hp → Prop) : Sp := fun vs H Q _ => ∃ (pl : Pl) (x : α), vs = .ref pl.a :: f x ∧ IsPl pl H ∧ pre pl x H ∧ ∀ v H', Exq pl.a H H' → IsPl pl H' → R x v H H' → Q v H'
section
variable {X : Cx} {pl : Pl} {d : Df} {k j : Nat} {ps : List Str} {e : Expr} {es : List Expr} {σ : L2.St} {H : Hp} {x : Str} {p pos : Pos} {α : Type} {f : α → List V} {pre : Pl → α → Hp → Prop} {R : α → V → Hp → Hp → Prop} {Ra : List V → Hp → Hp → Prop} {R' : V → Hp → Hp → Prop}
/-- the call of a def that draws -/
theorem p_call (c : CalX X.prog X.w X.K X.mg X.base CX0 k d ps (SpP f pre R)) (hr : Room j X.A) (hk : k ≤ j) (hm : X.mg x = some (.ref (d.ad X.K))) (ha : PAR X pl (e :: es) σ H Ra)
    (hp : ∀ vs H1 H2, Exq pl.a H H1 → IsPl pl H1 → Exq pl.a H1 H2 → IsPl pl H2 → Ra vs H1 H2 → ∃ a, vs = .ref pl.a :: f a ∧ pre pl a H2 ∧ ∀ v H3, Exq pl.a H2 H3 → IsPl pl H3 → R a v H2 H3 → R' v H1 H3) (hg : Gl X x := by rfl) (hdb : (x == ("__debug__" : Str)) = false := by decide)
    (he : starEach (e :: es) X.env = (false, eval e X.env) :: starEach es X.env := by rfl) (hpl : (backTo pos (starEach es X.env)).any (·.1) = false := by rfl) : PR X pl (.Call (.Name x p) (e :: es) [] pos) σ H R' :=
  pr_of (pe_c0 c hr hk hm pa_w hg hdb he hpl) fun H1 a1 p1 Q q => ha H1 a1 p1 _ fun vs H2 e2 p2 r => by
    obtain ⟨a, ea, hpre, hk'⟩ := hp vs H1 H2 a1 p1 e2 p2 r
    exact ⟨pl, a, by rw [List.append_nil]; exact ea, p2, hpre, fun v H3 e3 p3 r' => q v H3 (e2.trans e3) p3 (hk' v H3 e3 p3 r')⟩
/-- the call of a def that draws nothing, of what was drawn -/
theorem p_callV {pre : α → Hp → Prop} (c : CalX X.prog X.w X.K X.mg X.base CX0 k d ps (SpR f pre R)) (hr : Room j X.A) (hk : k ≤ j) (hm : X.mg x = some (.ref (d.ad X.K))) (ha : PAR X pl (e :: es) σ H Ra)
    (hp : ∀ vs H1 H2, Exq pl.a H H1 → IsPl pl H1 → Exq pl.a H1 H2 → IsPl pl H2 → Ra vs H1 H2 → ∃ a, vs = f a ∧ pre a H2 ∧ ∀ v H3, Ex H2 H3 → R a v H2 H3 → R' v H1 H3) (hg : Gl X x := by rfl) (hdb : (x == ("__debug__" : Str)) = false := by decide)
    (he : starEach (e :: es) X.env = (false, eval e X.env) :: starEach es X.env := by rfl) (hpl : (backTo pos (starEach es X.env)).any (·.1) = false := by rfl) : PR X pl (.Call (.Name x p) (e :: es) [] pos) σ H R' :=
  pr_of (pe_c0 c hr hk hm pa_w hg hdb he hpl) fun H1 a1 p1 Q q => ha H1 a1 p1 _ fun vs H2 e2 p2 r => by
    obtain ⟨a, ea, hpre, hk'⟩ := hp vs H1 H2 a1 p1 e2 p2 r
    exact ⟨a, by rw [List.append_nil]; exact ea, hpre, fun v H3 e3 r' => q v H3 (e2.trans (Exq.of e3)) (p2.ex e3) (hk' v H3 e3 r')⟩
/-- a built-in class called of what was drawn -/
theorem p_callTy1 {id : String} {g : List V → Hp → VK → Prop} {R1 : V → Hp → Hp → Prop} (hc : CallR X (.type id) g) (hm : X.mg x = none) (hv : bootBuiltins x = some (.type id)) (ha : PR X pl e σ H R1)
    (hr : ∀ H1 H2 v, Exq pl.a H H1 → IsPl pl H1 → Exq pl.a H1 H2 → IsPl pl H2 → R1 v H1 H2 → ∀ Q : VK, (∀ v H3, Ex H2 H3 → R' v H1 H3 → Q v H3) → g [v] H2 Q) (hg : Gl X x := by rfl) (hn : x ≠ "__name__" := by decide) (hdb : (x == ("__debug__" : Str)) = false := by decide)
    (hs : starEach [e] X.env = (false, eval e X.env) :: starEach [] X.env := by rfl) (hpl : (backTo pos (starEach [] X.env)).any (·.1) = false := by rfl) : PR X pl (.Call (.Name x p) [e] [] pos) σ H R' :=
  pr_of (pe_callTy hc hg hm hv (pa_cons pe_w pa_nil hs) hn hdb hs hpl) fun H1 a1 p1 Q q => ha H1 a1 p1 _ fun v H2 e2 p2 r => hr H1 H2 v a1 p1 e2 p2 r Q fun u H3 e3 r' => q u H3 (e2.trans (Exq.of e3)) (p2.ex e3) r'
theorem p_callB1 {id : String} {g : List V → Hp → VK → Prop} {R1 : V → Hp → Hp → Prop} (hc : CallR X (.builtin id) g) (hm : X.mg x = none) (hv : bootBuiltins x = some (.builtin id)) (ha : PR X pl e σ H R1)
    (hr : ∀ H1 H2 v, Exq pl.a H H1 → IsPl pl H1 → Exq pl.a H1 H2 → IsPl pl H2 → R1 v H1 H2 → ∀ Q : VK, (∀ v H3, Ex H2 H3 → R' v H1 H3 → Q v H3) → g [v] H2 Q) (hg : Gl X x := by rfl) (hn : x ≠ "__name__" := by decide) (hdb : (x == ("__debug__" : Str)) = false := by decide)
    (hs : starEach [e] X.env = (false, eval e X.env) :: starEach [] X.env := by rfl) (hpl : (backTo pos (starEach [] X.env)).any (·.1) = false := by rfl) : PR X pl (.Call (.Name x p) [e] [] pos) σ H R' :=
  pr_of (pe_callB hc hg hm hv (pa_cons pe_w pa_nil hs) hn hdb hs hpl) fun H1 a1 p1 Q q => ha H1 a1 p1 _ fun v H2 e2 p2 r => hr H1 H2 v a1 p1 e2 p2 r Q fun u H3 e3 r' => q u H3 (e2.trans (Exq.of e3)) (p2.ex e3) r'
end
/-! ### statements -/
section
variable {X : Cx} {pl : Pl} {a b e o ie : Expr} {rest body : List Stmt} {σ : L2.St} {H : Hp} {D : Ends} {n m : Str} {np pos q px py pt pt2 spos : Pos} {kt k2 : Nat} {v : V} {R R1 R2' : V → Hp → Hp → Prop} {l : Addr} {xs : List V}
/-- l[j] = e -/
theorem w_setItem {j : Nat} (hl : H l = some (.lst xs)) (he : VX X e σ H v) (ho : VX X o σ H (.ref l)) (hi : VX X ie σ H (.int (j : Int))) (hj : j < xs.length) (k : ∀ H1, Ex H H1 → WS X rest D σ (L2.upd H1 l (.lst (xs.set j v))))
    (ha : ∀ v, assign (.Subscript o ie q) X.env v = (do
      let ov ← holding [v] (eval o X.env)
      let iv ← holding [v, ov] (eval ie X.env)
      standAt q
      holding [v, ov, iv] (setItem ov iv v)
      release [v, ov, iv] []) := by intro _; rfl) (hs : swapsWithSole [.Subscript o ie q] e spos.line X.env = pure false := by rfl) (hw : swappedStores [.Subscript o ie q] e X.env = pure none := by rfl) (h1 : (assignEach [.Subscript o ie q] X.env).map (·.2) = [assign (.Subscript o ie q) X.env] := by rfl) :
    WS X (.Assign [.Subscript o ie q] e spos :: rest) D σ H :=
  w_cons (ps_asg pe_w (pg_sub pe_w pe_w set_list ha) hs hw h1) fun H1 e1 => s_setL (D := { D with nx := wSs X rest D }) (j := j) (e1 _ _ hl) (fun H2 e2 => he H2 (e1.trans e2)) (fun H2 e2 => ho H2 (e1.trans e2)) (fun H2 e2 => hi H2 (e1.trans e2)) hj fun H2 e2 => (k H2 (e1.trans e2)).here
/-- n = e, where e draws -/
theorem w_setP (i : Nat) (nd : X.N.Nodup) (hp : IsPl pl H) (hv : PR X pl e σ H R) (k : ∀ v H1 H2, Ex H H1 → Exq pl.a H1 H2 → IsPl pl H2 → R v H1 H2 → WS X rest D (σ.set i (some v)) H2) (hi : X.N[i]? = some n := by rfl) (hx : Loc X.env.scope n := by first | exact Or.inl rfl | exact Or.inr rfl)
    (hs : swapsWith e (some (.Name n np)) pos.line X.env = pure false := by rfl) (hf : X.fn n = true ∨ X.env.scope.names.lookup n = some .local := by first | exact .inl rfl | exact .inr rfl) : WS X (.Assign [.Name n np] e pos :: rest) D σ H :=
  w_cons (ps_set nd hi hx pe_w hs hf) fun H1 a => hv H1 (Exq.of a) (hp.ex a) _ fun v H2 b p2 r => (k v H1 H2 a b p2 r).here
theorem w_retP (hp : IsPl pl H) (hv : PR X pl e σ H R) (k : ∀ v H1 H2, Ex H H1 → Exq pl.a H1 H2 → IsPl pl H2 → R v H1 H2 → D.rt v H2) : WS X (.Return (some e) pos :: rest) D σ H := fun H1 a => ws_of (pss_cons (ps_ret pe_w) ps_w) (hv H1 (Exq.of a) (hp.ex a) _ fun v H2 b p2 r => k v H1 H2 a b p2 r)
/-- x, y = a, b, both drawing -/
theorem w_parP (i j : Nat) (nd : X.N.Nodup) (hp : IsPl pl H) (ha : PR X pl a σ H R1) (hb : PR X pl b σ H R2') (k : ∀ v w H1 H2 H3, Ex H H1 → Exq pl.a H1 H2 → Exq pl.a H2 H3 → IsPl pl H3 → R1 v H1 H2 → R2' w H2 H3 → WS X rest D ((σ.set i (some v)).set j (some w)) H3)
    (hc : X.calm = true := by rfl) (hi : X.N[i]? = some n := by rfl) (hj : X.N[j]? = some m := by rfl) (hij : i ≠ j := by decide) (hx : X.env.scope.names.lookup n = some .local := by rfl) (hy : X.env.scope.names.lookup m = some .local := by rfl)
    (hs : starEach [a, b] X.env = (false, eval a X.env) :: starEach [b] X.env := by rfl) (hs2 : starEach [b] X.env = (false, eval b X.env) :: starEach [] X.env := by rfl) (hsw : swappedStores [.Tuple [.Name n px, .Name m py] kt pt] (.Tuple [a, b] k2 pt2) X.env = pure (some [n, m]) := by rfl) (hso : swapsWithSole [.Tuple [.Name n px, .Name m py] kt pt] (.Tuple [a, b] k2 pt2) pos.line X.env = pure false := by rfl) :
    WS X (.Assign [.Tuple [.Name n px, .Name m py] kt pt] (.Tuple [a, b] k2 pt2) pos :: rest) D σ H :=
  w_cons (ps_par hc nd hi hj hij hx hy (pa_cons pe_w (pa_cons pe_w pa_nil hs2) hs) hsw hso) fun H1 e1 => ha H1 (Exq.of e1) (hp.ex e1) _ fun v H2 e2 p2 r1 => hb H2 ((Exq.of e1).trans e2) p2 _ fun w H3 e3 p3 r2 => ⟨v, w, rfl, (k v w H1 H2 H3 e1 e2 e3 p3 r1 r2).here⟩
/-- l.append(e), where e draws -/
theorem w_appendP (i : Nat) {sp : Pos} {p' : Pos} (hp : IsPl pl H) (hv : PR X pl e σ H R) (hl : H l = some (.lst xs)) (hn : l ≠ pl.a) (hz : xs.length ≤ 1000000) (k : ∀ v H1 H2, Ex H H1 → Exq pl.a H1 H2 → IsPl pl H2 → R v H1 H2 → WS X rest D σ (L2.upd H2 l (.lst (xs ++ [v]))))
    (hs : σ[i]? = some (some (.ref l)) := by rfl) (hN : X.N[i]? = some n := by rfl) (hvis : Vis X.env.scope n := by first | exact Or.inl rfl | exact Or.inr (Or.inl rfl) | exact Or.inr (Or.inr rfl)) (hd : (n == ("__debug__" : Str)) = false := by decide) (hcd : (n == ("__classdict__" : Str)) = false := by decide)
    (hbase : attributeBase (.Name n np) "append" X.env (eval (.Name n np) X.env) = eval (.Name n np) X.env := by rfl)
    (hfew : ((backTo pos (starEach [e] X.env)).all (fun x => !x.1) && (backToKw pos (keywordEach [] X.env)).all (fun x => x.1.isSome)
      && decide ([e].length + ([] : List Keyword).length + (if ([] : List Keyword).isEmpty then 0 else 1) < 30)) = true := by rfl)
    (hline : (p'.endLine == pos.line) = true := by rfl) (hst : starEach [e] X.env = (false, eval e X.env) :: starEach [] X.env := by rfl) (hpl : (backTo pos (starEach [] X.env)).any (·.1) = false := by rfl)
    (hsw : swapsWith (.Call (.Attribute (.Name n np) "append" p') [e] [] pos) none sp.line X.env = pure false := by rfl) : WS X (.Expr (.Call (.Attribute (.Name n np) "append" p') [e] [] pos) sp :: rest) D σ H :=
  w_cons (ps_expr (pe_bm PySem.F.plainAttrs_list PySem.F.slot_list_append PySem.F.type_list_append mt_append (pv i hN hvis hd hcd) (pa_cons pe_w pa_nil hst) hbase hfew hline hst hpl) hsw) fun H1 e1 => ⟨_, hs, .inl ⟨rfl, _, sq_of (e1 _ _ hl)⟩, hv H1 (Exq.of e1) (hp.ex e1) _ fun v H2 e2 p2 r =>
    ⟨l, xs, v, rfl, rfl, e2 _ _ hn (e1 _ _ hl), by rw [sizeLine_eq]; omega, (k v H1 H2 e1 e2 p2 r).here⟩⟩
/-- for x in range(e), where e draws -/
theorem w_forRP {tg : Expr} {P : Nat → Prop} (j : Nat) (hp : IsPl pl H) (hm : X.mg "range" = none) (ha : PR X pl a σ H (isN P)) (hz : ∀ k, P k → k ≤ 100000) (hgT : PG X tg (gName j)) (Pv : Nat → L2.St → Hp → Prop) (h0 : ∀ H1 H2, Ex H H1 → Exq pl.a H1 H2 → IsPl pl H2 → Pv 0 σ H2)
    (hs : ∀ k, P k → ∀ i σ' H1, i < k → Pv i σ' H1 → wSs X body { D with nx := Pv (i + 1), ct := Pv (i + 1), bk := wSs X rest D } (σ'.set j (some (.int (i : Int)))) H1) (hd : ∀ k, P k → ∀ σ' H1, Pv k σ' H1 → wSs X rest D σ' H1) (hpo : PassesOwn (model X.prog X.w) X.A X.env X.xe) (hc : X.calm = true := by rfl)
    (hg : Gl X "range" := by rfl) (hst : starEach [a] X.env = [(false, eval a X.env)] := by rfl) (hs2 : starEach [a] X.env = (false, eval a X.env) :: starEach [] X.env := by rfl) (hfs : ∀ x, foldedSetIterable (.Call (.Name "range" q) [a] [] np) X.env x = pure x := by intro _; rfl) :
    WS X (.For tg (.Call (.Name "range" q) [a] [] np) body [] pos :: rest) D σ H :=
  w_cons (ps_for hpo hc (pi_range1 hg hm (pa_cons pe_w pa_nil hs2) hst) hgT ps_w hfs) fun H1 a1 => ha H1 (Exq.of a1) (hp.ex a1) _ fun v H2 e2 p2 r => by
    obtain ⟨k, rfl, hk⟩ := r
    have hk2 := hz k hk
    refine ⟨(k : Int), rfl, by omega, by omega, ?_⟩
    rw [Int.toNat_natCast]
    refine for_range (D := { D with nx := wSs X rest D }) (lo := 0) (n := k) Pv (h0 H1 H2 a1 e2 p2) (fun i σ' H' hi p => ?_) fun σ' H' p => hd k hk σ' H' p
    have e0 : (0 : Int) + (i : Int) = (i : Int) := Int.zero_add _
    show wSs X body _ (σ'.set j (some (.int ((0 : Int) + (i : Int))))) H'
    rw [e0]
    exact hs k hk i σ' H' hi p
end
/-! ### comprehensions -/
structure GOkP (a : Pl) (J : It) (n : Nat) (G : Hp → Prop) (Y : Nat → Hp → V → Hp → Prop) : Prop where
  walk : Walk J n G Y
  mono : ∀ H H', Exq a.a H H' → IsPl a H → G H → G H'
def EvIP {α : Type} (wi : TI) (pl : Pl) (σ : L2.St) (H : Hp) (f : α → V) (Rz : List α → Prop) : Prop := ∀ H1, Exq pl.a H H1 → IsPl pl H1 → ∀ R : It → Hp → Prop, (∀ zs J H2 (G : Hp → Prop), Rz zs → Exq pl.a H1 H2 → IsPl pl H2 → GOkP pl J zs.length G (YAt (zs.map f)) → G H2 → R J H2) → wi σ H1 R
def VIP (X : Cx) (tg iter : Expr) (pl : Pl) (σ : L2.St) (H : Hp) {α : Type} (f : α → V) (Rz : List α → Prop) : Prop := ∃ wi, PI X tg iter wi ∧ EvIP wi pl σ H f Rz
/-- all that is no list and is not at a stands -/
def KeepT (a : Addr) (H H' : Hp) : Prop := ∀ b o, b ≠ a → (∀ xs, o ≠ .lst xs) → H b = some o → H' b = some o
section
variable {X : Cx} {pl : Pl} {elt tg iter a : Expr} {scope : Scope} {own : List (Str × Nat)} {pos q np spos py : Pos} {σ : L2.St} {H : Hp} {α : Type} {f : α → V} {Rz : List α → Prop}
theorem vip_list (ha : PR X pl a σ H fun v _ H2 => ∃ p zs, v = .ref p ∧ p ≠ pl.a ∧ SqL X.K H2 p (zs.map f) ∧ Rz zs) : VIP X tg a pl σ H f Rz := ⟨_, pi_list pe_w, fun H1 e p1 R k => ha H1 e p1 _ fun u H2 e2 p2 r => by
  obtain ⟨p, zs, rfl, n, hp, hz⟩ := r
  have w := walk_list (K := X.K) (a := p) (xs := zs.map f)
  rw [List.length_map] at w
  exact ⟨p, rfl, ⟨_, hp⟩, k zs _ H2 (fun H => SqL X.K H p (zs.map f)) hz e2 p2 ⟨w, fun H H' e _ h => exP_sq e n h⟩ hp⟩⟩
theorem vip_range {P : Nat → Prop} (hm : X.mg "range" = none) (ha : PR X pl a σ H (isN P)) (hz : ∀ n, P n → n ≤ 1000000) (hg : Gl X "range" := by rfl) (hs : starEach [a] X.env = [(false, eval a X.env)] := by rfl) (hs2 : starEach [a] X.env = (false, eval a X.env) :: starEach [] X.env := by rfl) :
    VIP X tg (.Call (.Name "range" q) [a] [] pos) pl σ H (fun i : Nat => V.int (i : Int)) (fun zs => ∃ n, P n ∧ zs = List.range n) := ⟨_, pi_range1 hg hm (pa_cons pe_w pa_nil hs2) hs, fun H1 e p1 R kk => ha H1 e p1 _ fun v H2 e2 p2 r => by
  obtain ⟨k, rfl, hk⟩ := r
  have := hz k hk
  refine ⟨_, rfl, by omega, by omega, ?_⟩
  rw [Int.toNat_natCast]
  have w := walk_range (lo := 0) (n := k)
  refine kk (List.range k) _ H2 (fun _ => True) ⟨k, hk, rfl⟩ e2 p2 ⟨?_, fun _ _ _ _ h => h⟩ trivial
  rw [List.length_range]
  exact Walk.mono w (fun _ h => h) fun i H x H' hi _ y => ⟨y.1, by
    rw [List.getElem?_map, List.getElem?_range hi, y.2]
    show some (V.int (i : Int)) = some (V.int (0 + (i : Int)))
    rw [Int.zero_add]⟩⟩
/-- the list that a comprehension makes: S tells each item by what it was made of -/
theorem lcP_go {S : α → V → Hp → Prop} {j : Nat} {wi : TI} {te : TE} {vs : List Nat} (hi : EvIP wi pl σ H f Rz) (hn : ∀ zs, Rz zs → zs.length ≤ 40000) (hw : ∀ x, wipe ((wipe σ vs).set j (some x)) vs = wipe σ vs)
    (hS : ∀ z x H H', KeepT pl.a H H' → S z x H → S z x H') (he : ∀ zs, Rz zs → ∀ z ∈ zs, EvP te pl ((wipe σ vs).set j (some (f z))) H fun v _ H2 => S z v H2) :
    EvP (tLc wi (gName j) tYes te vs) pl σ H fun v H1 H2 => ∃ (Dl : Addr) (zs : List α) (xs : List V), v = .ref Dl ∧ H1 Dl = none ∧ H2 Dl = some (.lst xs) ∧ Rz zs ∧ Paired (fun x z => S z x H2) xs zs := fun H0 e0 p0 Q q => hi H0 e0 p0 _ fun zs J H1 G hz e1 p1 gk hG Dl hD => by
  have kT : ∀ {A B : Hp}, Exq pl.a A B → KeepT pl.a A B := fun e b o n _ h => e b o n h
  have kU : ∀ {A : Hp} {ys zs : List V}, A Dl = some (.lst ys) → KeepT pl.a A (L2.upd A Dl (.lst zs)) := fun {A ys zs} hA b o n hl h => by
    rw [upd_ne (fun z => hl ys (by subst z; rw [hA] at h; exact (Option.some.inj h).symm))]
    exact h
  refine lc_it gk.walk (fun i H' => Exq pl.a H1 H' ∧ IsPl pl H' ∧ ∃ xs, H' Dl = some (.lst xs) ∧ Paired (fun x z => S z x H') xs (zs.take i)) ⟨Exq.of (Ex.new hD), p1.ex (Ex.new hD), [], upd_same, .nil⟩ (fun _ H' _ h => gk.mono _ _ h.1 p1 hG) (fun i x H2 H3 hlt hp hy => ?_) fun H' hp => ?_
  · obtain ⟨a1, a2, xs, a3, a4⟩ := hp
    have eY := YAt.ex hy
    have ex : x = f zs[i] := by
      have h2 := hy.2
      rw [List.getElem?_map, List.getElem?_eq_getElem hlt] at h2
      exact (Option.some.inj h2).symm
    subst ex
    refine ⟨hw _, ?_⟩
    show te _ H3 _
    refine he zs hz zs[i] (List.getElem_mem hlt) H3 ((e0.trans e1).trans (a1.trans (Exq.of eY))) (a2.ex eY) _ fun v H4 e4 p4 r => ?_
    have nD := (p1.ne hD).1
    have e34 := (Exq.of eY).trans e4
    have hD4 := e34 Dl _ nD a3
    have hxs : xs.length = (zs.take i).length := Paired.length a4
    rw [List.length_take] at hxs
    have := hn zs hz
    refine ⟨xs, hD4, by rw [sizeLine_eq]; omega, exP_mut (a1.trans e34) hD, p4.upd (p1.ne hD), xs ++ [v], upd_same, ?_⟩
    have e5 : zs.take (i + 1) = zs.take i ++ [zs[i]] := by rw [List.take_succ, List.getElem?_eq_getElem hlt] <;> rfl
    rw [e5]
    have l1 : Paired (fun x z => S z x (L2.upd H4 Dl (.lst (xs ++ [v])))) xs (zs.take i) := Paired.mapP a4 fun x z s => hS _ _ _ _ (kU hD4) (hS _ _ _ _ (kT e34) s)
    have l2 : S zs[i] v (L2.upd H4 Dl (.lst (xs ++ [v]))) := hS _ _ _ _ (kU hD4) r
    have snoc : ∀ {xs : List V} {ws : List α} {F : V → α → Prop} {x : V} {w : α}, Paired F xs ws → F x w → Paired F (xs ++ [x]) (ws ++ [w]) := by
      intro xs ws F x w h hx
      induction h with
      | nil => exact .cons hx .nil
      | cons h t ih => exact .cons h ih
    exact snoc l1 l2
  · obtain ⟨a1, a2, xs, a3, a4⟩ := hp
    rw [List.take_length] at a4
    exact q _ H' (e1.trans a1) a2 ⟨Dl, zs, xs, rfl, fresh_backP p1 e1 hD, a3, hz, a4⟩
def wP (X : Cx) (pl : Pl) (elt : Expr) (scope : Scope) (σ : L2.St) (H : Hp) (R : V → Hp → Hp → Prop) : Prop := ∀ (s : Shared) (H0 : Hp) (C : Addr) (cl : List (Str × Addr)) (fp : List Addr), PR (X.blk s H0 scope (compEnvC scope cl C X.env) fp) pl elt σ H R
theorem p_lc {S : α → V → Hp → Prop} {j : Nat} (hc : X.calm = true) (nd : X.N.Nodup) (hi : VIP X tg iter pl σ H f Rz) (hn : ∀ zs, Rz zs → zs.length ≤ 40000) (ok : BlkOk X.N X.env.scope scope own)
    (hgT : ∀ (s : Shared) (H : Hp) (C : Addr) (cl : List (Str × Addr)) (fp : List Addr), PG (X.blk s H scope (compEnvC scope cl C X.env) fp) tg (gName j)) (hw : ∀ x, wipe ((wipe σ (own.map (·.2))).set j (some x)) (own.map (·.2)) = wipe σ (own.map (·.2)))
    (hS : ∀ z x H H', KeepT pl.a H H' → S z x H → S z x H') (he : ∀ (s : Shared) (H0 : Hp) (C : Addr) (cl : List (Str × Addr)) (fp : List Addr) zs, Rz zs → ∀ z ∈ zs, PR (X.blk s H0 scope (compEnvC scope cl C X.env) fp) pl elt ((wipe σ (own.map (·.2))).set j (some (f z))) H fun v _ H2 => S z v H2) (hs : ∀ x, foldedSetIterable iter X.env x = pure x := by intro _; rfl) :
    PR X pl (.ListComp elt [⟨tg, iter, [], 0⟩] scope pos) σ H (fun v H1 H2 => ∃ (Dl : Addr) (zs : List α) (xs : List V), v = .ref Dl ∧ H1 Dl = none ∧ H2 Dl = some (.lst xs) ∧ Rz zs ∧ Paired (fun x z => S z x H2) xs zs) := by
  obtain ⟨wi, hpi, hev⟩ := hi
  exact pr_of (pe_lc (te := bE X scope elt) hc nd hpi ok hgT (fun _ _ _ _ _ => pts_nil) (fun s H0 C cl fp => ⟨fun pins s' σ' H' Q I h => h s H0 C cl fp pins s' I⟩) hs) (lcP_go hev hn hw hS fun zs hz z hm H1 e1 p1 Q q => fun s H0 C cl fp => he s H0 C cl fp zs hz z hm H1 e1 p1 Q q)
/-- name = [..] -/
theorem w_setLcP {S : α → V → Hp → Prop} {j : Nat} {y : Str} {rest : List Stmt} {D : Ends} (i : Nat) (nd : X.N.Nodup) (hp : IsPl pl H) (hi : VIP X tg iter pl σ H f Rz) (hn : ∀ zs, Rz zs → zs.length ≤ 40000) (ok : BlkOk X.N X.env.scope scope own)
    (hgT : ∀ (s : Shared) (H : Hp) (C : Addr) (cl : List (Str × Addr)) (fp : List Addr), PG (X.blk s H scope (compEnvC scope cl C X.env) fp) tg (gName j)) (hw : ∀ x, wipe ((wipe σ (own.map (·.2))).set j (some x)) (own.map (·.2)) = wipe σ (own.map (·.2)))
    (hS : ∀ z x H H', KeepT pl.a H H' → S z x H → S z x H') (he : ∀ (s : Shared) (H0 : Hp) (C : Addr) (cl : List (Str × Addr)) (fp : List Addr) zs, Rz zs → ∀ z ∈ zs, PR (X.blk s H0 scope (compEnvC scope cl C X.env) fp) pl elt ((wipe σ (own.map (·.2))).set j (some (f z))) H fun v _ H2 => S z v H2)
    (k : ∀ (p : Addr) (zs : List α) (xs : List V) H2, H p = none → Exq pl.a H H2 → IsPl pl H2 → H2 p = some (.lst xs) → Rz zs → Paired (fun x z => S z x H2) xs zs → WS X rest D (σ.set i (some (.ref p))) H2) (hc : X.calm = true := by rfl) (hy : X.N[i]? = some y := by rfl) (hyl : X.env.scope.names.lookup y = some .local := by rfl)
    (hsw : swapsWith (.ListComp elt [⟨tg, iter, [], 0⟩] scope pos) (some (.Name y py)) spos.line X.env = pure true := by exact sw_true rfl rfl rfl (by decide +kernel)) (hs : ∀ x, foldedSetIterable iter X.env x = pure x := by intro _; rfl) :
    WS X (.Assign [.Name y py] (.ListComp elt [⟨tg, iter, [], 0⟩] scope pos) spos :: rest) D σ H := by
  obtain ⟨wi, hpi, hev⟩ := hi
  exact w_cons (ps_setLc (te := bE X scope elt) hc nd hy hyl hsw hpi ok hgT (fun _ _ _ _ _ => pts_nil) (fun s H0 C cl fp => ⟨fun pins s' σ' H' Q I h => h s H0 C cl fp pins s' I⟩) hs) fun H1 e1 => lcP_go hev hn hw hS (fun zs hz z hm H1 e1 p1 Q q => fun s H0 C cl fp => he s H0 C cl fp zs hz z hm H1 e1 p1 Q q) H1 (Exq.of e1) (hp.ex e1) _ fun v H2 e2 p2 r => by
    obtain ⟨Dl, zs, xs, rfl, h1, h2, h3, h4⟩ := r
    exact (k Dl zs xs H2 (fresh_back e1 h1) ((Exq.of e1).trans e2) p2 h2 h3 h4).here
end
end K75
/-! the law's defs that draw: _law_draw, _law_pick, _law_sizes, _law_steps -/
namespace K75
open PySem PySem.Spec PyProof.Rows L2 Evl He
section
variable {P : Program} {w : World} {K : PySem.W.Frag} {mg : Str → Option Value} {base : Heap}
/-! ### _law_draw -/
abbrev N_law_draw : List Str := ["_law_pool", "_law_often", "_law_at"]
theorem s_law_draw : FnScope N_law_draw ["_law_pool", "_law_often"] (defScope d_law_draw.st) := C8.fnScope_by (by decide +kernel)
abbrev SpDraw : Sp := SpP (fun often : Nat => [.int ((often : Nat) : Int)]) (fun _ often _ => 1 ≤ often) (fun often v _ _ => ∃ n : Nat, v = .int (n : Int) ∧ n < often)
theorem c_law_draw (T : Tx K mg) : CalX P w K mg base CX0 1 d_law_draw ["_law_pool", "_law_often"] SpDraw := by
  refine CalX.of0 (f_law_draw T) b_law_draw s_law_draw (fun vs H Q E h => ?_) (fun cdv A outer s H vs Q E hr h => ?_)
  · obtain ⟨pl, a, rfl, _⟩ := h
    rfl
  · obtain ⟨pl, often, rfl, hp, ho, hQ⟩ := h
    have ho : 1 ≤ often := ho
    obtain ⟨⟨k, ha⟩, hl⟩ := id hp
    have nd := s_law_draw.nd
    refine WS.here (w_set 2 nd (v_ixN (i := 1) (VX.seq (v_var 0) (sq_of ha)) v_int rfl) (w_setItem (j := 1) ha (v_add (v_var 2) v_int) (v_var 0) v_int (by show 1 < 2; decide) fun H1 e1 => ?_))
    have ha2 : L2.upd H1 pl.a (.lst [.ref pl.l, .int ((k : Int) + 1)]) pl.a = some (.lst [.ref pl.l, .int ((k : Int) + 1)]) := upd_same
    have hl2 : L2.upd H1 pl.a (.lst [.ref pl.l, .int ((k : Int) + 1)]) pl.l = some (.lst (pl.is.map V.int)) := by
      rw [upd_ne hp.al]
      exact e1 _ _ hl
    show WS _ _ _ _ (L2.upd H1 pl.a (.lst [.ref pl.l, .int ((k : Int) + 1)]))
    refine w_ret (v_if (v := .int (if k < pl.is.length then pl.is.getD k 0 % (often : Int) else 0)) (VT.is (vt_lt (v_var 2) (v_len T.n_len (VX.seq (v_ixN (i := 0) (VX.seq (v_var 0) (sq_of ha2)) v_int rfl) (sq_of hl2)))) (b := decide (k < pl.is.length)) ?_) (fun hb => ?_) fun hb => ?_) fun H2 e2 => hQ _ _ ((ex_updP (Exq.of e1)).trans (Exq.of e2)) ?_ ?_
    · rw [List.length_map]
      exact decide_eq_decide.mpr (by omega)
    · have hlt : k < pl.is.length := of_decide_eq_true hb
      rw [if_pos hlt]
      refine v_mod (v_intI T.n_int (v_ixN (i := k) (VX.seq (v_ixN (i := 0) (VX.seq (v_var 0) (sq_of ha2)) v_int rfl) (sq_of hl2)) (v_var 2) ?_)) (v_var 1) (by omega)
      rw [List.getElem?_map, List.getElem?_eq_getElem hlt, List.getD_eq_getElem?_getD, List.getElem?_eq_getElem hlt] <;> rfl
    · have hlt : ¬ k < pl.is.length := of_decide_eq_false hb
      rw [if_neg hlt]
      exact v_int
    · refine IsPl.ex e2 ⟨⟨k + 1, ?_⟩, hl2⟩
      rw [ha2, Int.natCast_add] <;> rfl
    · by_cases hlt : k < pl.is.length
      · rw [if_pos hlt]
        have h1 : 0 ≤ pl.is.getD k 0 % (often : Int) := Int.emod_nonneg _ (by omega)
        have h2 : pl.is.getD k 0 % (often : Int) < (often : Int) := Int.emod_lt_of_pos _ (by omega)
        exact ⟨(pl.is.getD k 0 % (often : Int)).toNat, by rw [Int.toNat_of_nonneg h1], by omega⟩
      · rw [if_neg hlt]
        exact ⟨0, rfl, ho⟩
/-! ### _law_pick -/
abbrev N_law_pick : List Str := ["_law_pool", "_law_some"]
theorem s_law_pick : FnScope N_law_pick ["_law_pool", "_law_some"] (defScope d_law_pick.st) := C8.fnScope_by (by decide +kernel)
abbrev SpPick (K : PySem.W.Frag) : Sp := SpP (fun a : Addr × List V => [.ref a.1]) (fun pl a H => SqL K H a.1 a.2 ∧ a.1 ≠ pl.a ∧ a.2 ≠ []) (fun a v _ _ => v ∈ a.2)
end
section
variable {X : Cx} {pl : Pl} {a b : Expr} {σ : L2.St} {H : Hp} {p pos : Pos} {k j : Nat}
/-- _law_draw(pool, often) -/
theorem p_draw {often : Nat} (T : Tx X.K X.mg) (hr : Room j X.A) (hj : 1 ≤ j) (ha : ∀ H1, Exq pl.a H H1 → IsPl pl H1 → VX X a σ H1 (.ref pl.a)) (hb : ∀ H1, Exq pl.a H H1 → IsPl pl H1 → VX X b σ H1 (.int ((often : Nat) : Int))) (ho : 1 ≤ often) (hg : Gl X "_law_draw" := by rfl)
    (hs : starEach [a, b] X.env = (false, eval a X.env) :: starEach [b] X.env := by rfl) (hs2 : starEach [b] X.env = (false, eval b X.env) :: starEach [] X.env := by rfl) (hpl : (backTo pos (starEach [b] X.env)).any (·.1) = false := by rfl) :
    PR X pl (.Call (.Name "_law_draw" p) [a, b] [] pos) σ H (isN fun n => n < often) :=
  p_call (c_law_draw (P := X.prog) (w := X.w) (base := X.base) T) hr hj T.g_law_draw (pa_x fun H1 a1 p1 => va_cons (ha H1 a1 p1) (va_one (hb H1 a1 p1) hs2) hs) (fun vs H1 H2 a1 p1 e2 p2 r => ⟨often, r, ho, fun v H3 _ _ r => r⟩) hg (by decide) hs hpl
end
section
variable {P : Program} {w : World} {K : PySem.W.Frag} {mg : Str → Option Value} {base : Heap}
theorem c_law_pick (T : Tx K mg) : CalX P w K mg base CX0 2 d_law_pick ["_law_pool", "_law_some"] (SpPick K) := by
  refine CalX.of0 (f_law_pick T) b_law_pick s_law_pick (fun vs H Q E h => ?_) (fun cdv A outer s H vs Q E hr h => ?_)
  · obtain ⟨pl, a, rfl, _⟩ := h
    rfl
  · obtain ⟨pl, ⟨q, xs⟩, rfl, hp, ⟨hx, hq, hne⟩, hQ⟩ := h
    have hx : SqL K H q xs := hx
    have hq : q ≠ pl.a := hq
    have hne : xs ≠ [] := hne
    have hpos : 1 ≤ xs.length := List.length_pos_iff.mpr hne
    exact WS.here (w_retP hp (p_ix (xs := xs) (fun H1 _ _ => v_var 1) hx hq (p_draw (often := xs.length) T hr (by decide) (fun H1 _ _ => v_var 0) (fun H1 a1 p1 => v_len T.n_len (VX.seq (v_var 1) (exP_sq a1 hq hx))) hpos) (fun n h => h)) fun v H1 H2 a b p2 r => hQ v H2 ((Exq.of a).trans b) p2 r)
end
section
variable {X : Cx} {pl : Pl} {a b : Expr} {σ : L2.St} {H : Hp} {p pos : Pos} {k j : Nat}
/-- _law_pick(pool, some) -/
theorem p_pick {Rx : List V → Prop} (T : Tx X.K X.mg) (hr : Room j X.A) (hj : 2 ≤ j) (ha : ∀ H1, Exq pl.a H H1 → IsPl pl H1 → VX X a σ H1 (.ref pl.a)) (hb : PR X pl b σ H fun v H1 H2 => ∃ p xs, v = .ref p ∧ p ≠ pl.a ∧ SqL X.K H2 p xs ∧ xs ≠ [] ∧ Rx xs) (hg : Gl X "_law_pick" := by rfl)
    (hs : starEach [a, b] X.env = (false, eval a X.env) :: starEach [b] X.env := by rfl) (hs2 : starEach [b] X.env = (false, eval b X.env) :: starEach [] X.env := by rfl) (hpl : (backTo pos (starEach [b] X.env)).any (·.1) = false := by rfl) :
    PR X pl (.Call (.Name "_law_pick" p) [a, b] [] pos) σ H (fun v _ _ => ∃ xs, Rx xs ∧ v ∈ xs) :=
  p_call (c_law_pick (P := X.prog) (w := X.w) (base := X.base) T) hr hj T.g_law_pick (p_cons (pr_x ha) (p_one hb hs2) hs) (fun vs H1 H2 a1 p1 e2 p2 r => by
    obtain ⟨v, vs', H3, rfl, e3, p3, e4, rfl, u, rfl, q, xs, rfl, hq, hx, hne, hR⟩ := r
    exact ⟨(q, xs), rfl, ⟨hx, hq, hne⟩, fun v H3 _ _ r => ⟨xs, hR, r⟩⟩) hg (by decide) hs hpl
/-- .. from a written list -/
theorem p_pickL {es : List Expr} {vs : List V} {lp : Pos} (T : Tx X.K X.mg) (hr : Room j X.A) (hj : 2 ≤ j) (ha : ∀ H1, Exq pl.a H H1 → IsPl pl H1 → VX X a σ H1 (.ref pl.a)) (hb : ∀ H1, Exq pl.a H H1 → IsPl pl H1 → VA X es σ H1 vs) (hne : vs ≠ []) (hz : vs.length ≤ 1000000) (hg : Gl X "_law_pick" := by rfl)
    (hs : starEach [a, .List es lp] X.env = (false, eval a X.env) :: starEach [.List es lp] X.env := by rfl) (hs2 : starEach [.List es lp] X.env = (false, eval (.List es lp) X.env) :: starEach [] X.env := by rfl) (hpl : (backTo pos (starEach [.List es lp] X.env)).any (·.1) = false := by rfl) :
    PR X pl (.Call (.Name "_law_pick" p) [a, .List es lp] [] pos) σ H (fun v _ _ => v ∈ vs) :=
  (p_pick (Rx := fun xs => xs = vs) T hr hj ha (pr_v fun H1 a1 p1 => VR.imp (vl_disp (hb H1 a1 p1) hz).rel fun v H2 H3 e2 e3 r => by
    obtain ⟨q, rfl, h1, h2⟩ := r
    exact ⟨q, vs, rfl, ((p1.ex e2).ne h1).1, sq_of h2, hne, rfl⟩) hg hs hs2 hpl).imp fun v H1 H2 _ _ _ _ r => by
    obtain ⟨xs, rfl, h⟩ := r
    exact h
end
section
variable {P : Program} {w : World} {K : PySem.W.Frag} {mg : Str → Option Value} {base : Heap}
/-! ### _law_sizes -/
abbrev N_law_sizes : List Str := ["_law_pool", "_law_often", "_law_most", "_law_gained", "_law_step", "_law_one"]
theorem s_law_sizes : FnScope N_law_sizes ["_law_pool", "_law_often", "_law_most"] (defScope d_law_sizes.st) := C8.fnScope_by (by decide +kernel)
abbrev SpLawSizes : Sp := SpP (fun a : Nat × Nat => [.int ((a.1 : Nat) : Int), .int ((a.2 : Nat) : Int)]) (fun _ a _ => 1 ≤ a.1 ∧ a.1 ≤ 1000 ∧ 1 ≤ a.2) (fun a v H1 H2 => ∃ p zs, v = .ref p ∧ H1 p = none ∧ H2 p = some (.lst (ints_ zs)) ∧ zs.Nodup ∧ zs.length ≤ a.1 ∧ ∀ z ∈ zs, 1 ≤ z ∧ z ≤ a.2)
theorem c_law_sizes (T : Tx K mg) : CalX P w K mg base CX0 2 d_law_sizes ["_law_pool", "_law_often", "_law_most"] SpLawSizes := by
  refine CalX.of0 (f_law_sizes T) b_law_sizes s_law_sizes (fun vs H Q E h => ?_) (fun cdv A outer s H vs Q E hr h => ?_)
  · obtain ⟨pl, a, rfl, _⟩ := h
    rfl
  · obtain ⟨pl, ⟨often, most⟩, rfl, hp, ⟨h1, h2, h3⟩, hQ⟩ := h
    have h1 : 1 ≤ often := h1
    have h2 : often ≤ 1000 := h2
    have h3 : 1 ≤ most := h3
    have nd := s_law_sizes.nd
    refine WS.here (w_setL 3 nd (vl_disp va_nil (Nat.zero_le _)) fun p H1 hp0 e1 hp1 => ?_)
    have np := hp.ne hp0
    refine w_forRP (P := fun n => n ≤ often) 4 (hp.ex e1) T.n_range (p_add (i := 1) (fun _ _ _ => v_int) (p_draw (often := often) T hr (by decide) (fun _ _ _ => v_var 0) (fun _ _ _ => v_var 1) h1) (fun n hn => by show 1 + n ≤ often; omega)) (fun k hk => by have hk : k ≤ often := hk; omega) (pg_name (i := 4) nd rfl (Or.inl rfl))
      (fun i σ' H' => ∃ (zs : List Nat) (x4 x5 : Option V), σ' = [some (.ref pl.a), some (.int ((often : Nat) : Int)), some (.int ((most : Nat) : Int)), some (.ref p), x4, x5] ∧ Exq pl.a H H' ∧ IsPl pl H' ∧ H' p = some (.lst (ints_ zs)) ∧ zs.Nodup ∧ zs.length ≤ i ∧ ∀ z ∈ zs, 1 ≤ z ∧ z ≤ most)
      (fun H2 H3 e2 e3 p3 => ⟨[], none, none, rfl, (Exq.of (e1.trans e2)).trans e3, p3, e3 _ _ np.1 (e2 _ _ hp1), .nil, Nat.le_refl _, fun _ h => nomatch h⟩) (fun k hk i σ' H2 hi hP => ?_) (fun k hk σ' H2 hP => ?_) PassesOwn.never
    · obtain ⟨zs, x4, x5, rfl, eH, p2, hl, hnd, hlen, hall⟩ := hP
      have hk : k ≤ often := hk
      refine WS.here (w_setP 5 nd p2 (p_add (i := 1) (P' := fun n => 1 ≤ n ∧ n ≤ most) (fun _ _ _ => v_int) (p_draw (often := most) T hr (by decide) (fun _ _ _ => v_var 0) (fun _ _ _ => v_var 2) h3) (fun n hn => ⟨by omega, by omega⟩)) fun v H3 H4 e3 e4 p4 r => ?_)
      obtain ⟨n, rfl, hn⟩ := r
      have hl4 := e4 _ _ np.1 (e3 _ _ hl)
      have eH4 := eH.trans ((Exq.of e3).trans e4)
      refine w_when (VT.is (vt_notin (v_var 5) (VX.seq (v_var 3) (sq_of hl4)) rfl (flat_ints zs)) (b := !decide (n ∈ zs)) (by rw [inV_ints])) (fun hb => ?_) fun hb => ?_
      · have hnm : n ∉ zs := by simpa using hb
        refine w_append 3 (v_var 5).rel hl4 (by rw [ints_len]; omega) fun v H5 H6 e5 e6 r => ?_
        subst r
        refine w_nil fun H7 e7 => WS.here (w_nil fun H8 e8 => ⟨zs ++ [n], _, _, rfl, (exP_mut (eH4.trans (Exq.of (e5.trans e6))) hp0).trans (Exq.of (e7.trans e8)), ((p4.ex (e5.trans e6)).upd np).ex (e7.trans e8), ?_, ?_, ?_, ?_⟩)
        · refine (e7.trans e8) _ _ ?_
          rw [upd_same, ints_, ints_, List.map_append] <;> rfl
        · rw [List.nodup_append]
          exact ⟨hnd, by simp, fun a ha b hb hab => by
            rw [List.mem_singleton] at hb
            subst hb
            subst hab
            exact hnm ha⟩
        · rw [List.length_append]
          show zs.length + 1 ≤ i + 1
          omega
        · intro z hz
          rcases List.mem_append.mp hz with hz | hz
          · exact hall z hz
          · rw [List.mem_singleton] at hz
            subst hz
            exact hn
      · exact w_nil fun H5 e5 => ⟨zs, _, _, rfl, eH4.trans (Exq.of e5), p4.ex e5, e5 _ _ hl4, hnd, by omega, hall⟩
    · obtain ⟨zs, x4, x5, rfl, eH, p2, hl, hnd, hlen, hall⟩ := hP
      have hk : k ≤ often := hk
      exact WS.here (w_ret (v_var 3) fun H3 e3 => hQ _ _ (eH.trans (Exq.of e3)) (p2.ex e3) ⟨p, zs, rfl, hp0, e3 _ _ hl, hnd, Nat.le_trans hlen hk, hall⟩)
/-! ### _law_steps -/
abbrev N_law_steps : List Str := ["_law_pool", "_law_most", "_law_one"]
theorem s_law_steps : FnScope N_law_steps ["_law_pool", "_law_most"] (defScope d_law_steps.st) := C8.fnScope_by (by decide +kernel)
abbrev SpLawSteps : Sp := SpP (fun most : Nat => [.int ((most : Nat) : Int)]) (fun _ most _ => 1 ≤ most) (fun most v H1 H2 => ∃ p zs, v = .ref p ∧ H1 p = none ∧ H2 p = some (.lst (ints_ zs)) ∧ zs.length ≤ 8 ∧ ∀ z ∈ zs, z ≤ most)
theorem paired_ints : ∀ {xs : List V} {zs : List Nat}, Paired (fun x z => x = V.int ((z : Nat) : Int)) xs zs → xs = ints_ zs
  | _, _, .nil => rfl
  | _, _, .cons h t => by
    subst h
    rw [paired_ints t] <;> rfl
theorem c_law_steps (T : Tx K mg) : CalX P w K mg base CX0 3 d_law_steps ["_law_pool", "_law_most"] SpLawSteps := by
  refine CalX.of0 (f_law_steps T) b_law_steps s_law_steps (fun vs H Q E h => ?_) (fun cdv A outer s H vs Q E hr h => ?_)
  · obtain ⟨pl, a, rfl, _⟩ := h
    rfl
  · obtain ⟨pl, most, rfl, hp, h1, hQ⟩ := h
    have h1 : 1 ≤ most := h1
    have nd := s_law_steps.nd
    refine WS.here (w_retP hp (p_callB1 (R' := fun v H1 H2 => ∃ p zs, v = .ref p ∧ H1 p = none ∧ H2 p = some (.lst (ints_ zs)) ∧ zs.length ≤ 8 ∧ ∀ z ∈ zs, z ≤ most) cr_sortedI T.n_sorted (by decide +kernel)
      (p_lc (S := fun (z : Nat) v _ => v = .int (z : Int)) (f := fun z : Nat => V.int (z : Int)) (Rz := fun zs => zs.length ≤ 8 ∧ ∀ z ∈ zs, z ≤ most) (j := 2) (own := [("_law_one", 2)]) rfl nd
        (vip_list (PR.imp (p_call (R' := fun v H1 H2 => ∃ p zs, v = .ref p ∧ H1 p = none ∧ H2 p = some (.lst (ints_ zs)) ∧ zs.length ≤ 8 ∧ ∀ z ∈ zs, z ≤ most) (c_law_sizes T) hr (by decide) T.g_law_sizes (p_cons (pr_x fun _ _ _ => v_var 0) (p_cons (p_pickL T hr (by decide) (fun _ _ _ => v_var 0) (fun _ _ _ => va_cons v_int (va_one v_int)) (by simp) (by show 2 ≤ 1000000; decide)) (p_one (pr_x fun _ _ _ => v_var 1)))) fun vs H1 H2 a1 p1 e2 p2 r => ?_) fun v H1 H2 a1 p1 e2 p2 r => ?_))
        (fun zs h => by have := h.1; omega) (blkOk_by (N := N_law_steps) (sc := defScope d_law_steps.st) (by decide +kernel)) (fun _ _ _ _ _ => pg_name (i := 2) nd rfl (Or.inl rfl)) (fun _ => rfl) (fun _ _ _ _ _ h => h) (fun s H0 C cl fp zs hz z hm => pr_x fun _ _ _ => v_intI T.n_int (v_var 2)))
      fun H1 H2 v a1 p1 e2 p2 r Q q => ?_) fun v H1 H2 a b p2 r => ?_)
    · obtain ⟨v, vs', H3, rfl, e3, p3, e4, rfl, u, us, H4, rfl, e5, p5, e6, hu, v', rfl, rfl⟩ := r
      obtain ⟨o, ho, ho2, ho3⟩ : ∃ o : Nat, u = .int (o : Int) ∧ 1 ≤ o ∧ o ≤ 8 := by
        simp only [List.mem_cons, List.not_mem_nil, or_false] at hu
        rcases hu with e | e
        · exact ⟨5, e, by decide, by decide⟩
        · exact ⟨8, e, by decide, by decide⟩
      subst ho
      refine ⟨(o, most), rfl, ⟨ho2, by show o ≤ 1000; omega, h1⟩, fun v H7 e7 p7 r => ?_⟩
      obtain ⟨p, zs, rfl, z1, z2, z3, z4, z5⟩ := r
      exact ⟨p, zs, rfl, fresh_backP p2 e2 z1, z2, Nat.le_trans z4 ho3, fun z hz => (z5 z hz).2⟩
    · obtain ⟨p, zs, rfl, z1, z2, z3, z4⟩ := r
      exact ⟨p, zs, rfl, (p1.ne z1).1, sq_of z2, z3, z4⟩
    · obtain ⟨Dl, zs, xs, rfl, d1, d2, d3, d4⟩ := r
      have ex := paired_ints d4
      subst ex
      refine ⟨Dl, zs.map fun n => ((n : Nat) : Int), rfl, by rw [← ints_eq]; exact sq_of d2, fun ns' l hp1 hp2 hl => q _ _ (Ex.new hl) ⟨l, srtN zs, rfl, fresh_backP p2 e2 hl, ?_, ?_, fun z hz => d3.2 z ((srtN_perm zs).mem_iff.mp hz)⟩⟩
      · rw [upd_same, srt_ints hp1 hp2]
      · rw [(srtN_perm zs).length_eq]
        exact d3.1
    · obtain ⟨p, zs, rfl, z1, z2, z3, z4⟩ := r
      exact hQ _ _ ((Exq.of a).trans b) p2 ⟨p, zs, rfl, fresh_back a z1, z2, z3, z4⟩
end
end K75
/-! the law's defs: _law_weights, _law_weights_text -/
namespace K75
open PySem PySem.Spec PyProof.Rows L2 Evl He
theorem merge_rows : ∀ (rows acc : List (Nat × Nat)), (acc.map (·.1)).Nodup → mergeK (kvsOf acc) (kvsOf rows) = kvsOf (rows.foldl (fun d p => putR p d) acc)
  | [], _, _ => rfl
  | p :: r, acc, h => by
    show mergeK (putK (kvsOf acc) (Sum.inl ((p.1 : Nat) : Int)) (V.int ((p.2 : Nat) : Int))) (kvsOf r) = _
    rw [putK_rows h, merge_rows r _ (putR_nodup h)] <;> rfl
theorem merge_new {rows : List (Nat × Nat)} (h : (rows.map (·.1)).Nodup) : mergeK [] (kvsOf rows) = kvsOf rows := by
  have := merge_rows rows [] .nil
  rw [show rows.foldl (fun d p => putR p d) [] = dictOf rows from rfl, dict_same h] at this
  exact this
/-- the pairs that a walk over keys lays -/
def PairAt (a : Addr) (z : Nat) (v : V) (H : Hp) : Prop := ∃ (p : Addr) (n : Nat), v = .ref p ∧ p ≠ a ∧ H p = some (.tup [.int ((z : Nat) : Int), .int ((n : Nat) : Int)]) ∧ n ≤ 1000
theorem pairs_rows {K : PySem.W.Frag} {a : Addr} {H : Hp} : ∀ {xs : List V} {zs : List Nat}, Paired (fun x z => PairAt a z x H) xs zs → ∃ (ps : List Addr) (rows : List (Nat × Nat)), xs = ps.map V.ref ∧ rows.map (·.1) = zs ∧ (∀ p ∈ rows, p.2 ≤ 1000) ∧ Paired (fun p kv => SqT K H p [kV kv.1, kv.2]) ps (kvsOf rows)
  | _, _, .nil => ⟨[], [], rfl, rfl, (fun _ h => nomatch h), .nil⟩
  | _, z :: zs, .cons h t => by
    obtain ⟨p, n, rfl, _, h2, h3⟩ := h
    obtain ⟨ps, rows, rfl, e2, e3, e4⟩ := pairs_rows t
    refine ⟨p :: ps, (z, n) :: rows, rfl, by rw [List.map_cons, e2], fun q hq => ?_, .cons (st_of h2) e4⟩
    rcases List.mem_cons.mp hq with e | e
    · subst e
      exact h3
    · exact e3 q e
section
variable {P : Program} {w : World} {K : PySem.W.Frag} {mg : Str → Option Value} {base : Heap}
abbrev N_law_weights : List Str := ["_law_pool", "_law_some", "_law_one"]
theorem s_law_weights : FnScope N_law_weights ["_law_pool", "_law_some"] (defScope d_law_weights.st) := C8.fnScope_by (by decide +kernel)
abbrev SpLawWeights (K : PySem.W.Frag) : Sp := SpP (fun a : Addr × List Nat => [.ref a.1]) (fun pl a H => SqL K H a.1 (ints_ a.2) ∧ a.1 ≠ pl.a ∧ a.2.Nodup ∧ a.2.length ≤ 1000) (fun a v H1 H2 => ∃ d rows, v = .ref d ∧ H1 d = none ∧ IsDict rows d H2 ∧ rows.map (·.1) = a.2 ∧ ∀ p ∈ rows, p.2 ≤ 1000)
theorem c_law_weights (T : Tx K mg) : CalX P w K mg base CX0 3 d_law_weights ["_law_pool", "_law_some"] (SpLawWeights K) := by
  refine CalX.of0 (f_law_weights T) b_law_weights s_law_weights (fun vs H Q E h => ?_) (fun cdv A outer s H vs Q E hr h => ?_)
  · obtain ⟨pl, a, rfl, _⟩ := h
    rfl
  · obtain ⟨pl, ⟨q, zs0⟩, rfl, hp, ⟨hx, hq, hnd, hz⟩, hQ⟩ := h
    have hx : SqL K H q (ints_ zs0) := hx
    have hq : q ≠ pl.a := hq
    have hnd : zs0.Nodup := hnd
    have hz : zs0.length ≤ 1000 := hz
    have nd := s_law_weights.nd
    refine WS.here (w_retP hp (p_callTy1 (R' := fun v H1 H2 => ∃ d rows, v = .ref d ∧ H1 d = none ∧ IsDict rows d H2 ∧ rows.map (·.1) = zs0 ∧ ∀ p ∈ rows, p.2 ≤ 1000) (call_dictP rfl) T.n_dict (by decide +kernel)
      (p_lc (S := PairAt pl.a) (f := fun z : Nat => V.int (z : Int)) (Rz := fun zs => zs = zs0) (j := 2) (own := [("_law_one", 2)]) rfl nd
        (vip_list (pr_v fun H1 a1 p1 => VR.imp (VX.rel (v := .ref q) (v_var 1)) fun v H1' H2 e1 e2 r => ?_))
        (fun zs h => by subst h; omega) (blkOk_by (N := N_law_weights) (sc := defScope d_law_weights.st) (by decide +kernel)) (fun _ _ _ _ _ => pg_name (i := 2) nd rfl (Or.inl rfl)) (fun _ => rfl) (fun z x A B k h => ?_) (fun s H0 C cl fp zs hz z hm => ?_))
      fun H1 H2 v a1 p1 e2 p2 r Q q => ?_) fun v H1 H2 a b p2 r => ?_)
    · subst r
      exact ⟨q, zs0, rfl, hq, ex_l (e1.trans e2) (exP_sq a1 hq hx), rfl⟩
    · obtain ⟨p, n, e1, e2, e3, e4⟩ := h
      exact ⟨p, n, e1, e2, k _ _ e2 (fun _ h => nomatch h) e3, e4⟩
    · refine PR.imp (p_tup (p_cons (pr_x fun _ _ _ => v_var 2) (p_one (p_pick (Rx := fun xs => ∀ v ∈ xs, ∃ n : Nat, v = .int (n : Int) ∧ n ≤ 1000) T hr (by decide) (fun _ _ _ => v_var 0) (PR.imp (p_disp (p_cons (pr_x fun _ _ _ => v_int) (p_cons (pr_x fun _ _ _ => v_int) (p_cons (pr_x fun _ _ _ => v_int) (p_cons (pr_x fun _ _ _ => v_int) (p_cons (pr_x fun _ _ _ => v_int) (p_cons (pr_x fun _ _ _ => v_int) (p_one (p_draw (often := 30) T hr (by decide) (fun _ _ _ => v_var 0) (fun _ _ _ => v_int) (by decide))))))))) fun vs H1 H2 r => ?_) fun v H1 H2 a1 p1 e2 p2 r => ?_)))) fun vs H1 H2 r => ?_) fun v H1 H2 a1 p1 e2 p2 r => ?_
      · obtain ⟨_, _, _, rfl, _, _, _, _, _, _, _, rfl, _, _, _, _, _, _, _, rfl, _, _, _, _, _, _, _, rfl, _, _, _, _, _, _, _, rfl, _, _, _, _, _, _, _, rfl, _, _, _, _, _, rfl, _⟩ := r
        show 7 ≤ 1000000
        decide
      · obtain ⟨p, vs, H3, rfl, n1, n3, e3, p3, r, rfl⟩ := r
        obtain ⟨_, _, _, rfl, _, _, _, rfl, _, _, _, rfl, _, _, _, rfl, _, _, _, rfl, _, _, _, rfl, _, _, _, rfl, _, _, _, rfl, _, _, _, rfl, _, _, _, rfl, _, _, _, rfl, _, _, _, rfl, v, rfl, n, rfl, hn⟩ := r
        have hn : n < 30 := hn
        refine ⟨p, _, rfl, (p3.ne n3).1, sq_of upd_same, (fun h => nomatch h), fun v hv => ?_⟩
        simp only [List.mem_cons, List.not_mem_nil, or_false] at hv
        rcases hv with e | e | e | e | e | e | e
        · exact ⟨0, e, by decide⟩
        · exact ⟨1, e, by decide⟩
        · exact ⟨1, e, by decide⟩
        · exact ⟨2, e, by decide⟩
        · exact ⟨5, e, by decide⟩
        · exact ⟨1000, e, by decide⟩
        · exact ⟨n, e, by omega⟩
      · obtain ⟨_, _, _, rfl, _, _, _, _, _, rfl, _⟩ := r
        show 2 ≤ 1000000
        decide
      · obtain ⟨p, vs, H3, rfl, n1, n3, e3, p3, r, rfl⟩ := r
        obtain ⟨_, _, _, rfl, _, _, _, rfl, u, rfl, xs, hxs, hm⟩ := r
        obtain ⟨n, rfl, hn⟩ := hxs u hm
        exact ⟨p, n, rfl, (p3.ne n3).1, upd_same, hn⟩
    · obtain ⟨Dl, zs, xs, rfl, d1, d2, rfl, d4⟩ := r
      obtain ⟨ps, rows, rfl, e2', e3, e4⟩ := pairs_rows (K := K) d4
      have hnr : (rows.map (·.1)).Nodup := by rw [e2']; exact hnd
      refine ⟨Dl, ps, kvsOf rows, rfl, sq_of d2, e4, fun l hl => q _ _ (Ex.new hl) ⟨l, rows, rfl, fresh_backP p2 e2 hl, ⟨?_, hnr, ?_⟩, e2', e3⟩⟩
      · rw [upd_same, merge_new hnr]
      · have : rows.length = (rows.map (·.1)).length := (List.length_map _).symm
        rw [this, e2']
        omega
    · obtain ⟨d, rows, rfl, z1, z2, z3, z4⟩ := r
      exact hQ _ _ ((Exq.of a).trans b) p2 ⟨d, rows, rfl, fresh_back a z1, z2, z3, z4⟩
end
end K75
/-! the law's defs: _law_weights_text -/
namespace K75
open PySem PySem.Spec PyProof.Rows L2 Evl He
section
variable {P : Program} {w : World} {K : PySem.W.Frag} {mg : Str → Option Value} {base : Heap}
abbrev N_law_weights_text : List Str := ["_law_weights_here", "_law_rows", "_law_size", "_law_one"]
theorem s_law_weights_text : FnScope N_law_weights_text ["_law_weights_here"] (defScope d_law_weights_text.st) := C8.fnScope_by (by decide +kernel)
abbrev SpLawWeightsText : Sp := SpR (fun a : Addr × List (Nat × Nat) => [.ref a.1]) (fun a H => IsDict a.2 a.1 H ∧ a.2.length ≤ 30 ∧ ∀ p ∈ a.2, p.1 < 1000000 ∧ p.2 < 1000000) (fun a v _ _ => v = .str (SX.S (weightsT (inOrder a.2))))
theorem c_law_weights_text (T : Tx K mg) : CalX P w K mg base CX0 1 d_law_weights_text ["_law_weights_here"] SpLawWeightsText := by
  refine CalX.of0 (f_law_weights_text T) b_law_weights_text s_law_weights_text (fun vs H Q E h => ?_) (fun cdv A outer s H vs Q E hr h => ?_)
  · obtain ⟨a, rfl, _⟩ := h
    rfl
  · obtain ⟨⟨d, rows⟩, rfl, ⟨hD, hlen, hrow⟩, hQ⟩ := h
    have hD : IsDict rows d H := hD
    have hlen : rows.length ≤ 30 := hlen
    have hrow : ∀ p ∈ rows, p.1 < 1000000 ∧ p.2 < 1000000 := hrow
    obtain ⟨hd, hnd, _⟩ := id hD
    have nd := s_law_weights_text.nd
    have hks : (srtN (rows.map (·.1))).length = rows.length := by rw [(srtN_perm _).length_eq, List.length_map]
    have hkey : ∀ z ∈ srtN (rows.map (·.1)), ∃ p ∈ rows, p.1 = z ∧ rows.lookup z = some p.2 ∧ atK rows z = p.2 := fun z hz' => by
      obtain ⟨p, hp, rfl⟩ := List.mem_map.mp ((srtN_perm _).mem_iff.mp hz')
      have hl := lookup_mem hnd p hp
      exact ⟨p, hp, rfl, hl, by rw [atK, hl] <;> rfl⟩
    refine WS.here (w_setLc 1 nd (lc_map (zs := srtN (rows.map (·.1))) (f := fun n => V.int ((n : Nat) : Int)) (g' := fun s => V.str (SX.S (rowT (s, atK rows s)))) (j := 2) (own := [("_law_size", 2)])
      ((vi_list (VL.seq (vl_sortedN T.n_sorted (VL.seq (VL.is (vl_lock hd fun od => vl_map (zs := rows) (f := fun p => V.int ((p.1 : Nat) : Int)) (g' := fun p => V.int ((p.1 : Nat) : Int)) (j := 3) (own := [("_law_one", 3)]) rfl nd
        (vi_rows (v_var 0) upd_same) (by omega) (blkOk_by (N := N_law_weights_text) (sc := defScope d_law_weights_text.st) (by decide +kernel)) (fun _ _ _ _ _ => pg_name (i := 3) nd rfl (Or.inl rfl)) (fun _ => rfl)
        (fun s H0 C cl fp p hp => v_intI T.n_int (v_var 3))) (ys := ints_ (rows.map (·.1))) (by rw [ints_, List.map_map] <;> rfl)))))).cast (ints_len _)) (by rw [hks]; omega) (fun _ _ _ _ _ => pg_name (i := 2) nd rfl (Or.inl rfl)) (fun _ => rfl)
      (fun s H0 C cl fp z hz' => ?_)) (blkOk_by (N := N_law_weights_text) (sc := defScope d_law_weights_text.st) (by decide +kernel)) fun p H1 hp e1 h1 => ?_)
    · obtain ⟨p, hp, rfl, hl, ha⟩ := hkey z hz'
      obtain ⟨g1, g2⟩ := hrow p hp
      have l1 : (TL.numL p.1).length ≤ 6 := TL.numL_len (by decide) (by omega)
      have l2 : (TL.numL p.2).length ≤ 6 := TL.numL_len (by decide) (by omega)
      have l0 : (wSize ++ [32]).length = 5 := rfl
      refine VX.is (v_catS (v_catS (v_catS (v_lit (t := wSize ++ [32]) (by decide +kernel)) (v_strN T.n_str (v_var 2) (lt1000 g1)) (by omega)) (v_lit (t := [32]) (by decide +kernel)) ?_) (v_strN T.n_str (v_dget (hu_of hr) (v_var 0) (v_var 2) (.inl hd) hl) (lt1000 g2)) ?_) (by rw [ha, rowT_eq])
      · simp only [List.length_append, List.length_cons, List.length_nil] at l0 ⊢
        omega
      · simp only [List.length_append, List.length_cons, List.length_nil] at l0 ⊢
        omega
    · have e : (srtN (rows.map (·.1))).map (fun s => V.str (SX.S (rowT (s, atK rows s)))) = txts ((inOrder rows).map rowT) := by
        rw [txts, inOrder, rowsOf, List.map_map, List.map_map] <;> rfl
      rw [e] at h1
      have hil : (inOrder rows).length = rows.length := by rw [inOrder, rowsOf, List.length_map, hks]
      refine w_ret (v_join (ts := wWeights :: (inOrder rows).map rowT) (v_lit (t := [10]) (by decide +kernel)) (VL.seq (vl_cat (xs := txts [wWeights]) (VL.m (vl_disp (va_one (v_lit (t := wWeights) (by decide +kernel))) (by show 1 ≤ 1000000; decide))) (VX.m (v_var 1) h1) ?_)) ?_) fun H2 e2 => hQ _ _ (e1.trans e2) rfl
      · have e2 : (txts ((inOrder rows).map rowT)).length = rows.length := by rw [txts_len, List.length_map, hil]
        show 1 + (txts ((inOrder rows).map rowT)).length ≤ 1000000
        rw [e2]
        omega
      · have hle : ∀ z ∈ (inOrder rows).map rowT, z.length ≤ 200000 := fun z hz' => by
          obtain ⟨p, hp, rfl⟩ := List.mem_map.mp hz'
          obtain ⟨s, hs, rfl⟩ := List.mem_map.mp hp
          obtain ⟨q, hq, rfl, _, ha⟩ := hkey s hs
          exact rowT_len (hrow q hq).1 (by show atK rows q.1 < 1000000; rw [ha]; exact (hrow q hq).2)
        have hs := sumL_le hle
        unfold sumL at hs
        rw [List.length_map, hil] at hs
        simp only [List.map_cons, List.sum_cons, List.length_cons, List.length_map, List.length_nil]
        rw [hil]
        have : wWeights.length = 7 := rfl
        omega
end
end K75
/-! the law's defs: _law_bent -/
namespace K75
open PySem PySem.Spec PyProof.Rows L2 Evl He
/-! ### texts -/
theorem CpOk.cat {s t : List Nat} (h : CpOk s) (k : CpOk t) : CpOk (s ++ t) := fun c hc => (List.mem_append.mp hc).elim (h c) (k c)
theorem CpOk.take {t : List Nat} (h : CpOk t) (n : Nat) : CpOk (t.take n) := fun c hc => h c (List.mem_of_mem_take hc)
theorem CpOk.drop {t : List Nat} (h : CpOk t) (n : Nat) : CpOk (t.drop n) := fun c hc => h c (List.mem_of_mem_drop hc)
theorem CpOk.join {s : List Nat} (hs : CpOk s) : ∀ {ts : List (List Nat)}, (∀ t ∈ ts, CpOk t) → CpOk (TL.joinL s ts)
  | [], _ => fun c hc => nomatch hc
  | [p], h => h p (List.mem_cons_self ..)
  | p :: q :: r, h => by
    rw [joinL_cons (by simp)]
    exact (h p (List.mem_cons_self ..)).cat (hs.cat (CpOk.join hs fun t ht => h t (List.mem_cons_of_mem _ ht)))
theorem sumL_cat (s t : List (List Nat)) : sumL (s ++ t) = sumL s + sumL t := by
  simp only [sumL, List.map_append, List.sum_append]
theorem sumL_rev (s : List (List Nat)) : sumL s.reverse = sumL s := by
  unfold sumL
  rw [List.map_reverse, List.sum_reverse]
theorem sumL_td (k : Nat) (s : List (List Nat)) : sumL (s.take k) + sumL (s.drop k) = sumL s := by
  rw [← sumL_cat, List.take_append_drop]
/-- some of the lines joined: no longer than twice the text -/
theorem bent_join {t : List Nat} {ts : List (List Nat)} (h1 : sumL ts ≤ 2 * sumL (linesOf t)) (h2 : ts.length ≤ 2 * (linesOf t).length) : (TL.joinL [10] ts).length ≤ 2 * t.length + 10 := by
  have h := join_le [10] ts
  have s : sumL (linesOf t) + (linesOf t).length = t.length + 1 := spl_sum 10 t
  simp only [List.length_cons, List.length_nil] at h
  omega
theorem txts_take (k : Nat) (ls : List (List Nat)) : (txts ls).take k = txts (ls.take k) := by
  unfold txts
  rw [List.map_take]
theorem txts_cat (a b : List (List Nat)) : txts a ++ txts b = txts (a ++ b) := by
  unfold txts
  rw [List.map_append]
theorem txts_rev (a : List (List Nat)) : (txts a).reverse = txts a.reverse := by
  unfold txts
  rw [List.map_reverse]
def signs : List (List Nat) := [[32], [48], [49], [57], [45], [97], [116], [10], [49, 48], [49, 48, 48]]
theorem signs_len {t : List Nat} (h : t ∈ signs) : t.length ≤ 3 ∧ CpOk t := by
  have h1 : signs.all (fun t => decide (t.length ≤ 3) && t.all fun c => decide (c < 1114112)) = true := by decide +kernel
  have h2 := List.all_eq_true.mp h1 t h
  rw [Bool.and_eq_true, decide_eq_true_eq, List.all_eq_true] at h2
  exact ⟨h2.1, fun c hc => of_decide_eq_true (h2.2 c hc)⟩
section
variable {P : Program} {w : World} {K : PySem.W.Frag} {mg : Str → Option Value} {base : Heap}
abbrev N_law_bent : List Str := ["_law_pool", "_law_text", "_law_way", "_law_at", "_law_sign", "_law_lines", "_law_one"]
theorem s_law_bent : FnScope N_law_bent ["_law_pool", "_law_text"] (defScope d_law_bent.st) := C8.fnScope_by (by decide +kernel)
abbrev SpBent : Sp := SpP (fun t : List Nat => [.str (SX.S t)]) (fun _ t _ => t.length ≤ 100000 ∧ CpOk t) (fun t v _ _ => ∃ t', v = .str (SX.S t') ∧ t'.length ≤ 2 * t.length + 10 ∧ CpOk t')
theorem c_law_bent (T : Tx K mg) : CalX P w K mg base CX0 3 d_law_bent ["_law_pool", "_law_text"] SpBent := by
  refine CalX.of0 (f_law_bent T) b_law_bent s_law_bent (fun vs H Q E h => ?_) (fun cdv A outer s H vs Q E hr h => ?_)
  · obtain ⟨pl, a, rfl, _⟩ := h
    rfl
  · obtain ⟨pl, t, rfl, hp, ⟨hz, hcp⟩, hQ⟩ := h
    have hz : t.length ≤ 100000 := hz
    have hcp : CpOk t := hcp
    have nd := s_law_bent.nd
    have hsum : sumL (linesOf t) + (linesOf t).length = t.length + 1 := spl_sum 10 t
    have hpos : 1 ≤ (linesOf t).length := List.length_pos_iff.mpr (spl_ne 10 t [])
    refine WS.here (w_parP 2 3 nd hp (p_draw (often := 6) T hr (by decide) (fun _ _ _ => v_var 0) (fun _ _ _ => v_int) (by decide)) (p_draw (often := t.length + 1) T hr (by decide) (fun _ _ _ => v_var 0) (fun _ _ _ => v_add (v_lenS T.n_len (v_var 1) (by omega)) v_int) (by omega)) fun v w H1 H2 H3 e1 e2 e3 p3 r1 r2 => ?_)
    obtain ⟨way, rfl, _⟩ := r1
    obtain ⟨at_, rfl, hat⟩ := r2
    have hat : at_ < t.length + 1 := hat
    refine w_setP 4 nd p3 (p_pickL (vs := txts signs) T hr (by decide) (fun _ _ _ => v_var 0) (fun _ _ _ => va_cons (v_lit (t := [32]) (by decide +kernel)) (va_cons (v_lit (t := [48]) (by decide +kernel)) (va_cons (v_lit (t := [49]) (by decide +kernel)) (va_cons (v_lit (t := [57]) (by decide +kernel)) (va_cons (v_lit (t := [45]) (by decide +kernel)) (va_cons (v_lit (t := [97]) (by decide +kernel)) (va_cons (v_lit (t := [116]) (by decide +kernel)) (va_cons (v_lit (t := [10]) (by decide +kernel)) (va_cons (v_lit (t := [49, 48]) (by decide +kernel)) (va_one (v_lit (t := [49, 48, 48]) (by decide +kernel)))))))))))) (by simp [txts, signs]) (by show 10 ≤ 1000000; decide)) fun v H4 H5 e4 e5 p5 r => ?_
    obtain ⟨sg, hsg, rfl⟩ := List.mem_map.mp r
    obtain ⟨sg1, sg2⟩ := signs_len hsg
    refine w_setL 5 nd (vl_split (t := t) (v_var 1) (v_lit (t := [10]) (by decide +kernel)) (by decide) (by omega)) fun p H6 hp0 e6 hp1 => ?_
    have np := p5.ne hp0
    have p6 := p5.ex e6
    refine w_setP 6 nd p6 (p_draw (often := (linesOf t).length) T hr (by decide) (fun _ _ _ => v_var 0) (fun H7 e7 p7 => VX.is (v_len T.n_len (VX.seq (v_var 5) (exP_sq e7 np.1 (sq_of hp1)))) (by rw [txts_len] <;> rfl)) hpos) fun v H7 H8 e7 e8 p8 r => ?_
    obtain ⟨one, rfl, hone⟩ := r
    have hone : one < (linesOf t).length := hone
    have hl : H8 p = some (.lst (txts (linesOf t))) := e8 _ _ np.1 (e7 _ _ hp1)
    have eH8 : Exq pl.a H H8 := (Exq.of e1).trans (e2.trans (e3.trans ((Exq.of e4).trans (e5.trans ((Exq.of e6).trans ((Exq.of e7).trans e8))))))
    have fin : ∀ t', t'.length ≤ 2 * t.length + 10 → CpOk t' → ∀ H9, Ex H8 H9 → Q (.str (SX.S t')) H9 := fun t' h1 h2 H9 e9 => hQ _ _ (eH8.trans (Exq.of e9)) (p8.ex e9) ⟨t', rfl, h1, h2⟩
    have hcl : ∀ z ∈ linesOf t, CpOk z := hcp.lines
    have htk : (t.take at_).length ≤ t.length := by rw [List.length_take]; omega
    have hto : sumL ((linesOf t).take one) + sumL ((linesOf t).drop one) = sumL (linesOf t) := sumL_td one _
    have hto2 : sumL ((linesOf t).take (one + 1)) + sumL ((linesOf t).drop (one + 1)) = sumL (linesOf t) := sumL_td (one + 1) _
    have hjoin : ∀ ts : List (List Nat), sumL ts ≤ 2 * sumL (linesOf t) → ts.length ≤ 2 * (linesOf t).length → (ts.map (·.length)).sum + ts.length * ([10] : List Nat).length ≤ 16777216 := fun ts h1 h2 => by
      unfold sumL at h1 hsum
      simp only [List.length_cons, List.length_nil]
      omega
    have c10 : CpOk [10] := fun c hc => by
      rw [List.mem_singleton] at hc
      subst hc
      decide
    refine w_when (vt_eq (v_var 2) v_int rfl) (fun _ => w_ret (v_catS (v_catS (v_toS (t := t) (k := at_) (v_var 1) (v_var 3) (by omega)) (v_var 4) (by omega)) (v_fromS (t := t) (k := at_) (v_var 1) (v_var 3) (by omega)) ?_) (fin _ ?_ (((hcp.take _).cat sg2).cat (hcp.drop _)))) fun _ => ?_
    · simp only [List.length_append, List.length_drop]
      omega
    · simp only [List.length_append, List.length_drop, List.length_take]
      omega
    refine w_when (vt_eq (v_var 2) v_int rfl) (fun _ => w_ret (v_catS (v_toS (t := t) (k := at_) (v_var 1) (v_var 3) (by omega)) (v_fromS (t := t) (k := at_ + 1) (v_var 1) (v_add (i := (at_ : Int)) (j := 1) (v_var 3) v_int) (by omega)) ?_) (fin _ ?_ ((hcp.take _).cat (hcp.drop _)))) fun _ => ?_
    · simp only [List.length_drop]
      omega
    · simp only [List.length_append, List.length_drop, List.length_take]
      omega
    refine w_when (vt_eq (v_var 2) v_int rfl) (fun _ => w_ret (v_catS (v_catS (v_toS (t := t) (k := at_) (v_var 1) (v_var 3) (by omega)) (v_var 4) (by omega)) (v_fromS (t := t) (k := at_ + 1) (v_var 1) (v_add (i := (at_ : Int)) (j := 1) (v_var 3) v_int) (by omega)) ?_) (fin _ ?_ (((hcp.take _).cat sg2).cat (hcp.drop _)))) fun _ => ?_
    · simp only [List.length_append, List.length_drop]
      omega
    · simp only [List.length_append, List.length_drop, List.length_take]
      omega
    have hll : (linesOf t).length ≤ t.length + 1 := by omega
    refine w_when (vt_eq (v_var 2) v_int rfl) (fun _ => w_ret (v_join (ts := (linesOf t).take one ++ (linesOf t).drop (one + 1)) (v_lit (t := [10]) (by decide +kernel)) (VL.seq (VL.is (vl_cat (VL.m (vl_to (k := one) (VX.seq (v_var 5) (sq_of hl)) (v_var 6))) (VL.m (vl_from (k := one + 1) (VX.seq (v_var 5) (sq_of hl)) (v_add (i := (one : Int)) (j := 1) (v_var 6) v_int))) ?_) (by rw [txts_take, txts_drop, txts_cat]))) (hjoin _ ?_ ?_)) (fin _ (bent_join ?_ ?_) (c10.join ?_))) fun _ => ?_
    · rw [txts_take, txts_drop, txts_len, txts_len, List.length_take, List.length_drop]
      omega
    · rw [sumL_cat]
      omega
    · rw [List.length_append, List.length_take, List.length_drop]
      omega
    · rw [sumL_cat]
      omega
    · rw [List.length_append, List.length_take, List.length_drop]
      omega
    · intro z hz'
      rcases List.mem_append.mp hz' with h | h
      · exact hcl z (List.mem_of_mem_take h)
      · exact hcl z (List.mem_of_mem_drop h)
    have hmid : sumL (((linesOf t).drop one).take (one + 1 - one)) ≤ sumL ((linesOf t).drop one) := by
      have := sumL_td (one + 1 - one) ((linesOf t).drop one)
      omega
    refine w_when (vt_eq (v_var 2) v_int rfl) (fun _ => w_ret (v_join (ts := ((linesOf t).take one ++ ((linesOf t).drop one).take (one + 1 - one)) ++ (linesOf t).drop one) (v_lit (t := [10]) (by decide +kernel)) (VL.seq (VL.is (vl_cat (VL.m (vl_cat (VL.m (vl_to (k := one) (VX.seq (v_var 5) (sq_of hl)) (v_var 6))) (VL.m (vl_mid (k := one) (l := one + 1) (VX.seq (v_var 5) (sq_of hl)) (v_var 6) (v_add (i := (one : Int)) (j := 1) (v_var 6) v_int) (by rw [txts_len]; omega))) ?_)) (VL.m (vl_from (k := one) (VX.seq (v_var 5) (sq_of hl)) (v_var 6))) ?_) (by rw [txts_take, txts_drop, txts_take, txts_cat, txts_cat]))) (hjoin _ ?_ ?_)) (fin _ (bent_join ?_ ?_) (c10.join ?_))) fun _ => ?_
    · rw [txts_take, txts_drop, txts_take, txts_len, txts_len, List.length_take, List.length_take, List.length_drop]
      omega
    · rw [txts_take, txts_drop, txts_take, txts_cat, txts_len, txts_len, List.length_append, List.length_take, List.length_take, List.length_drop]
      omega
    · rw [sumL_cat, sumL_cat]
      omega
    · rw [List.length_append, List.length_append, List.length_take, List.length_take, List.length_drop]
      omega
    · rw [sumL_cat, sumL_cat]
      omega
    · rw [List.length_append, List.length_append, List.length_take, List.length_take, List.length_drop]
      omega
    · intro z hz'
      rcases List.mem_append.mp hz' with h | h
      · rcases List.mem_append.mp h with h | h
        · exact hcl z (List.mem_of_mem_take h)
        · exact hcl z (List.mem_of_mem_drop (List.mem_of_mem_take h))
      · exact hcl z (List.mem_of_mem_drop h)
    refine w_ret (v_join (ts := (linesOf t).take one ++ ((linesOf t).drop one).reverse) (v_lit (t := [10]) (by decide +kernel)) (VL.seq (VL.is (vl_cat (VL.m (vl_to (k := one) (VX.seq (v_var 5) (sq_of hl)) (v_var 6))) (VL.m (vl_rev (VL.seq (vl_from (k := one) (VX.seq (v_var 5) (sq_of hl)) (v_var 6))))) ?_) (by rw [txts_take, txts_drop, txts_rev, txts_cat]))) (hjoin _ ?_ ?_)) (fin _ (bent_join ?_ ?_) (c10.join ?_))
    · rw [txts_take, txts_drop, txts_rev, txts_len, txts_len, List.length_reverse, List.length_take, List.length_drop]
      omega
    · rw [sumL_cat, sumL_rev]
      omega
    · rw [List.length_append, List.length_reverse, List.length_take, List.length_drop]
      omega
    · rw [sumL_cat, sumL_rev]
      omega
    · rw [List.length_append, List.length_reverse, List.length_take, List.length_drop]
      omega
    · intro z hz'
      rcases List.mem_append.mp hz' with h | h
      · exact hcl z (List.mem_of_mem_take h)
      · exact hcl z (List.mem_of_mem_drop (List.mem_reverse.mp h))
end
end K75
/-! own words, further: written data; lengths of lines -/
namespace K75
open PySem PySem.Spec PyProof.Rows L2 Evl He
section
variable {X : Cx} {a e : Expr} {es : List Expr} {σ : L2.St} {H : Hp} {v : V} {vs xs : List V} {pos : Pos} {d : PyData} {ds : List PyData}
abbrev VDs (X : Cx) (es : List Expr) (σ : L2.St) (H : Hp) (ds : List PyData) : Prop := VAR X es σ H fun vs _ H2 => DpAll X.K H2 vs ds
theorem vd_nil : VDs X [] σ H [] := fun H1 a Q q => va_nil H1 a Q fun H2 e2 => q _ H2 e2 .nil
theorem vd_cons (ha : VD X a σ H d) (hr : VDs X es σ H ds) (hs : starEach (a :: es) X.env = (false, eval a X.env) :: starEach es X.env := by rfl) : VDs X (a :: es) σ H (d :: ds) := fun H1 e1 Q q => var_cons ha hr hs H1 e1 Q fun ws H2 e2 r => by
  obtain ⟨v, vs, H3, rfl, e3, e4, r1, r2⟩ := r
  exact q _ H2 e2 (.cons (dp_ex e4 r1) r2)
theorem vd_disp (h : VDs X es σ H ds) (hz : ds.length ≤ 1000000) : VD X (.List es pos) σ H (.list ds) := fun H1 e1 Q q => vr_disp (R := fun vs _ H2 => DpAll X.K H2 vs ds) h (fun vs H1 H2 r => by
  have : ∀ {vs : List V} {ds : List PyData}, DpAll X.K H2 vs ds → vs.length = ds.length := by
    intro vs
    induction vs with
    | nil =>
      intro ds h
      cases h
      rfl
    | cons v r ih =>
      intro ds h
      cases h with
      | cons _ t => rw [List.length_cons, List.length_cons, ih t]
  rw [this r]
  exact hz) H1 e1 Q fun v H2 e2 r => by
    obtain ⟨p, vs, H3, rfl, h1, h3, e3, r, rfl⟩ := r
    exact q _ _ e2 (.lst (sq_of upd_same) (dpAll_ex (Ex.new h3) r))
theorem VX.dp (h : VX X a σ H v) (hd : ∀ H1, Dp X.K H1 v d) : VD X a σ H d := VR.imp h.rel fun u _ H2 _ _ r => by
  subst r
  exact hd H2
theorem vd_int {i : Int} {j} : VD X (.Constant (.int i) j pos) σ H (.int i) := VX.dp v_int fun _ => .int i
theorem vd_non {j} : VD X (.Constant .none j pos) σ H .none := VX.dp v_non fun _ => .non
theorem vd_lit {n : Str} {t : List Nat} {j} (h : n = SX.S t) : VD X (.Constant (.str n) j pos) σ H (.str (SX.S t)) := VX.dp (v_lit h) fun _ => .str _
theorem VD.is {d2 : PyData} (h : VD X a σ H d) (k : d = d2) : VD X a σ H d2 := by
  subst k
  exact h
theorem VR.rs {r : Rs} (h : VR X a σ H (isRs r)) : VD X a σ H r.data := VR.imp h fun v _ H2 _ _ k => by
  obtain ⟨p, rfl, hp⟩ := k
  exact dp_rs hp
theorem dp_lists {K : PySem.W.Frag} {H : Hp} {α : Type} {g : α → List V} {f : α → List PyData} (hg : ∀ z, DpAll K H (g z) (f z)) : ∀ {rs : List Addr} {zs : List α}, ListsAt g H rs zs → DpAll K H (rs.map V.ref) (zs.map fun z => PyData.list (f z))
  | _, _, .nil => .nil
  | _, _, .cons h t => .cons (.lst (sq_of h) (hg _)) (dp_lists hg t)
end
section
variable {X : Cx} {tg a : Expr} {σ : L2.St} {H : Hp} {D : Ends} {body rest : List Stmt} {pos : Pos}
/-- for x in a list, of which R tells -/
theorem w_forLR {Rx : List V → Hp → Prop} (j : Nat) (I : L2.St → Prop) (ha : VR X a σ H fun v _ H2 => ∃ p xs, v = .ref p ∧ SqL X.K H2 p xs ∧ Rx xs H2) (hgT : PG X tg (gName j)) (h0 : I σ)
    (hs : ∀ xs H2, Ex H H2 → Rx xs H2 → ∀ x, x ∈ xs → ∀ σ' H', I σ' → Ex H2 H' → WS X body { D with nx := fun σ3 H4 => I σ3 ∧ Ex H2 H4, ct := fun σ3 H4 => I σ3 ∧ Ex H2 H4, bk := wSs X rest D } (σ'.set j (some x)) H')
    (hd : ∀ σ' H', I σ' → Ex H H' → WS X rest D σ' H') (hp : PassesOwn (model X.prog X.w) X.A X.env X.xe) (hc : X.calm = true := by rfl) (hfs : ∀ x, foldedSetIterable a X.env x = pure x := by intro _; rfl) : WS X (.For tg a body [] pos :: rest) D σ H :=
  w_cons (ps_for hp hc (pi_list pe_w) hgT ps_w hfs) fun H1 e1 => ha H1 e1 _ fun v H2 e2 r => by
    obtain ⟨p, xs, rfl, hx, hR⟩ := r
    exact ⟨p, rfl, ⟨xs, hx⟩, for_list (D := { D with nx := wSs X rest D }) (fun i σ' H' => I σ' ∧ Ex H2 H') ⟨h0, Ex.refl _⟩ (fun i σ' H' _ h => ex_l h.2 hx) (fun i x σ' H' hi h => (hs xs H2 (e1.trans e2) hR x (List.mem_of_getElem? hi) σ' H' h.1 h.2).here) fun σ' H' h => (hd σ' H' h.1 ((e1.trans e2).trans h.2)).here⟩
end
/-! ### lengths, signs -/
theorem numL_cp (n : Nat) : CpOk (TL.numL n) := fun c hc => by
  have := List.all_eq_true.mp (numL_all n) c hc
  unfold isDig at this
  rw [Bool.and_eq_true, decide_eq_true_eq, decide_eq_true_eq] at this
  omega
theorem c10 : CpOk [10] := fun c hc => by
  rw [List.mem_singleton] at hc
  subst hc
  decide
theorem c32 : CpOk [32] := fun c hc => by
  rw [List.mem_singleton] at hc
  subst hc
  decide
theorem lineT_cp {word ns : List Nat} (h : CpOk word) : CpOk (lineT word ns) := c32.join fun t ht => by
  rcases List.mem_cons.mp ht with e | e
  · subst e
    exact h
  · obtain ⟨n, _, rfl⟩ := List.mem_map.mp e
    exact numL_cp n
theorem lineT_le {word ns : List Nat} (h : ∀ n ∈ ns, n < 1000000) : (lineT word ns).length ≤ word.length + ns.length * 7 + 1 := by
  have h1 := join_le [32] (word :: ns.map TL.numL)
  have h2 : sumL (ns.map TL.numL) ≤ (ns.map TL.numL).length * 6 := sumL_le fun p hp => by
    obtain ⟨n, hn, rfl⟩ := List.mem_map.mp hp
    exact TL.numL_len (by decide) (by have := h n hn; omega)
  rw [List.length_map] at h2
  unfold lineT
  simp only [sumL, List.map_cons, List.sum_cons, List.length_cons, List.length_nil, List.length_map] at h1 h2 ⊢
  omega
theorem wcp {w : List Nat} (h : w.all (fun c => decide (c < 1114112)) = true) : CpOk w := fun c hc => of_decide_eq_true (List.all_eq_true.mp h c hc)
theorem steps_le {ns : List Nat} (h : ∀ n ∈ ns, n < 1000000) (hz : ns.length ≤ 9) : (lineT wSteps ns).length ≤ 2000 ∧ CpOk (lineT wSteps ns) := by
  have := lineT_le (word := wSteps) h
  have e : wSteps.length = 5 := rfl
  exact ⟨by omega, lineT_cp (wcp (by decide))⟩
theorem rowT_le {p : Nat × Nat} (h1 : p.1 < 1000000) (h2 : p.2 < 1000000) : (rowT p).length ≤ 19 ∧ CpOk (rowT p) := by
  have := lineT_le (word := wSize) (ns := [p.1, p.2]) fun n hn => by
    simp only [List.mem_cons, List.not_mem_nil, or_false] at hn
    rcases hn with e | e <;> subst e <;> assumption
  have e : wSize.length = 4 := rfl
  exact ⟨by unfold rowT; simp only [List.length_cons, List.length_nil] at this; omega, lineT_cp (wcp (by decide))⟩
theorem join10_le {ls : List (List Nat)} {k n : Nat} (h : ∀ l ∈ ls, l.length ≤ k ∧ CpOk l) (hn : ls.length ≤ n) : (TL.joinL [10] ls).length ≤ n * k + n ∧ CpOk (TL.joinL [10] ls) := by
  have h1 := join_le [10] ls
  have h2 := sumL_le fun p hp => (h p hp).1
  have h3 := Nat.mul_le_mul_right k hn
  simp only [List.length_cons, List.length_nil] at h1
  exact ⟨by omega, c10.join fun t ht => (h t ht).2⟩
theorem weights_le {rows : List (Nat × Nat)} (h : ∀ p ∈ rows, p.1 < 1000000 ∧ p.2 < 1000000) (hz : rows.length ≤ 31) : (weightsT rows).length ≤ 2000 ∧ CpOk (weightsT rows) := by
  have := join10_le (ls := wWeights :: rows.map rowT) (k := 19) (n := 32) (fun l hl => by
    rcases List.mem_cons.mp hl with e | e
    · subst e
      exact ⟨by decide, wcp (by decide)⟩
    · obtain ⟨p, hp, rfl⟩ := List.mem_map.mp e
      exact rowT_le (h p hp).1 (h p hp).2) (by rw [List.length_cons, List.length_map]; omega)
  exact ⟨by unfold weightsT; omega, this.2⟩
theorem chunks_len : ∀ (f m : Nat) (t : List Nat), (chunks f m t).length ≤ f
  | 0, _, _ => by simp [chunks]
  | f + 1, m, t => by
    by_cases h : t = []
    · subst h
      rw [chunks_nil]
      exact Nat.zero_le _
    · rw [chunks_cons h, List.length_cons]
      have := chunks_len f (2 * m) (t.drop m)
      omega
theorem chunks_sub : ∀ (f m : Nat) (t : List Nat), ∀ c ∈ chunks f m t, c.length ≤ t.length ∧ ∀ n ∈ c, n ∈ t
  | 0, _, _, c, hc => by simp [chunks] at hc
  | f + 1, m, t, c, hc => by
    by_cases h : t = []
    · subst h
      rw [chunks_nil] at hc
      cases hc
    · rw [chunks_cons h] at hc
      rcases List.mem_cons.mp hc with e | e
      · subst e
        exact ⟨by rw [List.length_take]; omega, fun n hn => List.mem_of_mem_take hn⟩
      · obtain ⟨h1, h2⟩ := chunks_sub f (2 * m) (t.drop m) c e
        rw [List.length_drop] at h1
        exact ⟨by omega, fun n hn => List.mem_of_mem_drop (h2 n hn)⟩
theorem tree_le {c : Nat} {told : List Nat} (hc : c < 1000000) (h : ∀ n ∈ told, n < 1000000) (hz : told.length ≤ 7) : (treeT c told).length ≤ 2000 ∧ CpOk (treeT c told) := by
  have := join10_le (ls := lineT wTree [c] :: (chunks 6 1 told).map (lineT wTold)) (k := 54) (n := 7) (fun l hl => by
    rcases List.mem_cons.mp hl with e | e
    · subst e
      have := lineT_le (word := wTree) (ns := [c]) fun n hn => by
        rw [List.mem_singleton] at hn
        subst hn
        exact hc
      have e : wTree.length = 4 := rfl
      simp only [List.length_cons, List.length_nil] at this
      exact ⟨by omega, lineT_cp (wcp (by decide))⟩
    · obtain ⟨p, hp, rfl⟩ := List.mem_map.mp e
      obtain ⟨h1, h2⟩ := chunks_sub 6 1 told p hp
      have := lineT_le (word := wTold) (ns := p) fun n hn => h n (h2 n hn)
      have e : wTold.length = 4 := rfl
      exact ⟨by omega, lineT_cp (wcp (by decide))⟩) (by
        have := chunks_len 6 1 told
        rw [List.length_cons, List.length_map]
        omega)
  exact ⟨by unfold treeT; omega, this.2⟩
end K75
/-! the law's defs: _law_ends_right -/
namespace K75
open PySem PySem.Spec PyProof.Rows L2 Evl He
def tFull : List Nat := treeT 1 (List.replicate 63 0)
def wMore : List Nat := (wTold ++ [32]) ++ TL.joinL [32] (List.replicate 64 [48])
def tMore : List Nat := TL.joinL [10] (linesOf tFull ++ [wMore])
def rowsN (n : Nat) : List (Nat × Nat) := (List.range n).map fun i => (1 + i, 1)
def wNine : List Nat := wSteps ++ [32, 57, 32, 49, 32, 50, 32, 51, 32, 52, 32, 53, 32, 54, 32, 55, 32, 56]
theorem end1 : readTree (linesOf tFull) = .tree 1 (List.replicate 63 0) := by decide +kernel
theorem end2 : readTree (linesOf tMore) = .line (some 7) := by decide +kernel
theorem end3 : readWeights (linesOf (weightsT (rowsN 30))) = .weights (rowsN 30) := by decide +kernel
theorem end4 : readWeights (linesOf (weightsT (rowsN 31))) = .line none := by decide +kernel
theorem end5 : readSteps (linesOf wNine) = .steps [9, 1, 2, 3, 4, 5, 6, 7, 8] := by decide +kernel
theorem end6 : readSteps (linesOf (wNine ++ [32, 57])) = .line none := by decide +kernel
section
variable {X : Cx} {a b : Expr} {σ : L2.St} {H : Hp} {pos p : Pos} {j : Nat}
theorem vt_neRs {r : Rs} (hu : X.A.units + 64 < cLine) (ha : VD X a σ H r.data) (hb : VD X b σ H r.data) : VT X (.Compare a [.NotEq] [b] pos) σ H false := (vt_neD hu ha hb (rs_shaped r) (rs_shaped r)).is (by rw [SeqAt.eqv_refl _ (rs_sh r).1] <;> rfl)
theorem v_eqRs {r : Rs} (hu : X.A.units + 64 < cLine) (ha : VD X a σ H r.data) (hb : VD X b σ H r.data) : VX X (.Compare a [.Eq] [b] pos) σ H (.bl true) := (v_eqD hu ha hb (rs_shaped r) (rs_shaped r)).is (by rw [SeqAt.eqv_refl _ (rs_sh r).1])
/-- _law_heard(kind, text) -/
theorem vd_heard {k : Nat} {l : List Nat} {r : Rs} (T : Tx X.K X.mg) (hr : Room j X.A) (hj : 7 ≤ j) (ha : VX X a σ H (.int ((k : Nat) : Int))) (hb : VX X b σ H (.str (SX.S l))) (hz : l.length ≤ 5000) (hres : readK k (linesOf l) = r) (hg : Gl X "_law_heard" := by rfl)
    (hs : starEach [a, b] X.env = (false, eval a X.env) :: starEach [b] X.env := by rfl) (hs2 : starEach [b] X.env = (false, eval b X.env) :: starEach [] X.env := by rfl) (hpl : (backTo pos (starEach [b] X.env)).any (·.1) = false := by rfl) :
    VD X (.Call (.Name "_law_heard" p) [a, b] [] pos) σ H r.data := by
  subst hres
  exact VR.rs (vr_call (k, Txt0.t l) (c_law_heard (P := X.prog) (w := X.w) (base := X.base) T) hr hj T.g_law_heard (va_cons ha (va_one hb hs2) hs) (fun H1 _ => show l.length ≤ 5000 from hz) (fun v H1 H2 H3 _ r => r) hg (by decide) hs hpl)
/-- .. of what is no text -/
theorem vr_heardO {k : Nat} {v : V} (T : Tx X.K X.mg) (hr : Room j X.A) (hj : 7 ≤ j) (ha : VX X a σ H (.int ((k : Nat) : Int))) (hb : VX X b σ H v) (hv : NonStr X.K v H) (hg : Gl X "_law_heard" := by rfl)
    (hs : starEach [a, b] X.env = (false, eval a X.env) :: starEach [b] X.env := by rfl) (hs2 : starEach [b] X.env = (false, eval b X.env) :: starEach [] X.env := by rfl) (hpl : (backTo pos (starEach [b] X.env)).any (·.1) = false := by rfl) :
    VR X (.Call (.Name "_law_heard" p) [a, b] [] pos) σ H (isRs (.line (some 0))) := by
  have e : resOf (readK k) (.o v) = .line (some 0) := rfl
  rw [← e]
  exact vr_call (k, .o v) (c_law_heard (P := X.prog) (w := X.w) (base := X.base) T) hr hj T.g_law_heard (va_cons ha (va_one hb hs2) hs) (fun H1 e1 => Txt0.ok.ex (a := .o v) e1 hv) (fun v H1 H2 H3 _ r => r) hg (by decide) hs hpl
end
section
variable {P : Program} {w : World} {K : PySem.W.Frag} {mg : Str → Option Value} {base : Heap}
abbrev N_law_ends_right : List Str := ["_law_lines", "_law_more", "_law_rows", "_law_size"]
theorem s_law_ends_right : FnScope N_law_ends_right [] (defScope d_law_ends_right.st) := C8.fnScope_by (by decide +kernel)
abbrev SpEnds : Sp := SpR (fun _ : Unit => []) (fun _ _ => True) (fun _ v _ _ => v = .bl true)
theorem rep_ints (n k : Nat) : (List.replicate n [V.int ((k : Nat) : Int)]).flatten = ints_ (List.replicate n k) := by
  rw [ints_, List.map_replicate]
  induction n with
  | zero => rfl
  | succ n ih => rw [List.replicate_succ, List.replicate_succ, List.flatten_cons, ih] <;> rfl
theorem rep_txts (n : Nat) (t : List Nat) : (List.replicate n [V.str (SX.S t)]).flatten = txts (List.replicate n t) := by
  rw [txts, List.map_replicate]
  induction n with
  | zero => rfl
  | succ n ih => rw [List.replicate_succ, List.replicate_succ, List.flatten_cons, ih] <;> rfl
theorem c_law_ends_right (T : Tx K mg) : CalX P w K mg base CX0 8 d_law_ends_right [] SpEnds := by
  refine CalX.of0 (f_law_ends_right T) b_law_ends_right s_law_ends_right (fun vs H Q E h => ?_) (fun cdv A outer s H vs Q E hr h => ?_)
  · obtain ⟨a, rfl, _⟩ := h
    rfl
  · obtain ⟨_, rfl, _, hQ⟩ := h
    have nd := s_law_ends_right.nd
    refine WS.here (w_setL 0 nd (vl_split (t := tFull) (VR.val (vr_callR (R' := fun v _ _ => v = .str (SX.S tFull)) (c_law_tree_text T) hr (by decide) T.g_law_tree_text
      (var_one (vr_disp (R := fun vs _ H2 => ∃ q, vs = [.int ((1 : Nat) : Int), .ref q] ∧ H2 q = some (.lst (ints_ (List.replicate 63 0)))) (VAR.imp (var_cons (VX.rel (v := .int ((1 : Nat) : Int)) v_int) (var_one (VL.rel (vl_rep (xs := [V.int ((0 : Nat) : Int)]) (k := 63) (VL.m (vl_disp (va_one v_int) (by show 1 ≤ 1000000; decide))) v_int (by decide) (by decide) (by show 1 * 63 ≤ 1000000; decide))))) fun vs H1 H2 r => ?_) fun vs H1 H2 r => ?_)) fun vs H1 H2 e1 e2 r => ?_)) (v_lit (t := [10]) (by decide +kernel)) (by decide) (by decide +kernel)) fun p H1 hp0 e1 hp1 => ?_)
    · obtain ⟨v, vs', H3, rfl, e3, e4, rfl, u, rfl, q, rfl, hq0, hq1⟩ := r
      exact ⟨q, rfl, hq1.trans (by rw [show (63 : Int).toNat = 63 from rfl, rep_ints])⟩
    · obtain ⟨q, rfl, _⟩ := r
      show 2 ≤ 1000000
      decide
    · obtain ⟨v, rfl, p, vs, H3, rfl, h1, h3, e3, ⟨q, rfl, hq⟩, rfl⟩ := r
      exact ⟨(p, 1, q, List.replicate 63 0), rfl, ⟨upd_same, by rw [upd_ne (ne_of_none hq h3)]; exact hq, by show (List.replicate 63 0).length ≤ 63; decide, by show 1 < 1000000; decide, by show ∀ n ∈ List.replicate 63 0, n < 1000000; decide⟩, fun v H4 e r => r⟩
    have hl1 : H1 p = some (.lst (txts (linesOf tFull))) := hp1
    refine w_set 1 nd (v := .str (SX.S tMore)) (v_join (ts := linesOf tFull ++ [wMore]) (v_lit (t := [10]) (by decide +kernel)) (VL.seq (VL.is (vl_cat (xs := txts (linesOf tFull)) (ys := txts [wMore]) (VX.m (v_var 0) hl1) (VL.m (vl_disp (va_one (v_catS (v_lit (t := wTold ++ [32]) (by decide +kernel)) (v_join (ts := List.replicate 64 [48]) (v_lit (t := [32]) (by decide +kernel))
      (VL.seq (VL.is (vl_rep (xs := [V.str (SX.S [48])]) (k := 64) (VL.m (vl_disp (va_one (v_lit (t := [48]) (by decide +kernel))) (by show 1 ≤ 1000000; decide))) v_int (by decide) (by decide) (by show 1 * 64 ≤ 1000000; decide)) (by rw [show (64 : Int).toNat = 64 from rfl, rep_txts]))) (by decide +kernel)) (by decide +kernel))) (by show 1 ≤ 1000000; decide))) (by rw [txts_len, txts_len]; decide +kernel)) (txts_cat _ _))) (by decide +kernel)) ?_
    have hu := hr.units
    refine w_if_never rfl (VW.t (vw_or (vt_neRs (r := .tree 1 (List.replicate 63 0)) hu (vd_heard (k := 1) (l := tFull) T hr (by decide) v_int (VX.is (v_join (ts := linesOf tFull) (v_lit (t := [10]) (by decide +kernel)) (VX.seq (v_var 0) (sq_of hl1)) (by decide +kernel)) (by rw [lines_join])) (by decide +kernel) end1)
      (VD.is (vd_disp (vd_cons (vd_lit (t := wTree) (by decide +kernel)) (vd_cons vd_int (vd_cons (VL.dp (VL.is (vl_rep (xs := [V.int ((0 : Nat) : Int)]) (k := 63) (VL.m (vl_disp (va_one v_int) (by show 1 ≤ 1000000; decide))) v_int (by decide) (by decide) (by show 1 * 63 ≤ 1000000; decide)) (by rw [show (63 : Int).toNat = 63 from rfl, rep_ints])) (dp_ints (List.replicate 63 0))) vd_nil))) (by show 3 ≤ 1000000; decide)) rfl)) fun _ =>
      vw_or1 (vt_neRs (r := .line (some 7)) hu (vd_heard (k := 1) (l := tMore) T hr (by decide) v_int (v_var 1) (by decide +kernel) end2) (VD.is (vd_disp (vd_cons (vd_lit (t := wLine) (by decide +kernel)) (vd_cons vd_int vd_nil)) (by show 2 ≤ 1000000; decide)) rfl)))) ?_
    refine w_setLc 2 nd (lc_map (zs := List.range 31) (f := fun i => V.int ((1 + i : Nat) : Int)) (g' := fun i => V.str (SX.S (rowT (1 + i, 1)))) (j := 3) (own := [("_law_size", 3)])
      (VI.cast (VI.at_ (xs := (List.range 31).map fun i => V.int ((1 + i : Nat) : Int)) (vi_range2 (l := 1) (k := 32) T.n_range v_int v_int (by decide) (by decide)) (by simp) (fun i hi => by rw [List.getElem?_map, List.getElem?_range (by omega)] <;> rfl)) (by simp)) (by simp) (fun _ _ _ _ _ => pg_name (i := 3) nd rfl (Or.inl rfl)) (fun _ => rfl)
      (fun s H0 C cl fp z hz' => ?_)) (blkOk_by (N := N_law_ends_right) (sc := defScope d_law_ends_right.st) (by decide +kernel)) fun q H2 hq0 e2 hq => ?_
    · have hz2 : z < 31 := List.mem_range.mp hz'
      have l1 : (TL.numL (1 + z)).length ≤ 6 := TL.numL_len (by decide) (by omega)
      have l0 : (wSize ++ [32]).length = 5 := rfl
      refine VX.is (v_catS (v_catS (v_lit (t := wSize ++ [32]) (by decide +kernel)) (v_strN T.n_str (v_var 3) (lt1000 (by omega))) (by omega)) (v_lit (t := [32, 49]) (by decide +kernel)) ?_) ?_
      · simp only [List.length_append, List.length_cons, List.length_nil] at l0 ⊢
        omega
      · rw [rowT_eq, show TL.numL 1 = [49] from rfl, List.append_assoc _ [32] [49]] <;> rfl
    have hq2 : H2 q = some (.lst (txts ((rowsN 31).map rowT))) := by
      rw [hq, txts, rowsN, List.map_map, List.map_map] <;> rfl
    refine w_if_never rfl (vt_neRs (r := .weights (rowsN 30)) hu (vd_heard (k := 2) (l := weightsT (rowsN 30)) T hr (by decide) v_int (v_join (ts := wWeights :: (rowsN 30).map rowT) (v_lit (t := [10]) (by decide +kernel)) (VL.seq (VL.is (vl_cat (xs := txts [wWeights]) (VL.m (vl_disp (va_one (v_lit (t := wWeights) (by decide +kernel))) (by show 1 ≤ 1000000; decide))) (VL.m (vl_to (k := 30) (VX.seq (v_var 2) (sq_of hq2)) v_int)) (by rw [txts_take, txts_len, txts_len]; decide +kernel)) (by rw [txts_take]; decide +kernel))) (by decide +kernel)) (by decide +kernel) end3)
      (VD.is (vd_disp (vd_cons (vd_lit (t := wWeights) (by decide +kernel)) (vd_cons (d := PyData.list ((List.range 30).map fun i => PyData.list [PyData.int ((1 + i : Nat) : Int), PyData.int 1])) (VR.imp (vr_lcNew (zs := List.range 30) (f := fun i => V.int ((1 + i : Nat) : Int)) (g := fun i => [V.int ((1 + i : Nat) : Int), V.int 1]) (j := 3) (own := [("_law_size", 3)]) (fun z rs h => ?_) rfl nd
        (VI.cast (VI.at_ (xs := (List.range 30).map fun i => V.int ((1 + i : Nat) : Int)) (vi_range2 (l := 1) (k := 31) T.n_range v_int v_int (by decide) (by decide)) (by simp) (fun i hi => by rw [List.getElem?_map, List.getElem?_range (by omega)] <;> rfl)) (by simp)) (by simp) (blkOk_by (N := N_law_ends_right) (sc := defScope d_law_ends_right.st) (by decide +kernel)) (fun _ _ _ _ _ => pg_name (i := 3) nd rfl (Or.inl rfl)) (fun _ => rfl)
        (fun s H0 C cl fp z hz' => VL.m (vl_disp (va_cons (v_var 3) (va_one v_int)) (by show 2 ≤ 1000000; decide)))) fun v H3 H4 e3 e4 r => ?_) vd_nil)) (by show 2 ≤ 1000000; decide)) ?_)) ?_
    · cases rs with
      | nil => cases h
      | cons a r =>
        injection h with h1
        cases h1
    · obtain ⟨Dl, rs, rfl, h1, h2, h3⟩ := r
      exact .lst (sq_of h2) (dp_lists (f := fun i => [PyData.int ((1 + i : Nat) : Int), PyData.int 1]) (fun z => .cons (.int _) (.cons (.int _) .nil)) h3)
    · show PyData.list [.str (SX.S wWeights), .list ((List.range 30).map fun i => PyData.list [PyData.int ((1 + i : Nat) : Int), PyData.int 1])] = PyData.list [.str (SX.S wWeights), .list ((rowsN 30).map fun r => PyData.list ([r.1, r.2].map fun n => PyData.int ((n : Nat) : Int)))]
      rw [rowsN, List.map_map] <;> rfl
    · refine w_if_never rfl (vt_neRs (r := .line none) hu (vd_heard (k := 2) (l := weightsT (rowsN 31)) T hr (by decide) v_int (v_join (ts := wWeights :: (rowsN 31).map rowT) (v_lit (t := [10]) (by decide +kernel)) (VL.seq (VL.is (vl_cat (xs := txts [wWeights]) (VL.m (vl_disp (va_one (v_lit (t := wWeights) (by decide +kernel))) (by show 1 ≤ 1000000; decide))) (VX.m (v_var 2) hq2) (by rw [txts_len, txts_len]; decide +kernel)) (by rw [txts_cat] <;> rfl))) (by decide +kernel)) (by decide +kernel) end4)
        (VD.is (vd_disp (vd_cons (vd_lit (t := wLine) (by decide +kernel)) (vd_cons vd_non vd_nil)) (by show 2 ≤ 1000000; decide)) rfl)) ?_
      refine w_if_never rfl (vt_neRs (r := .steps [9, 1, 2, 3, 4, 5, 6, 7, 8]) hu (vd_heard (k := 0) (l := wNine) T hr (by decide) v_int (v_lit (t := wNine) (by decide +kernel)) (by decide +kernel) end5)
        (VD.is (vd_disp (vd_cons (vd_lit (t := wSteps) (by decide +kernel)) (vd_cons (vd_disp (vd_cons vd_int (vd_cons vd_int (vd_cons vd_int (vd_cons vd_int (vd_cons vd_int (vd_cons vd_int (vd_cons vd_int (vd_cons vd_int (vd_cons vd_int vd_nil))))))))) (by show 9 ≤ 1000000; decide)) vd_nil)) (by show 2 ≤ 1000000; decide)) rfl)) ?_
      exact w_ret (v_eqRs (r := .line none) hu (vd_heard (k := 0) (l := wNine ++ [32, 57]) T hr (by decide) v_int (v_lit (t := wNine ++ [32, 57]) (by decide +kernel)) (by decide +kernel) (by rw [readK, if_pos rfl]; exact end6))
        (VD.is (vd_disp (vd_cons (vd_lit (t := wLine) (by decide +kernel)) (vd_cons vd_non vd_nil)) (by show 2 ≤ 1000000; decide)) rfl)) fun H3 e3 => hQ _ _ ((e1.trans e2).trans e3) rfl
end
end K75
/-! own words, further: what the law itself needs -/
namespace K75
open PySem PySem.Spec PyProof.Rows L2 Evl He
theorem ex_of_exq {a : Addr} {H H1 H2 : Hp} (h : H a = none) (e : Ex H H1) (e2 : Exq a H1 H2) : Ex H H2 := fun b o hb => e2 b o (fun z => by subst z; rw [h] at hb; cases hb) (e b o hb)
theorem nonstr_non {K : PySem.W.Frag} {H : Hp} : NonStr K .non H := ⟨.type "NoneType", kit_ty (by decide +kernel), fun _ _ => .base .non⟩
theorem nonstr_int {K : PySem.W.Frag} {H : Hp} {i : Int} : NonStr K (.int i) H := ⟨.type "int", kit_ty (by decide +kernel), fun _ _ => .base (.int _)⟩
theorem nonstr_bl {K : PySem.W.Frag} {H : Hp} {b : Bool} : NonStr K (.bl b) H := ⟨.type "bool", kit_ty (by decide +kernel), fun _ _ => .base (.bl _)⟩
theorem nonstr_lst {K : PySem.W.Frag} {H : Hp} {p : Addr} {xs : List V} (h : H p = some (.lst xs)) : NonStr K (.ref p) H := ⟨.type "list", kit_ty (by decide +kernel), fun _ e => .base (.lst (e _ _ h))⟩
theorem NonStr.ex {K : PySem.W.Frag} {H H' : Hp} {v : V} (e : Ex H H') (h : NonStr K v H) : NonStr K v H' := by
  obtain ⟨t, h1, h2⟩ := h
  exact ⟨t, h1, fun H1 e1 => h2 H1 (e.trans e1)⟩
section
variable {X : Cx} {a b e : Expr} {es : List Expr} {σ : L2.St} {H : Hp} {x : Str} {p pos : Pos} {d : Df} {k j : Nat} {z : V} {ds : List PyData}
/-- f() -/
theorem v_call0 (c : CalX X.prog X.w X.K X.mg X.base CX0 k d [] (SpR (fun _ : Unit => []) (fun _ _ => True) fun _ v _ _ => v = z)) (hr : Room j X.A) (hk : k ≤ j) (hm : X.mg x = some (.ref (d.ad X.K))) (hg : Gl X x := by rfl) (hdb : (x == ("__debug__" : Str)) = false := by decide) : VX X (.Call (.Name x p) [] [] pos) σ H z :=
  v_of (pe_c00 c hr hk hm hg hdb) fun H1 e1 Q q => ⟨(), rfl, trivial, fun v H3 e3 r => by
    subst r
    exact q H3 e3⟩
/-- a new list and its data -/
def isNewD (K : PySem.W.Frag) (ds : List PyData) : V → Hp → Hp → Prop := fun v _ H2 => ∃ p xs, v = .ref p ∧ H2 p = some (.lst xs) ∧ DpAll K H2 xs ds
theorem dpAll_len {K : PySem.W.Frag} {H : Hp} : ∀ {vs : List V} {ds : List PyData}, DpAll K H vs ds → vs.length = ds.length
  | _, _, .nil => rfl
  | _, _, .cons _ t => by rw [List.length_cons, List.length_cons, dpAll_len t]
theorem dpAll_cat {K : PySem.W.Frag} {H : Hp} : ∀ {vs ws : List V} {ds fs : List PyData}, DpAll K H vs ds → DpAll K H ws fs → DpAll K H (vs ++ ws) (ds ++ fs)
  | _, _, _, _, .nil, h => h
  | _, _, _, _, .cons d t, h => .cons d (dpAll_cat t h)
theorem dpAll_rep {K : PySem.W.Frag} {H : Hp} {vs : List V} {ds : List PyData} (h : DpAll K H vs ds) : ∀ n : Nat, DpAll K H (List.replicate n vs).flatten (List.replicate n ds).flatten
  | 0 => .nil
  | n + 1 => by
    rw [List.replicate_succ, List.replicate_succ, List.flatten_cons, List.flatten_cons]
    exact dpAll_cat h (dpAll_rep h n)
theorem vm_disp (h : VDs X es σ H ds) (hz : ds.length ≤ 1000000) : VR X (.List es pos) σ H (isNewD X.K ds) := fun H1 e1 Q q => vr_disp (R := fun vs _ H2 => DpAll X.K H2 vs ds) h (fun vs H1 H2 r => by
  rw [dpAll_len r]
  exact hz) H1 e1 Q fun v H2 e2 r => by
    obtain ⟨p, vs, H3, rfl, h1, h3, e3, r, rfl⟩ := r
    exact q _ _ e2 ⟨p, vs, rfl, upd_same, dpAll_ex (Ex.new h3) r⟩
/-- [..] * k -/
theorem vd_rep {k : Int} (ha : VR X a σ H (isNewD X.K ds)) (hb : VX X b σ H (.int k)) (h1 : -(2 ^ 63) ≤ k) (h2 : k < 2 ^ 63) (hz : ds.length * k.toNat ≤ 1000000) : VD X (.BinOp a .Mult b pos) σ H (.list (List.replicate k.toNat ds).flatten) := vr_op op_rep ha hb.rel fun H1 H2 H3 x y e1 e2 e3 r1 r2 Q q => by
  obtain ⟨p, xs, rfl, hp, hd⟩ := r1
  subst r2
  refine ⟨p, k, xs, rfl, rfl, e3 _ _ hp, h1, h2, by rw [sizeLine_eq, dpAll_len hd]; omega, fun n hn => q _ _ (Ex.new hn) ?_⟩
  exact .lst (sq_of upd_same) (dpAll_rep (dpAll_ex (e3.trans (Ex.new hn)) hd) _)
end
/-- what the pool's texts are -/
def BaseT (v : V) : Prop := ∃ t : List Nat, v = .str (SX.S t) ∧ t.length ≤ 2000 ∧ CpOk t
theorem paired_nats {c : Nat} : ∀ {α : Type} {xs : List V} {zs : List α}, Paired (fun x _ => ∃ n : Nat, x = V.int ((n : Nat) : Int) ∧ n ≤ c) xs zs → ∃ ns : List Nat, xs = ints_ ns ∧ ns.length = zs.length ∧ ∀ n ∈ ns, n ≤ c
  | _, _, _, .nil => ⟨[], rfl, rfl, fun _ h => nomatch h⟩
  | _, _, _, .cons h t => by
    obtain ⟨n, rfl, hn⟩ := h
    obtain ⟨ns, rfl, h2, h3⟩ := paired_nats t
    refine ⟨n :: ns, rfl, by rw [List.length_cons, List.length_cons, h2], fun m hm => ?_⟩
    rcases List.mem_cons.mp hm with e | e
    · subst e
      exact hn
    · exact h3 m e
end K75
/-! the law -/
namespace K75
open PySem PySem.Spec PyProof.Rows L2 Evl He
theorem inOrder_le {rows : List (Nat × Nat)} {zs : List Nat} (h : rows.map (·.1) = zs) (hn : zs.Nodup) (hl : zs.length ≤ 4) (h1 : ∀ z ∈ zs, z ≤ 30) (h2 : ∀ p ∈ rows, p.2 ≤ 1000) : (weightsT (inOrder rows)).length ≤ 2000 ∧ CpOk (weightsT (inOrder rows)) := by
  subst h
  refine weights_le (fun p hp => ?_) ?_
  · obtain ⟨s, hs, rfl⟩ := List.mem_map.mp hp
    have hs2 := (srtN_perm _).mem_iff.mp hs
    obtain ⟨q, hq, rfl⟩ := List.mem_map.mp hs2
    have a1 := h1 q.1 hs2
    have a2 := h2 q hq
    have a3 : atK rows q.1 = q.2 := by rw [atK, lookup_mem hn q hq] <;> rfl
    exact ⟨by show q.1 < 1000000; omega, by show atK rows q.1 < 1000000; omega⟩
  · rw [inOrder, rowsOf, List.length_map, (srtN_perm _).length_eq]
    omega
section
variable {P : Program} {w : World} {K : PySem.W.Frag} {mg : Str → Option Value} {base : Heap}
abbrev N_law : List Str := ["_law_script", "_law_k", "_law_pool", "_law_some", "_law_classes", "_law_told", "_law_texts", "_law_kind", "_law_text", "_law_step", "_law_bent_here", "_law_due", "_law_odd", "_law_node"]
theorem s_law : FnScope N_law ["_law_script"] (defScope d_law.st) := C8.fnScope_by (by decide +kernel)
abbrev SpLaw (K : PySem.W.Frag) : Sp := SpR (fun a : Addr × List Int => [.ref a.1]) (fun a H => SqL K H a.1 (a.2.map V.int) ∧ a.2.length ≤ 100000) (fun _ v _ _ => v = .bl true)
theorem c_law (T : Tx K mg) : CalX P w K mg base CX0 9 d_law ["_law_script"] (SpLaw K) := by
  refine CalX.of0 (f_law T) b_law s_law (fun vs H Q E h => ?_) (fun cdv A outer s H vs Q E hr h => ?_)
  · obtain ⟨a, rfl, _⟩ := h
    rfl
  · obtain ⟨⟨a, is⟩, rfl, ⟨ha, hlen⟩, hQ⟩ := h
    have ha : SqL K H a (is.map V.int) := ha
    have hlen : is.length ≤ 100000 := hlen
    have hQ : ∀ v H', Ex H H' → v = .bl true → Q v H' := hQ
    have nd := s_law.nd
    have hu := hr.units
    refine WS.here (w_forR1 (k := max 1 (min is.length 5)) 1 T.n_range (VX.is (v_max2 rfl T.n_max v_int (v_min2 rfl T.n_min (v_len T.n_len (VX.seq (v_var 0) ha)) v_int)) ?_) (by omega) (pg_name (i := 1) nd rfl (Or.inl rfl))
      (fun i σ' H' => ∃ x1 x2 x3 x4 x5 x6 x7 x8 x9 x10 x11 x12 x13 : Option V, σ' = [some (.ref a), x1, x2, x3, x4, x5, x6, x7, x8, x9, x10, x11, x12, x13] ∧ Ex H H')
      (fun H1 e1 => ⟨_, _, _, _, _, _, _, _, _, _, _, _, _, rfl, e1⟩) (fun k σ' H1 hk hP => ?_) (fun σ' H1 hP => ?_) PassesOwn.never)
    · rw [List.length_map]
      congr 1
      split <;> split <;> omega
    · obtain ⟨x1, x2, x3, x4, x5, x6, x7, x8, x9, x10, x11, x12, x13, rfl, eH1⟩ := hP
      have hk : k < max 1 (min is.length 5) := hk
      refine WS.here (w_setR 2 nd (vr_call (a, is, k, 420) (c_law_opened T) hr (by decide) T.g_law_opened (va_cons (v_var 0) (va_cons (v_var 1) (va_one v_int))) (fun H2 e2 => ⟨ex_l (eH1.trans e2) ha, ?_, by show k ≤ 100; omega, by show 420 ≤ 1000; decide⟩) (fun v H2 H3 H4 e r => ?_)) fun v H2 H3 e2 e3 r => ?_)
      · show is = [] ∨ k < is.length
        by_cases h0 : is = []
        · exact .inl h0
        · have := List.length_pos_iff.mpr h0
          exact .inr (by omega)
      · obtain ⟨p, l, js, rfl, h1, h2⟩ := r
        exact ⟨p, l, js, rfl, fresh_back e h1, h2⟩
      · obtain ⟨pa, pl_, pis, rfl, hp0, hp⟩ := r
        have hp0 : H2 pa = none := hp0
        obtain ⟨pl, rfl, rfl, rfl⟩ : ∃ pl : Pl, pl.a = pa ∧ pl.l = pl_ ∧ pl.is = pis := ⟨⟨pa, pl_, pis⟩, rfl, rfl, rfl⟩
        have hp : IsPl pl H3 := hp
        have eH2 := eH1.trans e2
        have hpH : H pl.a = none := fresh_back eH2 hp0
        refine w_setP 3 nd hp (p_call (R' := fun v H1 H2 => ∃ p zs, v = .ref p ∧ H1 p = none ∧ H2 p = some (.lst (ints_ zs)) ∧ zs.Nodup ∧ zs.length ≤ 4 ∧ ∀ z ∈ zs, 1 ≤ z ∧ z ≤ 30) (c_law_sizes T) hr (by decide) T.g_law_sizes (pa_x fun _ _ _ => va_cons (v_var 2) (va_cons v_int (va_one v_int))) fun vs H1 H2 a1 p1 e2 p2 r => ⟨(4, 30), r, ⟨by decide, by decide, by decide⟩, fun v H3 e3 p3 r => ?_⟩) fun v H4 H5 e4 e5 p5 r => ?_
        · obtain ⟨p, zs, rfl, z1, z2, z3, z4, z5⟩ := r
          exact ⟨p, zs, rfl, fresh_backP p2 e2 z1, z2, z3, z4, z5⟩
        · obtain ⟨so, zs, rfl, so0, hso, zsn, zsl, zsa⟩ := r
          have nso := (hp.ex e4).ne so0
          refine w_setP 4 nd p5 (p_add (i := 1) (P' := fun n => 1 ≤ n ∧ n ≤ 3) (fun _ _ _ => v_int) (p_draw (often := 3) T hr (by decide) (fun _ _ _ => v_var 2) (fun _ _ _ => v_int) (by decide)) (fun n hn => ⟨by omega, by omega⟩)) fun v H6 H7 e6 e7 p7 r => ?_
          obtain ⟨c, rfl, hc1, hc2⟩ := r
          refine w_setLcP (S := fun _ v _ => ∃ n : Nat, v = V.int ((n : Nat) : Int) ∧ n ≤ c) (Rz := fun zs => ∃ n : Nat, (n = 3 ∨ n = 7) ∧ zs = List.range n) (j := 13) (own := [("_law_node", 13)]) 5 nd p7
            (vip_range (P := fun n => n = 3 ∨ n = 7) T.n_range (PR.imp (p_pickL (vs := [V.int 3, V.int 7]) T hr (by decide) (fun _ _ _ => v_var 2) (fun _ _ _ => va_cons v_int (va_one v_int)) (by simp) (by show 2 ≤ 1000000; decide)) fun v H1 H2 _ _ _ _ r => ?_) (fun n hn => by omega))
            (fun zs h => ?_) (blkOk_by (N := N_law) (sc := defScope d_law.st) (by decide +kernel)) (fun _ _ _ _ _ => pg_name (i := 13) nd rfl (Or.inl rfl)) (fun _ => rfl) (fun _ _ _ _ _ h => h)
            (fun s H0 C cl fp zs hz z hm => PR.imp (p_draw (often := c + 1) T hr (by decide) (fun _ _ _ => v_var 2) (fun _ _ _ => v_add (i := (c : Int)) (j := 1) (v_var 4) v_int) (by omega)) fun v H1 H2 _ _ _ _ r => ?_) fun to zs' xs H8 to0 e8 p8 hto hz' hpr => ?_
          · simp only [List.mem_cons, List.not_mem_nil, or_false] at r
            rcases r with e | e
            · exact ⟨3, e, .inl rfl⟩
            · exact ⟨7, e, .inr rfl⟩
          · obtain ⟨n, hn, rfl⟩ := h
            rw [List.length_range]
            omega
          · obtain ⟨n, rfl, hn⟩ := r
            have hn : n < c + 1 := hn
            exact ⟨n, rfl, by omega⟩
          · obtain ⟨told, rfl, tl1, tl2⟩ := paired_nats hpr
            have tl3 : told.length ≤ 7 := by
              obtain ⟨n, hn, rfl⟩ := hz'
              rw [tl1, List.length_range]
              omega
            have nto := p7.ne to0
            refine w_setP 6 nd p8 (p_disp (Ra := fun vs _ _ => ∃ t1 t2 : List Nat, vs = txts [t1, t2] ∧ (t1.length ≤ 2000 ∧ CpOk t1) ∧ t2.length ≤ 2000 ∧ CpOk t2) (PAR.imp (p_cons
              (p_callV (R' := fun v _ _ => BaseT v) (c_law_steps_text T) hr (by decide) T.g_law_steps_text (p_cons (pr_x (v := .int ((30 : Nat) : Int)) fun _ _ _ => v_int) (p_one (p_call (R' := fun v H1 H2 => ∃ p zs, v = .ref p ∧ H2 p = some (.lst (ints_ zs)) ∧ zs.length ≤ 8 ∧ ∀ z ∈ zs, z ≤ 30) (c_law_steps T) hr (by decide) T.g_law_steps (pa_x fun _ _ _ => va_cons (v_var 2) (va_one v_int)) fun vs H1 H2 a1 p1 e2 p2 r => ⟨30, r, by show 1 ≤ 30; decide, fun v H3 e3 p3 r => ?_⟩))) fun vs H1 H2 a1 p1 e2 p2 r => ?_)
              (p_one (pr_v fun H1 a1 p1 => vr_callR (R' := fun v _ _ => BaseT v) (c_law_tree_text T) hr (by decide) T.g_law_tree_text (var_one (VL.rel (vl_disp (va_cons (v_var 4) (va_one (v_var 5))) (by show 2 ≤ 1000000; decide)))) fun vs H1' H2 e1 e2 r => ?_))) fun vs H1 H2 a1 p1 e2 p2 r => ?_) fun vs H1 H2 r => ?_) fun v H9 H10 e9 e10 p10 r => ?_
            · obtain ⟨p, zs, rfl, z1, z2, z3, z4⟩ := r
              exact ⟨p, zs, rfl, z2, z3, z4⟩
            · obtain ⟨v, vs', H3, rfl, e3, p3, e4, rfl, u, rfl, p, zs, rfl, h1, h2, h3⟩ := r
              have f : ∀ n ∈ 30 :: zs, n < 1000000 := fun n hn => by
                rcases List.mem_cons.mp hn with e | e
                · subst e
                  decide
                · have := h3 n e
                  omega
              have fl : (30 :: zs).length ≤ 9 := by
                rw [List.length_cons]
                omega
              have fi : Fit (30 :: zs) := ⟨by omega, f⟩
              have sl := steps_le f fl
              exact ⟨(30, p, zs), rfl, ⟨h1, fi⟩, fun v H5 e5 r => ⟨_, r, sl⟩⟩
            · obtain ⟨v, rfl, p, rfl, h1, h2⟩ := r
              have f : ∀ n ∈ told, n < 1000000 := fun n hn => by
                have := tl2 n hn
                omega
              have sl := tree_le (c := c) (by omega) f tl3
              exact ⟨(p, c, to, told), rfl, ⟨h2, (e1.trans e2) _ _ (a1 _ _ nto.1 hto), by show told.length ≤ 63; omega, by show c < 1000000; omega, f⟩, fun v H5 e5 r => ⟨_, r, sl⟩⟩
            · obtain ⟨v, vs', H3, rfl, e3, p3, e4, ⟨t1, rfl, b1⟩, u, rfl, t2, rfl, b2⟩ := r
              exact ⟨t1, t2, rfl, b1, b2⟩
            · obtain ⟨t1, t2, rfl, _⟩ := r
              show 2 ≤ 1000000
              decide
            obtain ⟨tx, _, H9', rfl, tx9, tx9', e9', p9', ⟨t1, t2, rfl, b1, b2⟩, rfl⟩ := r
            have ntx := (p8.ex e9).ne tx9
            have eP8 : Exq pl.a H3 H8 := (Exq.of e4).trans (e5.trans ((Exq.of e6).trans (e7.trans e8)))
            have eP : Exq pl.a H H9' := (Exq.of (eH2.trans e3)).trans (eP8.trans ((Exq.of e9).trans e9'))
            have txH : H tx = none := fresh_backP p9' eP tx9'
            have hso9 : L2.upd H9' tx (.lst (txts [t1, t2])) so = some (.lst (ints_ zs)) := by
              have h1 : H9' so = some (.lst (ints_ zs)) := e9' _ _ nso.1 (e9 _ _ (e8 _ _ nso.1 (e7 _ _ nso.1 (e6 _ _ hso))))
              rw [upd_ne (ne_of_none h1 tx9')]
              exact h1
            refine w_appendP 6 (xs := txts [t1, t2]) (R := fun v _ _ => BaseT v) p10 (p_callV (c_law_weights_text T) hr (by decide) T.g_law_weights_text (p_one (p_call (R' := fun v H1 H2 => ∃ d rows, v = .ref d ∧ IsDict rows d H2 ∧ rows.map (·.1) = zs ∧ ∀ p ∈ rows, p.2 ≤ 1000) (c_law_weights T) hr (by decide) T.g_law_weights (pa_x fun _ _ _ => va_cons (v_var 2) (va_one (v_var 3))) fun vs H1 H2 a1 p1 e2 p2 r =>
              ⟨(so, zs), r, ⟨exP_sq (a1.trans e2) nso.1 (sq_of hso9), nso.1, zsn, by show zs.length ≤ 1000; omega⟩, fun v H3 e3 p3 r => ?_⟩)) fun vs H1 H2 a1 p1 e2 p2 r => ?_) upd_same ntx.1 (by show 2 ≤ 1000000; decide) fun v H11 H12 e11 e12 p12 r => ?_
            · obtain ⟨d, rows, rfl, z1, z2, z3, z4⟩ := r
              exact ⟨d, rows, rfl, z2, z3, z4⟩
            · obtain ⟨v, rfl, d, rows, rfl, z1, z2, z3⟩ := r
              have zl : rows.length = zs.length := by rw [← z2, List.length_map]
              exact ⟨(d, rows), rfl, ⟨z1, by show rows.length ≤ 30; omega, fun p hp => by
                have a1 := (zsa p.1 (by rw [← z2]; exact List.mem_map_of_mem hp)).2
                have a2 := z3 p hp
                exact ⟨by omega, by omega⟩⟩, fun v H5 e5 r => ⟨_, r, inOrder_le z2 zsn zsl (fun z hz => (zsa z hz).2) z3⟩⟩
            obtain ⟨t3, rfl, b3⟩ := r
            have eP12 : Exq pl.a H (L2.upd H12 tx (.lst (txts [t1, t2] ++ [V.str (SX.S t3)]))) := exP_mut ((exP_mut eP txH).trans ((Exq.of e11).trans e12)) txH
            have eH12 := ex_of_exq hpH (Ex.refl H) eP12
            have htx : L2.upd H12 tx (.lst (txts [t1, t2] ++ [V.str (SX.S t3)])) tx = some (.lst (txts [t1, t2, t3])) := upd_same
            have p13 := p12.upd (o := .lst (txts [t1, t2] ++ [V.str (SX.S t3)])) ntx
            generalize L2.upd H12 tx (.lst (txts [t1, t2] ++ [V.str (SX.S t3)])) = H13 at eP12 eH12 htx p13 ⊢
            generalize hts : [t1, t2, t3] = ts at htx
            have tsl : ts.length = 3 := by rw [← hts] <;> rfl
            have tsb : ∀ t ∈ ts, t.length ≤ 2000 ∧ CpOk t := fun t ht => by
              rw [← hts] at ht
              simp only [List.mem_cons, List.not_mem_nil, or_false] at ht
              rcases ht with e | e | e <;> subst e <;> assumption
            refine w_forR1 (k := 3) 7 T.n_range v_int (by decide) (pg_name (i := 7) nd rfl (Or.inl rfl))
              (fun i σ' H' => ∃ x7 x8 x9 x10 x11 x12 x13 : Option V, σ' = [some (.ref a), some (.int ((k : Nat) : Int)), some (.ref pl.a), some (.ref so), some (.int ((c : Nat) : Int)), some (.ref to), some (.ref tx), x7, x8, x9, x10, x11, x12, x13] ∧ Ex H H' ∧ IsPl pl H' ∧ H' tx = some (.lst (txts ts)))
              (fun H14 e14 => ⟨_, _, _, _, _, _, _, rfl, eH12.trans e14, p13.ex e14, e14 _ _ htx⟩) (fun kind σ' H14 hkind hP => ?_) (fun σ' H14 hP => ?_) PassesOwn.never
            · obtain ⟨x7, x8, x9, x10, x11, x12, x13, rfl, eH14, p14, htx14⟩ := hP
              have hkind : kind < 3 := hkind
              obtain ⟨t0, ht0⟩ : ∃ t0, ts[kind]? = some t0 := ⟨_, List.getElem?_eq_getElem (by omega)⟩
              obtain ⟨b01, b02⟩ := tsb t0 (List.mem_of_getElem? ht0)
              have ht0' : (txts ts)[kind]? = some (.str (SX.S t0)) := by rw [txts, List.getElem?_map, ht0] <;> rfl
              refine WS.here (w_set 8 nd (v_ixN (i := kind) (VX.seq (v_var 6) (sq_of htx14)) (v_var 7) ht0') ?_)
              refine w_forR1 (k := 12) 9 T.n_range v_int (by decide) (pg_name (i := 9) nd rfl (Or.inl rfl))
                (fun i σ' H' => ∃ (t : List Nat) (x9 x10 x11 x12 x13 : Option V), σ' = [some (.ref a), some (.int ((k : Nat) : Int)), some (.ref pl.a), some (.ref so), some (.int ((c : Nat) : Int)), some (.ref to), some (.ref tx), some (.int ((kind : Nat) : Int)), some (.str (SX.S t)), x9, x10, x11, x12, x13] ∧ Ex H H' ∧ IsPl pl H' ∧ H' tx = some (.lst (txts ts)) ∧ t.length ≤ 2000 ∧ CpOk t)
                (fun H15 e15 => ⟨t0, _, _, _, _, _, rfl, eH14.trans e15, p14.ex e15, e15 _ _ htx14, b01, b02⟩) (fun step σ' H15 hstep hP => ?_) (fun σ' H15 hP => ?_) PassesOwn.never
              · obtain ⟨t, x9, x10, x11, x12, x13, rfl, eH15, p15, htx15, bt1, bt2⟩ := hP
                refine WS.here (w_setP 10 nd p15 (p_call (R' := fun v _ _ => ∃ t', v = .str (SX.S t') ∧ t'.length ≤ 2 * t.length + 10 ∧ CpOk t') (c_law_bent T) hr (by decide) T.g_law_bent (pa_x fun _ _ _ => va_cons (v_var 2) (va_one (v_var 8))) fun vs H1 H2 a1 p1 e2 p2 r => ⟨t, r, ⟨by show t.length ≤ 100000; omega, bt2⟩, fun v H3 e3 p3 r => r⟩) fun v H16 H17 e16 e17 p17 r => ?_)
                obtain ⟨t', rfl, bq1, bq2⟩ := r
                have eH17 : Ex H H17 := ex_of_exq hpH (eH15.trans e16) e17
                have htx17 : H17 tx = some (.lst (txts ts)) := e17 _ _ ntx.1 (e16 _ _ htx15)
                have hl5 : t'.length ≤ 5000 := by omega
                have hsum : sumL (linesOf t') + (linesOf t').length = t'.length + 1 := spl_sum 10 t'
                have hlines : LinesOk (linesOf t') := ⟨spl_ne 10 t' [], by omega, fun z hz => ⟨by have := sumL_mem hz; omega, bq2.lines z hz⟩⟩
                refine w_setR 11 nd (vr_callR (R' := isRs (readK kind (linesOf t'))) (c_law_reading T) hr (by decide) T.g_law_reading (var_cons (v_var 7).rel (var_one (VL.rel (vl_split (t := t') (v_var 10) (v_lit (t := [10]) (by decide +kernel)) (by decide) (by omega))))) fun vs H1 H2 e1 e2 r => ?_) fun v H18 H19 e18 e19 r => ?_
                · obtain ⟨v, vs', H3, rfl, e3, e4, rfl, u, rfl, q, rfl, hq0, hq1⟩ := r
                  exact ⟨(kind, q, linesOf t'), rfl, ⟨hq1, hlines, by show sumL (linesOf t') ≤ 100000; omega⟩, fun v H3 e r => r⟩
                · obtain ⟨d, rfl, hd⟩ := r
                  have e1719 := e18.trans e19
                  refine w_if_never rfl (vt_neRs (r := readK kind (linesOf t')) hu (vd_heard (k := kind) (l := t') T hr (by decide) (v_var 7) (v_var 10) hl5 rfl) (VR.imp (VX.rel (v := .ref d) (v_var 11)) fun u H1 H2 e1 e2 r => ?_)) ?_
                  · subst r
                    exact dp_rs (hd.ex (e1.trans e2))
                  · refine w_set 8 nd (v := .str (SX.S (if (decide (V.int (((step : Nat) : Int) % 3) = V.int 2) && decide (((t'.length : Nat) : Int) < 300)) = true then t' else t0))) (v_if (VW.t (vw_and (vt_eq (v_mod (v_var 9) v_int (by decide)) v_int rfl) fun _ => vw_and1 (vt_lt (v_lenS T.n_len (v_var 10) (by omega)) v_int))) (fun hb => ?_) fun hb => ?_) (w_nil fun H20 e20 => ⟨_, _, _, _, _, _, rfl, eH17.trans (e1719.trans e20), p17.ex (e1719.trans e20), (e1719.trans e20) _ _ htx17, ?_⟩)
                    · rw [if_pos hb]
                      exact v_var 10
                    · rw [hb, if_neg (by decide)]
                      exact v_ixN (i := kind) (VX.seq (v_var 6) (sq_of (e1719 _ _ htx17))) (v_var 7) ht0'
                    · split
                      · rename_i hb
                        rw [Bool.and_eq_true, decide_eq_true_eq, decide_eq_true_eq] at hb
                        exact ⟨by omega, bq2⟩
                      · exact ⟨b01, b02⟩
              · obtain ⟨t, x9, x10, x11, x12, x13, rfl, eH15, p15, htx15, bt1, bt2⟩ := hP
                exact WS.here (w_nil fun H16 e16 => ⟨_, _, _, _, _, _, _, rfl, eH15.trans e16, p15.ex e16, e16 _ _ htx15⟩)
            · obtain ⟨x7, x8, x9, x10, x11, x12, x13, rfl, eH14, p14, htx14⟩ := hP
              refine WS.here (w_if_never rfl (vt_not (vt_val (v_call0 (c_law_ends_right T) hr (by decide) T.g_law_ends_right))) ?_)
              refine w_forLR (Rx := fun xs H2 => ∀ x ∈ xs, NonStr K x H2) 12 (fun σ' => ∃ x12 x13 : Option V, σ' = [some (.ref a), some (.int ((k : Nat) : Int)), some (.ref pl.a), some (.ref so), some (.int ((c : Nat) : Int)), some (.ref to), some (.ref tx), x7, x8, x9, x10, x11, x12, x13])
                (VR.imp (vr_disp (R := fun vs _ H2 => vs.length ≤ 4 ∧ ∀ x ∈ vs, NonStr K x H2) (VAR.imp (var_cons v_non.rel (var_cons v_int.rel (var_cons (VL.rel (vl_disp (va_one v_str) (by show 1 ≤ 1000000; decide))) (var_one v_bl.rel)))) fun vs H1 H2 r => ?_) fun vs H1 H2 r => ?_) fun v H1 H2 _ _ r => ?_) (pg_name (i := 12) nd rfl (Or.inr rfl)) ⟨_, _, rfl⟩ (fun xs H15 e15 hR x hx σ' H16 hI e16 => ?_) (fun σ' H15 hI e15 => ?_) PassesOwn.never
              · obtain ⟨v1, vs1, G1, rfl, _, g1, rfl, v2, vs2, G2, rfl, _, g2, rfl, v3, vs3, G3, rfl, _, g3, ⟨q, rfl, _, hq⟩, v4, rfl, rfl⟩ := r
                refine ⟨by show 4 ≤ 4; decide, fun x hx => ?_⟩
                simp only [List.mem_cons, List.not_mem_nil, or_false] at hx
                rcases hx with e | e | e | e <;> subst e
                · exact nonstr_non
                · exact nonstr_int
                · exact nonstr_lst (g3 _ _ hq)
                · exact nonstr_bl
              · have := r.1
                omega
              · obtain ⟨p, vs, G1, rfl, _, g0, _, ⟨_, r⟩, rfl⟩ := r
                exact ⟨p, vs, rfl, sq_of upd_same, fun x hx => (r x hx).ex (Ex.new g0)⟩
              · obtain ⟨x12, x13, rfl⟩ := hI
                have hN : NonStr K x H16 := (hR x hx).ex e16
                refine w_if_never (b := false) rfl (VT.is (vt_neD (d1 := .list ((List.range 3).map fun _ => PyData.list [.str (SX.S wLine), .int 0])) (d2 := .list (List.replicate 3 [PyData.list [.str (SX.S wLine), .int 0]]).flatten) hu
                  (VR.imp (vr_lcNew (zs := List.range 3) (f := fun i => V.int ((i : Nat) : Int)) (g := fun _ => [V.str (SX.S wLine), V.int 0]) (j := 7) (own := [("_law_kind", 7)]) (fun z rs h => ?_) rfl nd (VI.rg (vi_range1 (k := 3) T.n_range v_int (by decide))) (by simp) (blkOk_by (N := N_law) (sc := defScope d_law.st) (by decide +kernel)) (fun _ _ _ _ _ => pg_name (i := 7) nd rfl (Or.inl rfl)) (fun _ => rfl)
                    (fun s H0 C cl fp z hz => VR.imp (vr_heardO (k := z) T hr (by decide) (v_var 7) (v_var 12) hN) fun v H1 H2 _ _ r => ?_)) fun v H1 H2 _ _ r => ?_)
                  (vd_rep (k := 3) (vm_disp (vd_cons (vd_disp (vd_cons (vd_lit (t := wLine) (by decide +kernel)) (vd_cons vd_int vd_nil)) (by show 2 ≤ 1000000; decide)) vd_nil) (by show 1 ≤ 1000000; decide)) v_int (by decide) (by decide) (by show 1 * 3 ≤ 1000000; decide)) ?_ ?_) ?_) (w_nil fun H17 e17 => ⟨⟨_, _, rfl⟩, e16.trans e17⟩)
                · cases rs with
                  | nil => cases h
                  | cons a r =>
                    injection h with h1
                    cases h1
                · obtain ⟨p, rfl, hp⟩ := r
                  exact ⟨p, rfl, hp⟩
                · obtain ⟨Dl, rs, rfl, h1, h2, h3⟩ := r
                  exact .lst (sq_of h2) (dp_lists (f := fun _ => [.str (SX.S wLine), .int 0]) (fun z => .cons (.str _) (.cons (.int _) .nil)) h3)
                · decide +kernel
                · decide +kernel
                · decide +kernel
              · obtain ⟨x12, x13, rfl⟩ := hI
                exact w_nil fun H16 e16 => ⟨_, _, _, _, _, _, _, _, _, _, _, _, _, rfl, eH14.trans (e15.trans e16)⟩
    · obtain ⟨x1, x2, x3, x4, x5, x6, x7, x8, x9, x10, x11, x12, x13, rfl, eH1⟩ := hP
      exact WS.here (w_ret v_bl fun H2 e2 => hQ _ _ (eH1.trans e2) rfl)
end
end K75
namespace K75
open PySem PySem.Spec PyProof.Rows L2
theorem fun_one {K : PySem.W.Frag} {n q : Str} {st : Stmt} {f : Addr} {fd fd' : FuncData} (F : Fun K n q st f fd) (F' : Fun K n q st f fd') : fd = fd' := by
  obtain ⟨oc, od, kV, doc, pm, an, cdv, ct, osl, rfl, lk, _⟩ := F.ex
  obtain ⟨oc', od', kV', doc', pm', an', cdv', ct', osl', rfl, lk', _⟩ := F'.ex
  rw [lk] at lk'
  injection lk' with e
  injection e with _ _ e
  injection e
theorem facts {P : Program} {w : World} {K : PySem.W.Frag} {mg : Str → Option Value} (T : Tx K mg) : ∃ fd : FuncData, (∀ (s : Shared) (v : Value), BindsTo s fd ⟨[v], []⟩ [("_law_script", v)]) ∧ ∀ base : Heap, FnOk P w K mg base CX0 9 (d_law.ad K) fd ["_law_script"] (SpLaw K) := by
  obtain ⟨fd, F⟩ := f_law T
  refine ⟨fd, fun s v => ?_, fun base => ?_⟩
  · obtain ⟨oc, od, kV, doc, pm, an, cdv, ct, osl, rfl, _⟩ := F.ex
    exact .of_eq rfl
  · obtain ⟨fd', F', b, G⟩ := (c_law (P := P) (w := w) (base := base) T).ex
    cases fun_one F F'
    exact G
end K75
open PySem PySem.W PySem.Calls PyProof.Rows
theorem PySem.Challenge.cw_roomtold_k75_whole_texts_bent_holds : PySem.Challenge.rw_roomtold_k75_whole_texts_bent.Holds := by
  w_on; o_law
  refine HandSHeadRun.head_any (r := OpenLaw.row PySem.Challenge.rw_roomtold_k75_whole_texts_bent) (q := PySem.W.view (OpenLaw.row PySem.Challenge.rw_roomtold_k75_whole_texts_bent).prog K75.view) (H := K75.hookM 6) (ob := K75.ob) (M := 6000) (loose := K75.loose) (d := HandSHeadRun.topDef (OpenLaw.row PySem.Challenge.rw_roomtold_k75_whole_texts_bent).prog 67) (kwd := []) K75.ob_eq
    (by kernel_rfl) (fun s => by kernel_rfl) K75.run (by kernel_rfl) (by kernel_rfl) (by kernel_rfl) (by rfl) (by first | assumption | decide +kernel) (by decide +kernel) ⟨rfl, rfl, rfl, rfl, rfl, by decide +kernel⟩ ?hw ?hc
  case hw => w_witness2
  case hc =>
    refine L2.walk_ofE (l := PySem.Challenge.rw_roomtold_k75_whole_texts_bent) (n := 63) (k := 9) (x := "_law_script") (CX := L2.CX0) rfl (by decide) (by kernel_rfl) ⟨rfl, by decide, by decide⟩ ?F (fun _ _ _ _ z => z)
    intro w mg fa h Y G hmg0
    obtain ⟨K, KX, c⟩ := Y
    have T := K75.Tx.of KX G c
    have hmg : mg ("law" : PySem.Str) = some (.ref fa) := by
      have e : (HandSHeadRun.topDef (OpenLaw.row PySem.Challenge.rw_roomtold_k75_whole_texts_bent).prog 67).name = ("law" : PySem.Str) := by kernel_rfl
      rw [← e]
      exact hmg0
    have e := hmg.symm.trans T.g_law
    cases e
    obtain ⟨fd, hb, hF⟩ := K75.facts (P := (PySem.Challenge.rw_roomtold_k75_whole_texts_bent).prog) (w := w) T
    exact ⟨K, fd, K75.SpLaw K, KX, hb, fun H a ns hl _ hS => ⟨(a, ns), rfl, ⟨hS, by show ns.length ≤ 100000; omega⟩, fun v H' _ r => r⟩, fun base _ _ => hF base⟩
