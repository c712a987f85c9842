import PyProof.Rows.All
import Wide.All
import OpenK.AllK
import Wide.FinOn
import HandS.Words
import HandS.Property
import KE.HD3
import HandS.HeadHook1
import HandS.ForMost
import HandS.Deep
import HandS.Flow
import HandS.Style
import HandS.Exc
import KE.SortData
import KE.SortKeyHeap
import KE.KSortKey
import HandS.SortKw
import HandS.ExcValue
import KE.KeyNested
import KE.KDictKeyed
import HandS.TupLen
import HandS.DictTup
import KE.KDictDisplayH
import KE.KDictSum
import KE.KDictList
import KE.KDictOf
import HandS.DictComp
import HandS.More
import HandS.Set
import HandS.SetFor
import HandS.TupSets
import HandS.RepeatKit
import HandS.MapObj
import HandS.HeadEnd
import PySem.Challenge.RW_farword_k93_whole_rows_that_bring_a_wish
set_option Elab.async false
set_option linter.all false
set_option maxRecDepth 100000
namespace Fw
open PySem PySem.Spec PyProof.Rows L2
def top (i : Nat) : Stmt := PySem.Challenge.pw_farword_k93_whole_rows_that_bring_a_wish.main.body.getD i (.Pass ⟨0, 0, 0, 0⟩)
abbrev sF_is_name : Stmt := top 13
abbrev sF_is_lot : Stmt := top 14
abbrev sF_is_lot_of : Stmt := top 15
abbrev sF_are_turned : Stmt := top 16
abbrev sF_require : Stmt := top 17
abbrev sF_require_names : Stmt := top 18
abbrev sF_is_effect : Stmt := top 19
abbrev sF_is_step : Stmt := top 20
abbrev sF_names_of : Stmt := top 21
abbrev sM_Book_init : Stmt := inClass (top 22) 0
abbrev sM_Book_modes : Stmt := inClass (top 22) 2
abbrev sM_Book_commands : Stmt := inClass (top 22) 4
abbrev sM_Book_alarms : Stmt := inClass (top 22) 5
abbrev sM_Book_rows : Stmt := inClass (top 22) 6
abbrev sM_Book_quiet : Stmt := inClass (top 22) 7
abbrev sM_Book_safe : Stmt := inClass (top 22) 8
abbrev sF_is_order : Stmt := top 23
abbrev sF_is_input : Stmt := top 24
abbrev sF_check_inputs : Stmt := top 25
abbrev sM_Step_init : Stmt := inClass (top 27) 0
abbrev sM_Gears_init : Stmt := inClass (top 28) 0
abbrev sF_turned : Stmt := top 29
abbrev sM_Turn_init : Stmt := inClass (top 30) 0
abbrev sM_Turn_effect : Stmt := inClass (top 30) 1
abbrev sM_Turn_halt : Stmt := inClass (top 30) 2
abbrev sM_Turn_begin : Stmt := inClass (top 30) 3
abbrev sM_Turn_command : Stmt := inClass (top 30) 4
abbrev sM_Turn_answer : Stmt := inClass (top 30) 5
abbrev sM_Turn_obey : Stmt := inClass (top 30) 6
abbrev sM_Turn_wait : Stmt := inClass (top 30) 7
abbrev sM_Turn_go_on : Stmt := inClass (top 30) 8
abbrev sM_Turn_step : Stmt := inClass (top 30) 9
abbrev sF_tick_by : Stmt := top 31
abbrev sF_order_of : Stmt := top 32
abbrev sF_ascending : Stmt := top 33
abbrev sF_orders_of : Stmt := top 34
abbrev sF_lots_of : Stmt := top 35
abbrev sF_meets : Stmt := top 38
abbrev sF_all_meet : Stmt := top 39
abbrev sF_coming : Stmt := top 40
abbrev sF_check_orders : Stmt := top 41
abbrev sF_brings : Stmt := top 42
abbrev sF_best_row : Stmt := top 43
abbrev sF_none_paper : Stmt := top 44
abbrev sF_has_part : Stmt := top 45
abbrev sF_check_none : Stmt := top 46
abbrev sF__law_row : Stmt := top 48
abbrev sF__law_numbers : Stmt := top 49
abbrev sF__law_pick : Stmt := top 50
abbrev sF__law_effect : Stmt := top 51
abbrev sF__law_parts : Stmt := top 52
abbrev sF__law_made : Stmt := top 53
abbrev sF__law_turned : Stmt := top 57
abbrev sF__law_after : Stmt := top 58
abbrev sF__law_start : Stmt := top 59
abbrev sF__law_tick : Stmt := top 60
abbrev sF__law_inputs : Stmt := top 61
abbrev sF__law_crowd : Stmt := top 62
abbrev sF__law_comes : Stmt := top 63
abbrev sF__law_meets : Stmt := top 64
abbrev sF__law_brings : Stmt := top 65
abbrev sF__law_some_row : Stmt := top 66
abbrev sF__law_key : Stmt := top 67
abbrev sF_law : Stmt := top 68
end Fw
set_option maxHeartbeats 0
namespace FwH
open PySem PySem.Spec PyProof.Rows L2
open PySem.W (Frag nsIn findIn specialIn takesIn recIn keepIn codeIn SharedT)
section
variable {K : Frag} {h : Heap} {mg : Str → Option Value}
/-- a property of a class, its getter -/
def pAd (K : Frag) (C m : Str) : Addr := match findIn K (.ref (He.ga K C)) m with
  | some (some (.ref p)) => p
  | _ => 0
def gAd (K : Frag) (C m : Str) : Addr := match recIn K (pAd K C m) "property" with
  | some (.ref g :: _) => g
  | _ => 0
def isRec (K : Frag) (C m : Str) : Bool := match recIn K (pAd K C m) "property" with
  | some (.ref _ :: _) => true
  | _ => false
def propB (K : Frag) (p : Str × Str) : Bool := He.eqO (findIn K (.ref (He.ga K p.1)) p.2) (some (some (.ref (pAd K p.1 p.2)))) && (He.eqO (specialIn K (.ref (pAd K p.1 p.2)) "__get__") (some (some (.builtin "property.__get__"))) && (decide (takesIn K (.ref (pAd K p.1 p.2)) = some true) && isRec K p.1 p.2))
theorem prop_ok {C m : Str} (c : propB K (C, m) = true) : PropOf K (He.ga K C) m (pAd K C m) (gAd K C m) := by
  obtain ⟨c1, c2⟩ := He.ba c
  obtain ⟨c2, c3⟩ := He.ba c2
  obtain ⟨c3, c4⟩ := He.ba c3
  refine ⟨He.eqO_ok c1, He.eqO_ok c2, of_decide_eq_true c3, ?_⟩
  unfold isRec at c4
  unfold gAd
  cases e : recIn K (pAd K C m) "property" with
  | none => rw [e] at c4; cases c4
  | some l =>
    rw [e] at c4
    match l, c4 with
    | .ref g :: t, _ => exact ⟨t, rfl⟩
/-- where a def stands -/
inductive Pl where
  | fn (x : Str)
  | me (C m : Str)
  | ge (C m : Str)
def Pl.ad (K : Frag) : Pl → Addr
  | .fn x => He.ga K x
  | .me C m => He.ma K (He.ga K C) m
  | .ge C m => gAd K C m
structure Df where
  pl : Pl
  name : Str
  qual : Str
  st : Stmt
abbrev FnV : Type := Option (Str × Str × Arguments × FuncBody × Scope × Addr × List (Str × Addr) × Value × Addr)
def Df.obs (K : Frag) (d : Df) : FnV := match K.lookup (d.pl.ad K) with
  | some ⟨_, _, .func fd, _⟩ => some (fd.name, fd.qualname, fd.params, fd.body, fd.scope, fd.globals, fd.closure, fd.defaults, fd.builtins)
  | _ => none
def Df.val (d : Df) : FnV := some (d.name, d.qual, defArgs d.st, .stmts (defBody d.st), defScope d.st, mainGlobals, [], .none, builtinsNs)
def Df.ok (K : Frag) (d : Df) : Bool := keepIn K (.ref (d.pl.ad K)) && (match K.lookup (d.pl.ad K) with
  | some ⟨_, _, .func fd, _⟩ => codeIn K fd.code d.qual
  | _ => false)
theorem Df.fun_ {d : Df} (e : d.obs K = d.val) (c : d.ok K = true) : ∃ fd, Fun K d.name d.qual d.st (d.pl.ad K) fd := by
  obtain ⟨k, c2⟩ := He.ba c
  unfold Df.obs at e
  cases q : K.lookup (d.pl.ad K) with
  | none =>
    rw [q] at c2
    cases c2
  | some o =>
    obtain ⟨oc, od, dt, osl⟩ := o
    rw [q] at c2 e
    cases dt with
    | func fd =>
      obtain ⟨n1, n2, n3, n4, n5, n6, n7, n8, n9, n10, n11, n12, n13, n14, n15⟩ := fd
      have e2 : (some (n1, n2, n3, n4, n5, n6, n7, n8, n15) : FnV) = some (d.name, d.qual, defArgs d.st, .stmts (defBody d.st), defScope d.st, mainGlobals, [], .none, builtinsNs) := e
      simp only [Option.some.injEq, Prod.mk.injEq] at e2
      obtain ⟨h1, h2, h3, h4, h5, h6, h7, h8, h9⟩ := e2
      subst h1 h2 h3 h4 h5 h6 h7 h8 h9
      exact ⟨_, ⟨oc, od, n9, n10, n11, n12, n13, n14, osl, rfl, q, c2⟩, k⟩
    | _ => cases c2
abbrev Al : Type := Bool × List FnV
def obsK (fa : List He.Fa) (ps : List (Str × Str)) (cb : List (Str × String)) (fn : List Df) (K : Frag) : Al :=
  ((fa.all fun f => f.ok K) && ((ps.all fun p => propB K p) && ((cb.all fun p => He.eqO (nsIn K mainGlobals p.1) (some (some (.type p.2)))) && fn.all fun d => d.ok K)), fn.map fun d => d.obs K)
def valK (fn : List Df) : Al := (true, fn.map Df.val)
structure Says (fa : List He.Fa) (ps : List (Str × Str)) (cb : List (Str × String)) (fn : List Df) (K : Frag) : Prop where
  fa : ∀ f ∈ fa, f.ok K = true
  ps : ∀ p ∈ ps, PropOf K (He.ga K p.1) p.2 (pAd K p.1 p.2) (gAd K p.1 p.2)
  cb : ∀ p ∈ cb, nsIn K mainGlobals p.1 = some (some (.type p.2))
  fn : ∀ d ∈ fn, ∃ fd, Fun K d.name d.qual d.st (d.pl.ad K) fd
theorem map_at {T U : Type} {f g : T → U} : ∀ {xs : List T}, xs.map f = xs.map g → ∀ x ∈ xs, f x = g x
  | y :: t, e, x, h => by
    rw [List.map_cons, List.map_cons] at e
    injection e with e1 e2
    rcases List.mem_cons.mp h with rfl | z
    · exact e1
    · exact map_at e2 x z
theorem says_of {fa : List He.Fa} {ps : List (Str × Str)} {cb : List (Str × String)} {fn : List Df} (e : obsK fa ps cb fn K = valK fn) : Says fa ps cb fn K := by
  have e1 : ((fa.all fun f => f.ok K) && ((ps.all fun p => propB K p) && ((cb.all fun p => He.eqO (nsIn K mainGlobals p.1) (some (some (.type p.2)))) && fn.all fun d => d.ok K))) = true := congrArg (fun z : Al => z.1) e
  have e2 : (fn.map fun d => d.obs K) = fn.map Df.val := congrArg (fun z : Al => z.2) e
  obtain ⟨c1, c2⟩ := He.ba e1
  obtain ⟨c2, c3⟩ := He.ba c2
  obtain ⟨c3, c4⟩ := He.ba c3
  exact ⟨fun f hf => List.all_eq_true.mp c1 f hf, fun p hp => prop_ok (List.all_eq_true.mp c2 p hp), fun p hp => He.eqO_ok (List.all_eq_true.mp c3 p hp), fun d hd => Df.fun_ (map_at e2 d hd) (List.all_eq_true.mp c4 d hd)⟩
/-- what is reached from the module's names, a level at a time -/
def refsM (o : Obj) : List Addr := match o.data with
  | .dict es _ => es.toList.flatMap fun e => He.refV e.val
  | .func fd => He.refV fd.code
  | .cls cd => [cd.ns]
  | .fields vs => vs.toList.flatMap He.refV
  | _ => []
def lvG (g : Addr → Option Obj) : Nat → List Addr → List Addr
  | 0, as => as
  | n + 1, as => as ++ lvG g n (as.flatMap fun a => match g a with
    | some o => refsM o
    | none => [])
def obsG (n : Nat) (fa : List He.Fa) (ps : List (Str × Str)) (cb : List (Str × String)) (fn : List Df) (g : Addr → Option Obj) : Al := obsK fa ps cb fn (He.frG g (lvG g n [mainGlobals]))
def hook (n : Nat) (fa : List He.Fa) (ps : List (Str × Str)) (cb : List (Str × String)) (fn : List Df) : PySem.W.Hook where
  α := Al
  obs := fun s => obsG n fa ps cb fn s.heap.get?
  val := fun _ => valK fn
  says := fun _ h => ∃ K : Frag, K.In h ∧ Says fa ps cb fn K
  of := fun _ _ e => ⟨_, He.frG_in, says_of e⟩
  keeps := fun _ _ _ ⟨K, hK, c⟩ k => ⟨K, PySem.W.Frag.In.keeps hK k, c⟩
end
end FwH
set_option maxHeartbeats 0
namespace FwH
open PySem PySem.W PySem.Calls PyProof.Rows
abbrev R : OpenRow := OpenLaw.row PySem.Challenge.rw_farword_k93_whole_rows_that_bring_a_wish
abbrev qv : Program := view R.prog [0, 68]
def names : List PySem.Str := (["_wall", "__name__", "FarError", "InvalidBook", "InvalidInput", "TooLarge", "LETTERS", "MODE", "COMMAND", "ALARM", "ROW", "is_name", "is_lot", "is_lot_of", "are_turned", "require", "require_names", "is_effect", "is_step", "names_of", "Book", "is_order", "is_input", "check_inputs", "Step", "Gears", "turned", "Turn", "tick_by", "order_of"] : List PySem.Str) ++ (["ascending", "orders_of", "lots_of", "MOST_CROWDS", "meets", "all_meet", "coming", "check_orders", "brings", "best_row", "none_paper", "has_part", "check_none", "_law_row", "_law_numbers", "_law_pick", "_law_effect", "_law_parts", "_law_made", "_law_due", "_law_first", "_law_told", "_law_turned", "_law_after", "_law_start", "_law_tick", "_law_inputs", "_law_crowd", "_law_comes", "_law_meets"] : List PySem.Str) ++ (["_law_brings", "_law_some_row", "_law_key"] : List PySem.Str)
def fa : List He.Fa := ([.glo "is_name", .glo "is_lot", .glo "is_lot_of", .glo "are_turned", .glo "require", .glo "require_names", .glo "is_effect", .glo "is_step", .glo "names_of", .glo "is_order", .glo "is_input", .glo "check_inputs", .glo "turned", .glo "tick_by", .glo "order_of", .glo "ascending", .glo "orders_of", .glo "lots_of", .glo "meets", .glo "all_meet", .glo "coming", .glo "check_orders", .glo "brings", .glo "best_row", .glo "none_paper", .glo "has_part", .glo "check_none", .glo "_law_row", .glo "_law_numbers", .glo "_law_pick"] : List He.Fa) ++ ([.glo "_law_effect", .glo "_law_parts", .glo "_law_made", .glo "_law_turned", .glo "_law_after", .glo "_law_start", .glo "_law_tick", .glo "_law_inputs", .glo "_law_crowd", .glo "_law_comes", .glo "_law_meets", .glo "_law_brings", .glo "_law_some_row", .glo "_law_key", .glo "law", .glo "Book", .cls "Book", .mkr "Book", .glo "Gears", .cls "Gears", .mkr "Gears", .glo "Step", .cls "Step", .mkr "Step", .glo "Turn", .cls "Turn", .mkr "Turn", .noat "Turn" "gears", .noat "Turn" "mode", .noat "Turn" "lot"] : List He.Fa) ++ ([.noat "Turn" "row", .noat "Turn" "place", .noat "Turn" "left", .noat "Turn" "silence", .noat "Turn" "done", .noat "Turn" "refused", .noat "Turn" "moments", .noat "Gears" "home", .noat "Gears" "patience", .noat "Gears" "turns", .noat "Gears" "effects", .noat "Gears" "responses", .noat "Gears" "series", .noat "Step" "standing", .noat "Step" "done", .noat "Step" "refused", .noat "Step" "moments", .noat "Book" "_holds", .noat "Book" "_barred", .noat "Book" "_parts", .noat "Book" "_quiet", .meth "Turn" "effect", .meth "Turn" "halt", .meth "Turn" "begin", .meth "Turn" "command", .meth "Turn" "answer", .meth "Turn" "obey", .meth "Turn" "wait", .meth "Turn" "go_on", .meth "Turn" "step"] : List He.Fa) ++ ([.free "len", .free "all", .free "any", .free "set", .free "sorted", .free "list", .free "tuple", .free "dict", .free "range", .free "abs", .free "int", .free "min", .free "max", .str "MODE" "mode", .str "COMMAND" "command", .str "ALARM" "alarm", .str "ROW" "row", .str "LETTERS" "abcdefghijklmnopqrstuvwxyz0123456789", .int "MOST_CROWDS" 500] : List He.Fa)
def ps : List (PySem.Str × PySem.Str) := [("Book", "modes"), ("Book", "commands"), ("Book", "alarms"), ("Book", "rows"), ("Book", "quiet"), ("Book", "safe")]
def cb : List (PySem.Str × String) := [("combinations", "itertools.combinations")]
def dfs : List Df := ([⟨.fn "is_name", "is_name", "is_name", Fw.sF_is_name⟩, ⟨.fn "is_lot", "is_lot", "is_lot", Fw.sF_is_lot⟩, ⟨.fn "is_lot_of", "is_lot_of", "is_lot_of", Fw.sF_is_lot_of⟩, ⟨.fn "are_turned", "are_turned", "are_turned", Fw.sF_are_turned⟩, ⟨.fn "require", "require", "require", Fw.sF_require⟩, ⟨.fn "require_names", "require_names", "require_names", Fw.sF_require_names⟩, ⟨.fn "is_effect", "is_effect", "is_effect", Fw.sF_is_effect⟩, ⟨.fn "is_step", "is_step", "is_step", Fw.sF_is_step⟩, ⟨.fn "names_of", "names_of", "names_of", Fw.sF_names_of⟩, ⟨.fn "is_order", "is_order", "is_order", Fw.sF_is_order⟩, ⟨.fn "is_input", "is_input", "is_input", Fw.sF_is_input⟩, ⟨.fn "check_inputs", "check_inputs", "check_inputs", Fw.sF_check_inputs⟩, ⟨.fn "turned", "turned", "turned", Fw.sF_turned⟩, ⟨.fn "tick_by", "tick_by", "tick_by", Fw.sF_tick_by⟩, ⟨.fn "order_of", "order_of", "order_of", Fw.sF_order_of⟩, ⟨.fn "ascending", "ascending", "ascending", Fw.sF_ascending⟩, ⟨.fn "orders_of", "orders_of", "orders_of", Fw.sF_orders_of⟩, ⟨.fn "lots_of", "lots_of", "lots_of", Fw.sF_lots_of⟩, ⟨.fn "meets", "meets", "meets", Fw.sF_meets⟩, ⟨.fn "all_meet", "all_meet", "all_meet", Fw.sF_all_meet⟩, ⟨.fn "coming", "coming", "coming", Fw.sF_coming⟩, ⟨.fn "check_orders", "check_orders", "check_orders", Fw.sF_check_orders⟩, ⟨.fn "brings", "brings", "brings", Fw.sF_brings⟩, ⟨.fn "best_row", "best_row", "best_row", Fw.sF_best_row⟩, ⟨.fn "none_paper", "none_paper", "none_paper", Fw.sF_none_paper⟩, ⟨.fn "has_part", "has_part", "has_part", Fw.sF_has_part⟩, ⟨.fn "check_none", "check_none", "check_none", Fw.sF_check_none⟩, ⟨.fn "_law_row", "_law_row", "_law_row", Fw.sF__law_row⟩, ⟨.fn "_law_numbers", "_law_numbers", "_law_numbers", Fw.sF__law_numbers⟩, ⟨.fn "_law_pick", "_law_pick", "_law_pick", Fw.sF__law_pick⟩] : List Df) ++ ([⟨.fn "_law_effect", "_law_effect", "_law_effect", Fw.sF__law_effect⟩, ⟨.fn "_law_parts", "_law_parts", "_law_parts", Fw.sF__law_parts⟩, ⟨.fn "_law_made", "_law_made", "_law_made", Fw.sF__law_made⟩, ⟨.fn "_law_turned", "_law_turned", "_law_turned", Fw.sF__law_turned⟩, ⟨.fn "_law_after", "_law_after", "_law_after", Fw.sF__law_after⟩, ⟨.fn "_law_start", "_law_start", "_law_start", Fw.sF__law_start⟩, ⟨.fn "_law_tick", "_law_tick", "_law_tick", Fw.sF__law_tick⟩, ⟨.fn "_law_inputs", "_law_inputs", "_law_inputs", Fw.sF__law_inputs⟩, ⟨.fn "_law_crowd", "_law_crowd", "_law_crowd", Fw.sF__law_crowd⟩, ⟨.fn "_law_comes", "_law_comes", "_law_comes", Fw.sF__law_comes⟩, ⟨.fn "_law_meets", "_law_meets", "_law_meets", Fw.sF__law_meets⟩, ⟨.fn "_law_brings", "_law_brings", "_law_brings", Fw.sF__law_brings⟩, ⟨.fn "_law_some_row", "_law_some_row", "_law_some_row", Fw.sF__law_some_row⟩, ⟨.fn "_law_key", "_law_key", "_law_key", Fw.sF__law_key⟩, ⟨.fn "law", "law", "law", Fw.sF_law⟩, ⟨.me "Book" "__init__", "__init__", "Book.__init__", Fw.sM_Book_init⟩, ⟨.ge "Book" "modes", "modes", "Book.modes", Fw.sM_Book_modes⟩, ⟨.ge "Book" "commands", "commands", "Book.commands", Fw.sM_Book_commands⟩, ⟨.ge "Book" "alarms", "alarms", "Book.alarms", Fw.sM_Book_alarms⟩, ⟨.ge "Book" "rows", "rows", "Book.rows", Fw.sM_Book_rows⟩, ⟨.ge "Book" "quiet", "quiet", "Book.quiet", Fw.sM_Book_quiet⟩, ⟨.ge "Book" "safe", "safe", "Book.safe", Fw.sM_Book_safe⟩, ⟨.me "Step" "__init__", "__init__", "Step.__init__", Fw.sM_Step_init⟩, ⟨.me "Gears" "__init__", "__init__", "Gears.__init__", Fw.sM_Gears_init⟩, ⟨.me "Turn" "__init__", "__init__", "Turn.__init__", Fw.sM_Turn_init⟩, ⟨.me "Turn" "effect", "effect", "Turn.effect", Fw.sM_Turn_effect⟩, ⟨.me "Turn" "halt", "halt", "Turn.halt", Fw.sM_Turn_halt⟩, ⟨.me "Turn" "begin", "begin", "Turn.begin", Fw.sM_Turn_begin⟩, ⟨.me "Turn" "command", "command", "Turn.command", Fw.sM_Turn_command⟩, ⟨.me "Turn" "answer", "answer", "Turn.answer", Fw.sM_Turn_answer⟩] : List Df) ++ ([⟨.me "Turn" "obey", "obey", "Turn.obey", Fw.sM_Turn_obey⟩, ⟨.me "Turn" "wait", "wait", "Turn.wait", Fw.sM_Turn_wait⟩, ⟨.me "Turn" "go_on", "go_on", "Turn.go_on", Fw.sM_Turn_go_on⟩, ⟨.me "Turn" "step", "step", "Turn.step", Fw.sM_Turn_step⟩] : List Df)
abbrev hk : PySem.W.Hook := hook 5 fa ps cb dfs
def ob (s : PySem.W.SharedT) : Al := obsG 5 fa ps cb dfs (HeadRun.getT s)
theorem ob_eq (s : PySem.W.SharedT) : ob s = hk.obs s.abs := by
  have e : HeadRun.getT s = s.abs.heap.get? := funext (HeadRun.getT_eq s)
  show obsG 5 fa ps cb dfs (HeadRun.getT s) = obsG 5 fa ps cb dfs s.abs.heap.get?
  rw [e]
theorem run (w : World) : HeadRun.RunEqI R qv hk ob 20000 names w := by
  unfold HeadRun.RunEqI
  kernel_rfl
end FwH
set_option maxHeartbeats 2000000
namespace Fw
open PySem PySem.Spec PyProof.Rows L2

abbrev D := PyData

mutual
inductive Dq (G : Hp) : V → PyData → Prop
  | non : Dq G .non .none
  | bl (b : Bool) : Dq G (.bl b) (.bool b)
  | int (i : Int) : Dq G (.int i) (.int i)
  | str (x : Str) : Dq G (.str x) (.str x)
  | lst {a : Addr} {xs : List V} {ds : List PyData} : G a = some (.lst xs) → DqAll G xs ds → Dq G (.ref a) (.list ds)
  | tup {a : Addr} {xs : List V} {ds : List PyData} : G a = some (.tup xs) → DqAll G xs ds → Dq G (.ref a) (.tuple ds)
inductive DqAll (G : Hp) : List V → List PyData → Prop
  | nil : DqAll G [] []
  | cons {v : V} {vs : List V} {d : PyData} {ds : List PyData} : Dq G v d → DqAll G vs ds → DqAll G (v :: vs) (d :: ds)
end
section
variable {G G' : Hp}
mutual
theorem dp_up (e : Same G G') : ∀ {d : PyData} {v : V}, Dq G v d → Dq G' v d
  | .none, _, h => by cases h; exact .non
  | .bool _, _, h => by cases h; exact .bl _
  | .int _, _, h => by cases h; exact .int _
  | .str _, _, h => by cases h; exact .str _
  | .list _, _, h => by
    cases h with
    | lst h1 h2 => exact .lst (e _ _ h1) (dpa_up e h2)
  | .tuple _, _, h => by
    cases h with
    | tup h1 h2 => exact .tup (e _ _ h1) (dpa_up e h2)
  | .dict _, _, h => by cases h
theorem dpa_up (e : Same G G') : ∀ {ds : List PyData} {vs : List V}, DqAll G vs ds → DqAll G' vs ds
  | [], _, h => by cases h; exact .nil
  | _ :: _, _, h => by
    cases h with
    | cons h1 h2 => exact .cons (dp_up e h1) (dpa_up e h2)
end
mutual
/-- for the layer's own rules -/
theorem dp_of {K : PySem.W.Frag} : ∀ {d : PyData} {v : V}, Dq G v d → Dp K G v d
  | .none, _, h => by cases h; exact .non
  | .bool _, _, h => by cases h; exact .bl _
  | .int _, _, h => by cases h; exact .int _
  | .str _, _, h => by cases h; exact .str _
  | .list _, _, h => by
    cases h with
    | lst h1 h2 => exact .lst (SqL.of h1) (dpa_of h2)
  | .tuple _, _, h => by
    cases h with
    | tup h1 h2 => exact .tup (SqT.of h1) (dpa_of h2)
  | .dict _, _, h => by cases h
theorem dpa_of {K : PySem.W.Frag} : ∀ {ds : List PyData} {vs : List V}, DqAll G vs ds → DpAll K G vs ds
  | [], _, h => by cases h; exact .nil
  | _ :: _, _, h => by
    cases h with
    | cons h1 h2 => exact .cons (dp_of h1) (dpa_of h2)
end
theorem dpa_len : ∀ {ds : List PyData} {vs : List V}, DqAll G vs ds → vs.length = ds.length
  | [], _, h => by cases h; rfl
  | _ :: _, _, h => by
    cases h with
    | cons h1 h2 => rw [List.length_cons, List.length_cons, dpa_len h2]
theorem dpa_get : ∀ {ds : List PyData} {vs : List V} {i : Nat} {d : PyData}, DqAll G vs ds → ds[i]? = some d → ∃ v, vs[i]? = some v ∧ Dq G v d
  | [], _, _, _, _, e => by simp at e
  | _ :: _, _, 0, _, h, e => by
    cases h with
    | cons h1 h2 => simp at e; subst e; exact ⟨_, rfl, h1⟩
  | _ :: _, _, i + 1, _, h, e => by
    cases h with
    | cons h1 h2 =>
      obtain ⟨v, h3, h4⟩ := dpa_get (i := i) h2 (by simpa using e)
      exact ⟨v, by simpa using h3, h4⟩
theorem dpa_back : ∀ {ds : List PyData} {vs : List V} {i : Nat} {v : V}, DqAll G vs ds → vs[i]? = some v → ∃ d, ds[i]? = some d ∧ Dq G v d
  | [], _, _, _, h, e => by cases h; simp at e
  | _ :: _, _, 0, _, h, e => by
    cases h with
    | cons h1 h2 => simp at e; subst e; exact ⟨_, rfl, h1⟩
  | _ :: _, _, i + 1, _, h, e => by
    cases h with
    | cons h1 h2 =>
      obtain ⟨v, h3, h4⟩ := dpa_back (i := i) h2 (by simpa using e)
      exact ⟨v, by simpa using h3, h4⟩
theorem dpa_app : ∀ {ds es : List PyData} {vs us : List V}, DqAll G vs ds → DqAll G us es → DqAll G (vs ++ us) (ds ++ es)
  | [], _, _, _, h, h' => by cases h; exact h'
  | _ :: _, _, _, _, h, h' => by
    cases h with
    | cons h1 h2 => exact .cons h1 (dpa_app h2 h')
theorem dpa_take : ∀ {ds : List PyData} {vs : List V} (n : Nat), DqAll G vs ds → DqAll G (vs.take n) (ds.take n)
  | _, _, 0, _ => by simp; exact .nil
  | [], _, n + 1, h => by cases h; exact .nil
  | _ :: _, _, n + 1, h => by
    cases h with
    | cons h1 h2 => exact .cons h1 (dpa_take n h2)
theorem dpa_drop : ∀ {ds : List PyData} {vs : List V} (n : Nat), DqAll G vs ds → DqAll G (vs.drop n) (ds.drop n)
  | _, _, 0, h => h
  | [], _, n + 1, h => by cases h; exact .nil
  | _ :: _, _, n + 1, h => by
    cases h with
    | cons h1 h2 => exact dpa_drop n h2
theorem dpa_strs : ∀ {xs : List Str} {vs : List V}, DqAll G vs (xs.map PyData.str) → vs = xs.map V.str
  | [], _, h => by cases h; rfl
  | x :: xs, _, h => by
    cases h with
    | cons h1 h2 => cases h1; rw [List.map_cons, dpa_strs h2]
theorem dpa_of_strs : ∀ (xs : List Str), DqAll G (xs.map V.str) (xs.map PyData.str)
  | [] => .nil
  | x :: xs => .cons (.str x) (dpa_of_strs xs)
theorem dpa_ints : ∀ {xs : List Int} {vs : List V}, DqAll G vs (xs.map PyData.int) → vs = xs.map V.int
  | [], _, h => by cases h; rfl
  | x :: xs, _, h => by
    cases h with
    | cons h1 h2 => cases h1; rw [List.map_cons, dpa_ints h2]
theorem dpa_of_ints : ∀ (xs : List Int), DqAll G (xs.map V.int) (xs.map PyData.int)
  | [] => .nil
  | x :: xs => .cons (.int x) (dpa_of_ints xs)
theorem dpa_bls : ∀ {xs : List Bool} {vs : List V}, DqAll G vs (xs.map PyData.bool) → vs = xs.map V.bl
  | [], _, h => by cases h; rfl
  | x :: xs, _, h => by
    cases h with
    | cons h1 h2 => cases h1; rw [List.map_cons, dpa_bls h2]
end

/-- an object's description by the frozen heap -/
structure Rp where
  P : Hp → V → Prop
  up : ∀ {G G' : Hp} {v : V}, Same G G' → P G v → P G' v
inductive Ar where
  | d (d : D)
  | o (R : Rp)
def ArR (G : Hp) (v : V) : Ar → Prop
  | .d d => Dq G v d
  | .o R => R.P G v
theorem ar_up {G G' : Hp} {v : V} (e : Same G G') : ∀ {r : Ar}, ArR G v r → ArR G' v r
  | .d _, h => dp_up e h
  | .o R, h => R.up e h
/-- an owned object, by its address and what stands there -/
structure Op where
  P : Hp → Addr → HO → Prop
  up : ∀ {G G' : Hp} {a : Addr} {o : HO}, Same G G' → P G a o → P G' a o
/-- what is being made or changes: a part of the heap of our own, by the place it is reached from -/
structure Gp where
  P : Hp → Hp → Hp → V → Prop
  up : ∀ {H0 H0' G H G' H' : Hp} {v : V}, (∀ a o, H0 a = none → H a = some o → H' a = some o) → (∀ a o, H a = some o → H0 a = none → H0' a = none) → Same G G' → (∀ a o, G' a = some o → (∃ u, G a = some u) ∨ H a = none) → P H0 G H v → P H0' G' H' v
inductive Sl where
  | no
  | va (r : Ar)
  | ow (O : Op)
  | gp (g : Gp)
def isGp : Sl → Bool
  | .gp _ => true
  | _ => false
def isOw : Sl → Bool
  | .ow _ => true
  | _ => false
def noGp (δ : List Sl) : Bool := δ.all fun s => !isGp s
def noOw (δ : List Sl) : Bool := δ.all fun s => !isOw s
theorem noGp_at {δ : List Sl} {i : Nat} {s : Sl} (h : noGp δ = true) (e : δ[i]? = some s) : isGp s = false := by
  have q := List.all_eq_true.mp h s (List.mem_of_getElem? e)
  simpa using q
theorem noOw_at {δ : List Sl} {i : Nat} {s : Sl} (h : noOw δ = true) (e : δ[i]? = some s) : isOw s = false := by
  have q := List.all_eq_true.mp h s (List.mem_of_getElem? e)
  simpa using q
/-- an owned list of data -/
def oLst (ds : List D) : Op where
  P := fun G _ o => ∃ vs, o = .lst vs ∧ DqAll G vs ds
  up := fun e ⟨vs, h1, h2⟩ => ⟨vs, h1, dpa_up e h2⟩

def SlR (H0 G H : Hp) (o : Option V) : Sl → Prop
  | .no => True
  | .va r => ∃ v, o = some v ∧ ArR G v r
  | .ow O => ∃ a ob, o = some (.ref a) ∧ H a = some ob ∧ G a = none ∧ H0 a = none ∧ O.P G a ob
  | .gp g => ∃ v, o = some v ∧ g.P H0 G H v
structure RE (H0 G H : Hp) (σ : L2.St) (δ : List Sl) : Prop where
  len : δ.length = σ.length
  sl : ∀ (i : Nat) (s : Sl), δ[i]? = some s → ∃ o, σ[i]? = some o ∧ SlR H0 G H o s
  ap : ∀ (i j : Nat) (O O' : Op) (a : Addr), δ[i]? = some (.ow O) → δ[j]? = some (.ow O') → σ[i]? = some (some (.ref a)) → σ[j]? = some (some (.ref a)) → i = j

/-- the heap grows: new frozen things are new -/
structure Gr (G H G' H' : Hp) : Prop where
  h : Same H H'
  g : Same G G'
  s : Same G' H'
  f : ∀ a o, G' a = some o → (∃ u, G a = some u) ∨ H a = none
theorem Gr.refl {G H : Hp} (s : Same G H) : Gr G H G H := ⟨.refl _, .refl _, s, fun a o e => .inl ⟨o, e⟩⟩
theorem Gr.trans {G H G1 H1 G2 H2 : Hp} (a : Gr G H G1 H1) (b : Gr G1 H1 G2 H2) : Gr G H G2 H2 :=
  ⟨a.h.trans b.h, a.g.trans b.g, b.s, fun x o e => by
    rcases b.f x o e with ⟨u, h⟩ | h
    · exact a.f x u h
    · exact .inr (a.h.free h)⟩
theorem Gr.self {G H0 H : Hp} (h : Same H0 H) (s : Same G H) : Gr G H0 G H := ⟨h, .refl _, s, fun a o e => .inl ⟨o, e⟩⟩
theorem Gr.comp0 {G0 H0 G H G' H' : Hp} (a : Gr G0 H0 G H) (b : Gr G H0 G' H') : Gr G0 H0 G' H' :=
  ⟨b.h, a.g.trans b.g, b.s, fun x o e => (b.f x o e).elim (fun ⟨u, h⟩ => a.f x u h) .inr⟩
/-- a new thing, frozen at once -/
theorem Gr.new {G H : Hp} {p : Addr} {o : HO} (s : Same G H) (hp : H p = none) : Gr G H (upd G p o) (upd H p o) := by
  refine ⟨fun b u e => ?_, fun b u e => ?_, fun b u e => ?_, fun b u e => ?_⟩
  · rw [upd_ne (ne_of_none e hp)]; exact e
  · rw [upd_ne (ne_of_none (s _ _ e) hp)]; exact e
  · by_cases q : b = p
    · subst q; rw [upd_same] at e ⊢; exact e
    · rw [upd_ne q] at e ⊢; exact s _ _ e
  · by_cases q : b = p
    · subst q; exact .inr hp
    · rw [upd_ne q] at e; exact .inl ⟨u, e⟩
/-- a new thing, not frozen -/
theorem Gr.own {G H : Hp} {p : Addr} {o : HO} (s : Same G H) (hp : H p = none) : Gr G H G (upd H p o) := by
  refine ⟨fun b u e => ?_, .refl _, fun b u e => ?_, fun b u e => .inl ⟨u, e⟩⟩
  · rw [upd_ne (ne_of_none e hp)]; exact e
  · rw [upd_ne (ne_of_none (s _ _ e) hp)]; exact s _ _ e
/-- a thing above the entry changes that is not frozen -/
theorem Gr.mut {G0 H0 G H : Hp} {p : Addr} {o : HO} (g : Gr G0 H0 G H) (h0 : H0 p = none) (hg : G p = none) : Gr G0 H0 G (upd H p o) := by
  refine ⟨fun b u e => ?_, g.g, fun b u e => ?_, g.f⟩
  · rw [upd_ne (ne_of_none e h0)]; exact g.h _ _ e
  · rw [upd_ne (ne_of_none e hg)]; exact g.s _ _ e
/-- a thing of ours is frozen -/
theorem Gr.freeze {G0 H0 G H : Hp} {p : Addr} {o : HO} (g : Gr G0 H0 G H) (h0 : H0 p = none) (hg : G p = none) (hp : H p = some o) : Gr G0 H0 (upd G p o) H := by
  refine ⟨g.h, fun b u e => ?_, fun b u e => ?_, fun b u e => ?_⟩
  · rw [upd_ne (ne_of_none (g.g _ _ e) hg)]; exact g.g _ _ e
  · by_cases q : b = p
    · subst q; rw [upd_same] at e; rw [hp]; exact e
    · rw [upd_ne q] at e; exact g.s _ _ e
  · by_cases q : b = p
    · subst q; exact .inr h0
    · rw [upd_ne q] at e; exact g.f _ _ e

section
variable {H0 G H G' H' : Hp} {σ : L2.St} {δ : List Sl}
theorem SlR.grow {o : Option V} {s : Sl} (g : Gr G H G' H') (h : SlR H0 G H o s) : SlR H0 G' H' o s := by
  cases s with
  | no => exact h
  | va r => obtain ⟨v, e, h⟩ := h; exact ⟨v, e, ar_up g.g h⟩
  | ow O =>
    obtain ⟨a, ob, e, h1, h2, h3, h4⟩ := h
    refine ⟨a, ob, e, g.h _ _ h1, ?_, h3, O.up g.g h4⟩
    cases q : G' a with
    | none => rfl
    | some u =>
      rcases g.f a u q with ⟨u', z⟩ | z
      · rw [h2] at z; cases z
      · rw [h1] at z; cases z
  | gp p => obtain ⟨v, e, h⟩ := h; exact ⟨v, e, p.up (fun a o _ z => g.h a o z) (fun _ _ _ z => z) g.g g.f h⟩
theorem RE.grow (g : Gr G H G' H') (r : RE H0 G H σ δ) : RE H0 G' H' σ δ :=
  ⟨r.len, fun i s e => let ⟨o, h1, h2⟩ := r.sl i s e; ⟨o, h1, h2.grow g⟩, r.ap⟩
/-- the heap changes where nothing of ours stands -/
theorem RE.grow2 {H0' : Hp} (k : ∀ a o, H0 a = none → H a = some o → H' a = some o) (l : ∀ a o, H a = some o → H0 a = none → H0' a = none) (g : Same G G') (f : ∀ a o, G' a = some o → (∃ u, G a = some u) ∨ H a = none) (r : RE H0 G H σ δ) : RE H0' G' H' σ δ := by
  refine ⟨r.len, fun i s e => ?_, r.ap⟩
  obtain ⟨o, h1, h2⟩ := r.sl i s e
  refine ⟨o, h1, ?_⟩
  cases s with
  | no => exact h2
  | va x => obtain ⟨v, e, h⟩ := h2; exact ⟨v, e, ar_up g h⟩
  | ow O =>
    obtain ⟨a, ob, e, k1, k2, k3, k4⟩ := h2
    refine ⟨a, ob, e, k _ _ k3 k1, ?_, l _ _ k1 k3, O.up g k4⟩
    cases q : G' a with
    | none => rfl
    | some u =>
      rcases f a u q with ⟨u', z⟩ | z
      · rw [k2] at z; cases z
      · rw [k1] at z; cases z
  | gp p => obtain ⟨v, e, h⟩ := h2; exact ⟨v, e, p.up k l g f h⟩
theorem RE.va (r : RE H0 G H σ δ) {i : Nat} {x : Ar} (e : δ[i]? = some (.va x)) : ∃ v, σ[i]? = some (some v) ∧ ArR G v x := by
  obtain ⟨o, h1, v, rfl, h2⟩ := r.sl i _ e
  exact ⟨v, h1, h2⟩
theorem RE.ow (r : RE H0 G H σ δ) {i : Nat} {O : Op} (e : δ[i]? = some (.ow O)) : ∃ a ob, σ[i]? = some (some (.ref a)) ∧ H a = some ob ∧ G a = none ∧ H0 a = none ∧ O.P G a ob := by
  obtain ⟨o, h1, a, ob, rfl, h2⟩ := r.sl i _ e
  exact ⟨a, ob, h1, h2⟩
/-- a slot takes a value -/
theorem RE.set (r : RE H0 G H σ δ) (i : Nat) {v : V} {x : Ar} (h : ArR G v x) : RE H0 G H (σ.set i (some v)) (δ.set i (.va x)) := by
  refine ⟨by simpa using r.len, fun j s e => ?_, fun j k O O' a e1 e2 e3 e4 => ?_⟩
  · by_cases q : i = j
    · subst q
      by_cases hl : i < δ.length
      · rw [List.getElem?_set_self hl] at e; cases e
        exact ⟨some v, List.getElem?_set_self (by rw [← r.len]; exact hl), v, rfl, h⟩
      · rw [List.getElem?_eq_none (by simpa using hl)] at e; cases e
    · rw [List.getElem?_set_ne q] at e ⊢
      exact r.sl j s e
  · by_cases q : i = j
    · subst q
      by_cases hl : i < δ.length
      · rw [List.getElem?_set_self hl] at e1; cases e1
      · rw [List.getElem?_eq_none (by simpa using hl)] at e1; cases e1
    · by_cases q2 : i = k
      · subst q2
        by_cases hl : i < δ.length
        · rw [List.getElem?_set_self hl] at e2; cases e2
        · rw [List.getElem?_eq_none (by simpa using hl)] at e2; cases e2
      · rw [List.getElem?_set_ne q] at e1 e3
        rw [List.getElem?_set_ne q2] at e2 e4
        exact r.ap j k O O' a e1 e2 e3 e4
/-- a slot takes a new owned thing -/
theorem RE.setOw (r : RE H0 G H σ δ) (i : Nat) {a : Addr} {ob : HO} {O : Op} (h1 : H a = some ob) (h2 : G a = none) (h3 : H0 a = none) (h4 : O.P G a ob)
    (ne : ∀ (j : Nat) (O' : Op), j ≠ i → δ[j]? = some (.ow O') → σ[j]? ≠ some (some (.ref a))) : RE H0 G H (σ.set i (some (.ref a))) (δ.set i (.ow O)) := by
  refine ⟨by simpa using r.len, fun j s e => ?_, fun j k O1 O2 b e1 e2 e3 e4 => ?_⟩
  · by_cases q : i = j
    · subst q
      by_cases hl : i < δ.length
      · rw [List.getElem?_set_self hl] at e; cases e
        exact ⟨some (.ref a), List.getElem?_set_self (by rw [← r.len]; exact hl), a, ob, rfl, h1, h2, h3, h4⟩
      · rw [List.getElem?_eq_none (by simpa using hl)] at e; cases e
    · rw [List.getElem?_set_ne q] at e ⊢
      exact r.sl j s e
  · by_cases q : i = j
    · subst q
      by_cases q2 : i = k
      · exact q2
      · rw [List.getElem?_set_ne q2] at e2 e4
        have hl : i < σ.length := by
          rcases Nat.lt_or_ge i σ.length with z | z
          · exact z
          · rw [List.getElem?_eq_none (by simpa using z)] at e3; cases e3
        rw [List.getElem?_set_self hl] at e3
        cases e3
        exact absurd e4 (ne k O2 (Ne.symm q2) e2)
    · by_cases q2 : i = k
      · subst q2
        rw [List.getElem?_set_ne q] at e1 e3
        have hl : i < σ.length := by
          rcases Nat.lt_or_ge i σ.length with z | z
          · exact z
          · rw [List.getElem?_eq_none (by simpa using z)] at e4; cases e4
        rw [List.getElem?_set_self hl] at e4
        cases e4
        exact absurd e3 (ne j O1 (Ne.symm q) e1)
      · rw [List.getElem?_set_ne q] at e1 e3
        rw [List.getElem?_set_ne q2] at e2 e4
        exact r.ap j k O1 O2 b e1 e2 e3 e4
/-- the owned thing of slot i changes -/
theorem RE.mutOw (r : RE H0 G H σ δ) (i : Nat) {a : Addr} {ob : HO} {O O' : Op} (e : δ[i]? = some (.ow O)) (ea : σ[i]? = some (some (.ref a))) (h2 : G a = none) (h3 : H0 a = none) (h4 : O'.P G a ob) (ng : noGp δ = true) :
    RE H0 G (upd H a ob) σ (δ.set i (.ow O')) := by
  have hl : i < δ.length := by
    rcases Nat.lt_or_ge i δ.length with z | z
    · exact z
    · rw [List.getElem?_eq_none z] at e; cases e
  refine ⟨by simpa using r.len, fun j s ej => ?_, fun j k O1 O2 b e1 e2 e3 e4 => ?_⟩
  · by_cases q : i = j
    · subst q
      rw [List.getElem?_set_self hl] at ej; cases ej
      exact ⟨some (.ref a), ea, a, ob, rfl, upd_same, h2, h3, h4⟩
    · rw [List.getElem?_set_ne q] at ej
      obtain ⟨o, h5, h6⟩ := r.sl j s ej
      refine ⟨o, h5, ?_⟩
      cases s with
      | no => exact h6
      | va x => exact h6
      | ow O1 =>
        obtain ⟨b, ob1, rfl, k1, k2, k3, k4⟩ := h6
        refine ⟨b, ob1, rfl, ?_, k2, k3, k4⟩
        rw [upd_ne (fun z => by subst z; exact q (r.ap i j O O1 _ e ej ea h5))]
        exact k1
      | gp p => exact absurd (noGp_at ng ej) (by simp [isGp])
  · have f : ∀ (m : Nat) (O3 : Op), (δ.set i (.ow O'))[m]? = some (.ow O3) → ∃ O4, δ[m]? = some (.ow O4) := fun m O3 z => by
      by_cases q : i = m
      · subst q; exact ⟨O, e⟩
      · rw [List.getElem?_set_ne q] at z; exact ⟨O3, z⟩
    obtain ⟨O4, z1⟩ := f j O1 e1
    obtain ⟨O5, z2⟩ := f k O2 e2
    exact r.ap j k O4 O5 b z1 z2 e3 e4
/-- the owned list of slot i is frozen -/
theorem RE.frz (r : RE H0 G H σ δ) (i : Nat) {a : Addr} {ob : HO} {O : Op} {x : Ar} (e : δ[i]? = some (.ow O)) (ea : σ[i]? = some (some (.ref a))) (ha : H a = some ob) (h2 : G a = none) (hx : ArR (upd G a ob) (.ref a) x) (ng : noGp δ = true) :
    RE H0 (upd G a ob) H σ (δ.set i (.va x)) := by
  have hl : i < δ.length := by
    rcases Nat.lt_or_ge i δ.length with z | z
    · exact z
    · rw [List.getElem?_eq_none z] at e; cases e
  have sg : Same G (upd G a ob) := fun b u q => by rw [upd_ne (ne_of_none q h2)]; exact q
  refine ⟨by simpa using r.len, fun j s ej => ?_, fun j k O1 O2 b e1 e2 e3 e4 => ?_⟩
  · by_cases q : i = j
    · subst q
      rw [List.getElem?_set_self hl] at ej; cases ej
      exact ⟨some (.ref a), ea, .ref a, rfl, hx⟩
    · rw [List.getElem?_set_ne q] at ej
      obtain ⟨o, h5, h6⟩ := r.sl j s ej
      refine ⟨o, h5, ?_⟩
      cases s with
      | no => exact h6
      | va y => obtain ⟨v, e1, e2⟩ := h6; exact ⟨v, e1, ar_up sg e2⟩
      | ow O1 =>
        obtain ⟨b, ob1, rfl, k1, k2, k3, k4⟩ := h6
        refine ⟨b, ob1, rfl, k1, ?_, k3, O1.up sg k4⟩
        rw [upd_ne (fun z => by subst z; exact q (r.ap i j O O1 _ e ej ea h5))]
        exact k2
      | gp p => exact absurd (noGp_at ng ej) (by simp [isGp])
  · have f : ∀ (m : Nat) (O3 : Op), (δ.set i (.va x))[m]? = some (.ow O3) → δ[m]? = some (.ow O3) := fun m O3 z => by
      by_cases q : i = m
      · subst q; rw [List.getElem?_set_self hl] at z; cases z
      · rw [List.getElem?_set_ne q] at z; exact z
    exact r.ap j k O1 O2 b (f j O1 e1) (f k O2 e2) e3 e4
/-- a slot is forgotten -/
theorem RE.drop (r : RE H0 G H σ δ) (i : Nat) : RE H0 G H σ (δ.set i .no) := by
  refine ⟨by simpa using r.len, fun j s ej => ?_, fun j k O1 O2 b e1 e2 e3 e4 => ?_⟩
  · by_cases q : i = j
    · subst q
      by_cases hl : i < δ.length
      · rw [List.getElem?_set_self hl] at ej; cases ej
        exact ⟨σ[i]'(by rw [← r.len]; exact hl), List.getElem?_eq_getElem _, trivial⟩
      · rw [List.getElem?_eq_none (by simpa using hl)] at ej; cases ej
    · rw [List.getElem?_set_ne q] at ej
      exact r.sl j s ej
  · have f : ∀ (m : Nat) (O3 : Op), (δ.set i .no)[m]? = some (.ow O3) → δ[m]? = some (.ow O3) := fun m O3 z => by
      by_cases q : i = m
      · subst q
        by_cases hl : i < δ.length
        · rw [List.getElem?_set_self hl] at z; cases z
        · rw [List.getElem?_eq_none (by simpa using hl)] at z; cases z
      · rw [List.getElem?_set_ne q] at z; exact z
    exact r.ap j k O1 O2 b (f j O1 e1) (f k O2 e2) e3 e4
/-- a slot takes what is ours -/
theorem RE.setGp (r : RE H0 G H σ δ) (i : Nat) {v : V} {p : Gp} (h : p.P H0 G H v) : RE H0 G H (σ.set i (some v)) (δ.set i (.gp p)) := by
  refine ⟨by simpa using r.len, fun j s e => ?_, fun j k O O' a e1 e2 e3 e4 => ?_⟩
  · by_cases q : i = j
    · subst q
      by_cases hl : i < δ.length
      · rw [List.getElem?_set_self hl] at e; cases e
        exact ⟨some v, List.getElem?_set_self (by rw [← r.len]; exact hl), v, rfl, h⟩
      · rw [List.getElem?_eq_none (by simpa using hl)] at e; cases e
    · rw [List.getElem?_set_ne q] at e ⊢
      exact r.sl j s e
  · by_cases q : i = j
    · subst q
      by_cases hl : i < δ.length
      · rw [List.getElem?_set_self hl] at e1; cases e1
      · rw [List.getElem?_eq_none (by simpa using hl)] at e1; cases e1
    · by_cases q2 : i = k
      · subst q2
        by_cases hl : i < δ.length
        · rw [List.getElem?_set_self hl] at e2; cases e2
        · rw [List.getElem?_eq_none (by simpa using hl)] at e2; cases e2
      · rw [List.getElem?_set_ne q] at e1 e3
        rw [List.getElem?_set_ne q2] at e2 e4
        exact r.ap j k O O' a e1 e2 e3 e4
theorem RE.gp (r : RE H0 G H σ δ) {i : Nat} {p : Gp} (e : δ[i]? = some (.gp p)) : ∃ v, σ[i]? = some (some v) ∧ p.P H0 G H v := by
  obtain ⟨o, h1, v, rfl, h2⟩ := r.sl i _ e
  exact ⟨v, h1, h2⟩
/-- what is ours has changed: only values stand beside it -/
theorem RE.jump (r : RE H0 G H σ δ) (i : Nat) {p p' : Gp} {v : V} (e : δ[i]? = some (.gp p)) (ev : σ[i]? = some (some v)) (g : Same G G') (h : p'.P H0 G' H' v) (nw : noOw δ = true) (ng : noGp (δ.set i .no) = true) : RE H0 G' H' σ (δ.set i (.gp p')) := by
  have hl : i < δ.length := by
    rcases Nat.lt_or_ge i δ.length with z | z
    · exact z
    · rw [List.getElem?_eq_none z] at e; cases e
  refine ⟨by simpa using r.len, fun j s ej => ?_, fun j k O O' a e1 e2 e3 e4 => ?_⟩
  · by_cases q : i = j
    · subst q
      rw [List.getElem?_set_self hl] at ej; cases ej
      exact ⟨some v, ev, v, rfl, h⟩
    · rw [List.getElem?_set_ne q] at ej
      obtain ⟨o, h1, h2⟩ := r.sl j s ej
      refine ⟨o, h1, ?_⟩
      cases s with
      | no => exact h2
      | va x => obtain ⟨u, e1, e2⟩ := h2; exact ⟨u, e1, ar_up g e2⟩
      | ow O => exact absurd (noOw_at nw ej) (by simp [isOw])
      | gp p2 => exact absurd (noGp_at ng (i := j) (by rw [List.getElem?_set_ne q]; exact ej)) (by simp [isGp])
  · exfalso
    by_cases q : i = j
    · subst q; rw [List.getElem?_set_self hl] at e1; cases e1
    · rw [List.getElem?_set_ne q] at e1
      exact absurd (noOw_at nw e1) (by simp [isOw])
end
end Fw
set_option maxHeartbeats 2000000
namespace Fw
open PySem PySem.Spec PyProof.Rows L2

structure PD (X : Cx) (e : Expr) (δ : List Sl) (r : Ar) : Prop where
  run : ∀ (pins : List (Addr × Obj)) (s : Shared) (σ : L2.St) (H0 G H : Hp), Inv X pins σ H s → Same G H → RE H0 G H σ δ →
    wpAny (model X.prog X.w) X.A (eval e X.env) (fun u s' => ∃ v H' G', Inv X pins σ H' s' ∧ RelV v u ∧ Gr G H G' H' ∧ ArR G' v r) X.xe s
def tPD (δ : List Sl) (r : Ar) : TE := fun σ H Q => ∃ H0 G, Same G H ∧ RE H0 G H σ δ ∧ ∀ v H' G', Gr G H G' H' → ArR G' v r → Q v H'
structure PTD (X : Cx) (e : Expr) (δ : List Sl) (b : Bool) : Prop where
  run : ∀ (pins : List (Addr × Obj)) (s : Shared) (σ : L2.St) (H0 G H : Hp), Inv X pins σ H s → Same G H → RE H0 G H σ δ →
    wpAny (model X.prog X.w) X.A (isTrue e X.env (eval e X.env)) (fun c s' => ∃ H' G', Inv X pins σ H' s' ∧ Gr G H G' H' ∧ c = b) X.xe s
def tTD (δ : List Sl) (b : Bool) : TT := fun σ H Q => ∃ H0 G, Same G H ∧ RE H0 G H σ δ ∧ ∀ H' G', Gr G H G' H' → Q b H'
/-- a test whatever its whole is -/
structure PWD (X : Cx) (e : Expr) (δ : List Sl) (b : Bool) : Prop where
  ex : ∃ t, PW X e t ∧ ∀ (σ : L2.St) (H0 G H : Hp) (Q : Bool → Hp → Prop), Same G H → RE H0 G H σ δ → (∀ H' G', Gr G H G' H' → Q b H') → t σ H Q

inductive ArAll (G : Hp) : List V → List Ar → Prop
  | nil : ArAll G [] []
  | cons {v : V} {vs : List V} {r : Ar} {rs : List Ar} : ArR G v r → ArAll G vs rs → ArAll G (v :: vs) (r :: rs)
theorem ArAll.up {G G' : Hp} (e : Same G G') : ∀ {vs : List V} {rs : List Ar}, ArAll G vs rs → ArAll G' vs rs
  | _, _, .nil => .nil
  | _, _, .cons h t => .cons (ar_up e h) (ArAll.up e t)
theorem ArAll.len {G : Hp} : ∀ {vs : List V} {rs : List Ar}, ArAll G vs rs → vs.length = rs.length
  | _, _, .nil => rfl
  | _, _, .cons _ t => by rw [List.length_cons, List.length_cons, ArAll.len t]
theorem ArAll.get {G : Hp} : ∀ {vs : List V} {rs : List Ar} {i : Nat} {r : Ar}, ArAll G vs rs → rs[i]? = some r → ∃ v, vs[i]? = some v ∧ ArR G v r
  | _, _, _, _, .nil, e => by simp at e
  | _, _, 0, _, .cons h _, e => by simp at e; subst e; exact ⟨_, rfl, h⟩
  | _, _, i + 1, _, .cons _ t, e => by
    obtain ⟨v, h1, h2⟩ := ArAll.get (i := i) t (by simpa using e)
    exact ⟨v, by simpa using h1, h2⟩
/-- written arguments -/
structure PAD (X : Cx) (es : List Expr) (δ : List Sl) (rs : List Ar) : Prop where
  ex : ∃ t, PA X es t ∧ ∀ (σ : L2.St) (H0 G H : Hp) (Q : List V → Hp → Prop), Same G H → RE H0 G H σ δ → (∀ vs H' G', Gr G H G' H' → ArAll G' vs rs → Q vs H') → t σ H Q
/-- written items -/
structure PDs (X : Cx) (es : List Expr) (δ : List Sl) (ds : List D) : Prop where
  ex : ∃ t, PA X es t ∧ ∀ (σ : L2.St) (H0 G H : Hp) (Q : List V → Hp → Prop), Same G H → RE H0 G H σ δ → (∀ vs H' G', Gr G H G' H' → DqAll G' vs ds → Q vs H') → t σ H Q

section
variable {X : Cx} {e a b : Expr} {es : List Expr} {δ : List Sl} {r ra rb : Ar} {pos : Pos}
theorem PD.pe (h : PD X e δ r) : PE X e (tPD δ r) := ⟨fun pins s σ H Q I ⟨H0, G, gs, re, k⟩ =>
  thn (h.run pins s σ H0 G H I gs re) fun u s' ⟨v, H', G', I', rv, g, ar⟩ => ⟨v, H', I', rv, k v H' G' g ar⟩⟩
theorem PD.of {t : TE} (h : PE X e t) (k : ∀ (σ : L2.St) (H0 G H : Hp) (Q : VK), Same G H → RE H0 G H σ δ → (∀ v H' G', Gr G H G' H' → ArR G' v r → Q v H') → t σ H Q) : PD X e δ r :=
  ⟨fun pins s σ H0 G H I gs re => thn (h.run pins s σ H (fun v H' => ∃ G', Gr G H G' H' ∧ ArR G' v r) I (k σ H0 G H _ gs re fun v H' G' g ar => ⟨G', g, ar⟩)) fun u s' ⟨v, H', I', rv, G', g, ar⟩ => ⟨v, H', G', I', rv, g, ar⟩⟩
theorem PTD.pt {c : Bool} (h : PTD X e δ c) : PT X e (tTD δ c) := ⟨fun pins s σ H Q I ⟨H0, G, gs, re, k⟩ =>
  thn (h.run pins s σ H0 G H I gs re) fun u s' ⟨H', G', I', g, e⟩ => by subst e; exact ⟨H', I', k H' G' g⟩⟩
theorem PTD.of {t : TT} {c : Bool} (h : PT X e t) (k : ∀ (σ : L2.St) (H0 G H : Hp) (Q : Bool → Hp → Prop), Same G H → RE H0 G H σ δ → (∀ H' G', Gr G H G' H' → Q c H') → t σ H Q) : PTD X e δ c :=
  ⟨fun pins s σ H0 G H I gs re => thn (h.run pins s σ H (fun d H' => ∃ G', Gr G H G' H' ∧ d = c) I (k σ H0 G H _ gs re fun H' G' g => ⟨G', g, rfl⟩)) fun u s' ⟨H', I', G', g, e⟩ => ⟨H', G', I', g, e⟩⟩
/-- the reading of a part -/
theorem tPD.in {σ : L2.St} {H0 G H : Hp} {Q : VK} (gs : Same G H) (re : RE H0 G H σ δ) (k : ∀ v H' G', Gr G H G' H' → ArR G' v r → Q v H') : tPD δ r σ H Q := ⟨H0, G, gs, re, k⟩
theorem tTD.in {σ : L2.St} {H0 G H : Hp} {c : Bool} {Q : Bool → Hp → Prop} (gs : Same G H) (re : RE H0 G H σ δ) (k : ∀ H' G', Gr G H G' H' → Q c H') : tTD δ c σ H Q := ⟨H0, G, gs, re, k⟩
theorem PD.is {r' : Ar} (h : PD X e δ r) (e' : r = r') : PD X e δ r' := by subst e'; exact h
theorem PTD.is {c c' : Bool} (h : PTD X e δ c) (e' : c = c') : PTD X e δ c' := by subst e'; exact h

theorem pd_var (i : Nat) {x : Str} (hi : δ[i]? = some (.va r) := by rfl) (hN : X.N[i]? = some x := by rfl) (hv : Vis X.env.scope x := by first | exact Or.inl rfl | exact Or.inr (Or.inl rfl) | exact Or.inr (Or.inr rfl))
    (hd : (x == ("__debug__" : Str)) = false := by decide) (hc : (x == ("__classdict__" : Str)) = false := by decide) : PD X (.Name x pos) δ r :=
  .of (pe_var hN hv hd hc) fun σ H0 G H Q gs re k => let ⟨v, h1, h2⟩ := re.va hi; ⟨v, h1, k v H G (.refl gs) h2⟩
theorem pd_int {i : Int} {j : Nat} : PD X (.Constant (.int i) j pos) δ (.d (.int i)) := .of pe_int fun _ _ G H _ gs _ k => k _ H G (.refl gs) (Dq.int i)
theorem pd_str {x : Str} {j : Nat} : PD X (.Constant (.str x) j pos) δ (.d (.str x)) := .of pe_str fun _ _ G H _ gs _ k => k _ H G (.refl gs) (Dq.str x)
theorem pd_bl {c : Bool} {j : Nat} : PD X (.Constant (.bool c) j pos) δ (.d (.bool c)) := .of pe_bl fun _ _ G H _ gs _ k => k _ H G (.refl gs) (Dq.bl c)
theorem pd_non {j : Nat} : PD X (.Constant .none j pos) δ (.d .none) := .of pe_non fun _ _ G H _ gs _ k => k _ H G (.refl gs) Dq.non

theorem pad_nil : PAD X [] δ [] := ⟨_, pa_nil, fun _ _ G H _ gs _ k => k _ H G (.refl gs) .nil⟩
theorem pad_cons {rs : List Ar} (h : PD X e δ r) (t : PAD X es δ rs) (hs : starEach (e :: es) X.env = (false, eval e X.env) :: starEach es X.env := by rfl) : PAD X (e :: es) δ (r :: rs) := by
  obtain ⟨t, ht, kt⟩ := t
  refine ⟨_, pa_cons h.pe ht hs, fun σ H0 G H Q gs re k => ?_⟩
  exact .in gs re fun v H1 G1 g1 a1 => kt σ H0 G1 H1 _ g1.s (re.grow g1) fun vs H2 G2 g2 a2 => k _ H2 G2 (g1.trans g2) (.cons (ar_up g2.g a1) a2)
theorem pds_nil : PDs X [] δ [] := ⟨_, pa_nil, fun _ _ G H _ gs _ k => k _ H G (.refl gs) .nil⟩
theorem pds_cons {d : D} {ds : List D} (h : PD X e δ (.d d)) (t : PDs X es δ ds) (hs : starEach (e :: es) X.env = (false, eval e X.env) :: starEach es X.env := by rfl) : PDs X (e :: es) δ (d :: ds) := by
  obtain ⟨t, ht, kt⟩ := t
  refine ⟨_, pa_cons h.pe ht hs, fun σ H0 G H Q gs re k => ?_⟩
  exact .in gs re fun v H1 G1 g1 a1 => kt σ H0 G1 H1 _ g1.s (re.grow g1) fun vs H2 G2 g2 a2 => k _ H2 G2 (g1.trans g2) (.cons (dp_up g2.g a1) a2)
theorem fits {n : Nat} (h : Nat.ble n 100000 = true) : n ≤ sizeLine := Nat.le_trans (Nat.le_of_ble_eq_true h) (by decide)
theorem dp_newt {G : Hp} {p : Addr} {vs : List V} {ds : List D} (h : DqAll G vs ds) (hp : G p = none) : Dq (upd G p (.tup vs)) (.ref p) (.tuple ds) :=
  .tup upd_same (dpa_up (fun b u e => by rw [upd_ne (ne_of_none e hp)]; exact e) h)
theorem dp_newl {G : Hp} {p : Addr} {vs : List V} {ds : List D} (h : DqAll G vs ds) (hp : G p = none) : Dq (upd G p (.lst vs)) (.ref p) (.list ds) :=
  .lst upd_same (dpa_up (fun b u e => by rw [upd_ne (ne_of_none e hp)]; exact e) h)
theorem pd_tup {ds : List D} {x1 : Nat} (h : PDs X es δ ds) (hl : Nat.ble ds.length 100000 = true := by rfl) : PD X (.Tuple es x1 pos) δ (.d (.tuple ds)) := by
  obtain ⟨t, ht, kt⟩ := h
  refine .of (pe_tup ht) fun σ H0 G H Q gs re k => kt σ H0 G H _ gs re fun vs H1 G1 g1 a1 => ⟨by rw [dpa_len a1]; exact fits hl, fun p hp => ?_⟩
  exact k _ _ _ (g1.trans (.new g1.s hp)) (dp_newt a1 (g1.s.free hp))
theorem pd_lst {ds : List D} (h : PDs X es δ ds) (hl : Nat.ble ds.length 100000 = true := by rfl) : PD X (.List es pos) δ (.d (.list ds)) := by
  obtain ⟨t, ht, kt⟩ := h
  refine .of (pe_lst ht) fun σ H0 G H Q gs re k => kt σ H0 G H _ gs re fun vs H1 G1 g1 a1 => ⟨by rw [dpa_len a1]; exact fits hl, fun p hp => ?_⟩
  exact k _ _ _ (g1.trans (.new g1.s hp)) (dp_newl a1 (g1.s.free hp))
end
end Fw
set_option maxHeartbeats 2000000
namespace Fw
open PySem PySem.Spec PyProof.Rows L2

section
variable {X : Cx} {e a b c : Expr} {es : List Expr} {δ : List Sl} {r ra rb rc : Ar} {pos : Pos}
/-- an operation's reading: from what stands for the two values to what stands for the end -/
def Op2 (r2 : R2) (ra rb r : Ar) : Prop := ∀ (x y : V) (H G : Hp) (Q : VK), Same G H → ArR G x ra → ArR G y rb → (∀ v H' G', Gr G H G' H' → ArR G' v r → Q v H') → r2 x y H Q
theorem pd_op {op : Operator} {r2 : R2} (ho : OpR X (binaryOp op) r2) (k : Op2 r2 ra rb r) (ha : PD X a δ ra) (hb : PD X b δ rb) : PD X (.BinOp a op b pos) δ r :=
  .of (pe_op ho ha.pe hb.pe) fun σ H0 G H Q gs re kk => .in gs re fun x H1 G1 g1 a1 => .in g1.s (re.grow g1) fun y H2 G2 g2 a2 =>
    k x y H2 G2 Q g2.s (ar_up g2.g a1) a2 fun v H3 G3 g3 a3 => kk v H3 G3 ((g1.trans g2).trans g3) a3
theorem pd_cmp {op : CmpOp} {r2 : R2} (ho : OpR X (compareOp op) r2) (k : Op2 r2 ra rb r) (ha : PD X a δ ra) (hb : PD X b δ rb) (hm : behindInMarks op b = false) : PD X (.Compare a [op] [b] pos) δ r :=
  .of (pe_cmpR ho ha.pe hb.pe hm) fun σ H0 G H Q gs re kk => .in gs re fun x H1 G1 g1 a1 => .in g1.s (re.grow g1) fun y H2 G2 g2 a2 =>
    k x y H2 G2 Q g2.s (ar_up g2.g a1) a2 fun v H3 G3 g3 a3 => kk v H3 G3 ((g1.trans g2).trans g3) a3
theorem ptd_cmp {op : CmpOp} {r2 : R2} {q : Bool} (ho : OpR X (compareOp op) r2) (k : Op2 r2 ra rb (.d (.bool q))) (ha : PD X a δ ra) (hb : PD X b δ rb) (hm : behindInMarks op b = false) : PTD X (.Compare a [op] [b] pos) δ q :=
  .of (pt_cmpR ho ha.pe hb.pe hm) fun σ H0 G H Q gs re kk => .in gs re fun x H1 G1 g1 a1 => .in g1.s (re.grow g1) fun y H2 G2 g2 a2 =>
    k x y H2 G2 _ g2.s (ar_up g2.g a1) a2 fun v H3 G3 g3 a3 => by cases a3; exact ⟨q, rfl, kk H3 G3 ((g1.trans g2).trans g3)⟩

theorem o_I {C : Int → Int → Prop} {g : Int → Int → Int} {i j : Int} (hc : C i j) : Op2 (rI C fun i j => .int (g i j)) (.d (.int i)) (.d (.int j)) (.d (.int (g i j))) := fun x y H G Q gs hx hy k => by
  cases hx; cases hy; exact ⟨i, j, rfl, rfl, hc, k _ H G (.refl gs) (Dq.int _)⟩
theorem o_I0 {g : Int → Int → Int} {i j : Int} : Op2 (rI0 fun i j => .int (g i j)) (.d (.int i)) (.d (.int j)) (.d (.int (g i j))) := fun x y H G Q gs hx hy k => by
  cases hx; cases hy; exact ⟨i, j, rfl, rfl, k _ H G (.refl gs) (Dq.int _)⟩
theorem o_B0 {g : Int → Int → Bool} {i j : Int} : Op2 (rI0 fun i j => .bl (g i j)) (.d (.int i)) (.d (.int j)) (.d (.bool (g i j))) := fun x y H G Q gs hx hy k => by
  cases hx; cases hy; exact ⟨i, j, rfl, rfl, k _ H G (.refl gs) (Dq.bl _)⟩
theorem pd_add {i j : Int} (ha : PD X a δ (.d (.int i))) (hb : PD X b δ (.d (.int j))) : PD X (.BinOp a .Add b pos) δ (.d (.int (i + j))) := pd_op op_add o_I0 ha hb
theorem pd_sub {i j : Int} (ha : PD X a δ (.d (.int i))) (hb : PD X b δ (.d (.int j))) : PD X (.BinOp a .Sub b pos) δ (.d (.int (i - j))) := pd_op op_sub o_I0 ha hb
theorem pd_mul {i j : Int} (ha : PD X a δ (.d (.int i))) (hb : PD X b δ (.d (.int j))) (hc : CMul i j) : PD X (.BinOp a .Mult b pos) δ (.d (.int (i * j))) := pd_op op_mul (o_I hc) ha hb
theorem pd_mod {i j : Int} (ha : PD X a δ (.d (.int i))) (hb : PD X b δ (.d (.int j))) (hc : 0 < j) : PD X (.BinOp a .Mod b pos) δ (.d (.int (i % j))) := pd_op op_mod (o_I hc) ha hb
theorem pd_fdiv {i j : Int} (ha : PD X a δ (.d (.int i))) (hb : PD X b δ (.d (.int j))) (hc : CDiv i j) : PD X (.BinOp a .FloorDiv b pos) δ (.d (.int (i / j))) := pd_op op_fdiv (o_I hc) ha hb
theorem pd_pow {i j : Int} (ha : PD X a δ (.d (.int i))) (hb : PD X b δ (.d (.int j))) (hc : CPow i j) : PD X (.BinOp a .Pow b pos) δ (.d (.int (i ^ j.toNat))) := pd_op op_pow (o_I hc) ha hb

theorem pd_lt {i j : Int} (ha : PD X a δ (.d (.int i))) (hb : PD X b δ (.d (.int j))) : PD X (.Compare a [.Lt] [b] pos) δ (.d (.bool (decide (i < j)))) := pd_cmp op_lt o_B0 ha hb (nomark _)
theorem pd_le {i j : Int} (ha : PD X a δ (.d (.int i))) (hb : PD X b δ (.d (.int j))) : PD X (.Compare a [.LtE] [b] pos) δ (.d (.bool (decide (i ≤ j)))) := pd_cmp op_le o_B0 ha hb (nomark _)
theorem pd_gt {i j : Int} (ha : PD X a δ (.d (.int i))) (hb : PD X b δ (.d (.int j))) : PD X (.Compare a [.Gt] [b] pos) δ (.d (.bool (decide (j < i)))) := pd_cmp op_gt o_B0 ha hb (nomark _)
theorem pd_ge {i j : Int} (ha : PD X a δ (.d (.int i))) (hb : PD X b δ (.d (.int j))) : PD X (.Compare a [.GtE] [b] pos) δ (.d (.bool (decide (j ≤ i)))) := pd_cmp op_ge o_B0 ha hb (nomark _)
theorem ptd_lt {i j : Int} (ha : PD X a δ (.d (.int i))) (hb : PD X b δ (.d (.int j))) : PTD X (.Compare a [.Lt] [b] pos) δ (decide (i < j)) := ptd_cmp op_lt o_B0 ha hb (nomark _)
theorem ptd_le {i j : Int} (ha : PD X a δ (.d (.int i))) (hb : PD X b δ (.d (.int j))) : PTD X (.Compare a [.LtE] [b] pos) δ (decide (i ≤ j)) := ptd_cmp op_le o_B0 ha hb (nomark _)
theorem ptd_gt {i j : Int} (ha : PD X a δ (.d (.int i))) (hb : PD X b δ (.d (.int j))) : PTD X (.Compare a [.Gt] [b] pos) δ (decide (j < i)) := ptd_cmp op_gt o_B0 ha hb (nomark _)
theorem ptd_ge {i j : Int} (ha : PD X a δ (.d (.int i))) (hb : PD X b δ (.d (.int j))) : PTD X (.Compare a [.GtE] [b] pos) δ (decide (j ≤ i)) := ptd_cmp op_ge o_B0 ha hb (nomark _)
/-- flat data as values -/
def vOf : D → V
  | .bool c => .bl c
  | .int i => .int i
  | .str x => .str x
  | _ => .non
def flatD : D → Bool
  | .none => true
  | .bool _ => true
  | .int _ => true
  | .str _ => true
  | _ => false
theorem dp_flat {G : Hp} {v : V} {d : D} (f : flatD d = true) (h : Dq G v d) : v = vOf d := by
  cases h <;> first | rfl | cases f
theorem o_eq {d d' : D} (f : flatD d = true) (f' : flatD d' = true) (hs : scal (vOf d) (vOf d') = true) : Op2 rEq (.d d) (.d d') (.d (.bool (decide (vOf d = vOf d')))) := fun x y H G Q gs hx hy k => by
  obtain rfl := dp_flat f hx
  obtain rfl := dp_flat f' hy
  exact ⟨hs, k _ H G (.refl gs) (Dq.bl _)⟩
theorem o_ne {d d' : D} (f : flatD d = true) (f' : flatD d' = true) (hs : scal (vOf d) (vOf d') = true) : Op2 rNe (.d d) (.d d') (.d (.bool (!decide (vOf d = vOf d')))) := fun x y H G Q gs hx hy k => by
  obtain rfl := dp_flat f hx
  obtain rfl := dp_flat f' hy
  exact ⟨hs, k _ H G (.refl gs) (Dq.bl _)⟩
theorem dec_i {i j : Int} : decide (vOf (.int i) = vOf (.int j)) = decide (i = j) := by show decide (V.int i = V.int j) = _; simp
theorem dec_s {x y : Str} : decide (vOf (.str x) = vOf (.str y)) = decide (x = y) := by show decide (V.str x = V.str y) = _; simp
theorem pd_eqi {i j : Int} (ha : PD X a δ (.d (.int i))) (hb : PD X b δ (.d (.int j))) : PD X (.Compare a [.Eq] [b] pos) δ (.d (.bool (decide (i = j)))) := (pd_cmp op_eq (o_eq rfl rfl rfl) ha hb (nomark _)).is (by rw [dec_i])
theorem ptd_eqi {i j : Int} (ha : PD X a δ (.d (.int i))) (hb : PD X b δ (.d (.int j))) : PTD X (.Compare a [.Eq] [b] pos) δ (decide (i = j)) := (ptd_cmp op_eq (o_eq rfl rfl rfl) ha hb (nomark _)).is (by rw [dec_i])
theorem pd_nei {i j : Int} (ha : PD X a δ (.d (.int i))) (hb : PD X b δ (.d (.int j))) : PD X (.Compare a [.NotEq] [b] pos) δ (.d (.bool (!decide (i = j)))) := (pd_cmp op_ne (o_ne rfl rfl rfl) ha hb (nomark _)).is (by rw [dec_i])
theorem ptd_nei {i j : Int} (ha : PD X a δ (.d (.int i))) (hb : PD X b δ (.d (.int j))) : PTD X (.Compare a [.NotEq] [b] pos) δ (!decide (i = j)) := (ptd_cmp op_ne (o_ne rfl rfl rfl) ha hb (nomark _)).is (by rw [dec_i])
theorem pd_eqs {x y : Str} (ha : PD X a δ (.d (.str x))) (hb : PD X b δ (.d (.str y))) : PD X (.Compare a [.Eq] [b] pos) δ (.d (.bool (decide (x = y)))) := (pd_cmp op_eq (o_eq rfl rfl rfl) ha hb (nomark _)).is (by rw [dec_s])
theorem ptd_eqs {x y : Str} (ha : PD X a δ (.d (.str x))) (hb : PD X b δ (.d (.str y))) : PTD X (.Compare a [.Eq] [b] pos) δ (decide (x = y)) := (ptd_cmp op_eq (o_eq rfl rfl rfl) ha hb (nomark _)).is (by rw [dec_s])
theorem ptd_nes {x y : Str} (ha : PD X a δ (.d (.str x))) (hb : PD X b δ (.d (.str y))) : PTD X (.Compare a [.NotEq] [b] pos) δ (!decide (x = y)) := (ptd_cmp op_ne (o_ne rfl rfl rfl) ha hb (nomark _)).is (by rw [dec_s])
/-- two names by their order -/
theorem pd_lts {x y : Str} (ha : PD X a δ (.d (.str x))) (hb : PD X b δ (.d (.str y))) : PD X (.Compare a [.Lt] [b] pos) δ (.d (.bool (decide (x.cps.toList < y.cps.toList)))) :=
  pd_cmp op_lt_str (fun u v H G Q gs hx hy k => by cases hx; cases hy; exact ⟨x, y, rfl, rfl, k _ H G (.refl gs) (Dq.bl _)⟩) ha hb (nomark _)
def isNo : D → Bool
  | .none => true
  | _ => false
theorem o_isn {d : D} : Op2 (fun x y H Q => y = .non ∧ Q (.bl (decide (x = .non))) H) (.d d) (.d .none) (.d (.bool (isNo d))) := fun x y H G Q gs hx hy k => by
  cases hy
  refine ⟨rfl, ?_⟩
  have e : decide (x = .non) = isNo d := by cases hx <;> rfl
  rw [e]
  exact k _ H G (.refl gs) (Dq.bl _)
theorem o_notn {d : D} : Op2 (fun x y H Q => y = .non ∧ Q (.bl (!decide (x = .non))) H) (.d d) (.d .none) (.d (.bool (!isNo d))) := fun x y H G Q gs hx hy k => by
  cases hy
  refine ⟨rfl, ?_⟩
  have e : decide (x = .non) = isNo d := by cases hx <;> rfl
  rw [e]
  exact k _ H G (.refl gs) (Dq.bl _)
theorem pd_isn {d : D} (ha : PD X a δ (.d d)) (hb : PD X b δ (.d .none)) : PD X (.Compare a [.Is] [b] pos) δ (.d (.bool (isNo d))) := pd_cmp op_isN o_isn ha hb (nomark _)
theorem ptd_isn {d : D} (ha : PD X a δ (.d d)) (hb : PD X b δ (.d .none)) : PTD X (.Compare a [.Is] [b] pos) δ (isNo d) := ptd_cmp op_isN o_isn ha hb (nomark _)
theorem ptd_notn {d : D} (ha : PD X a δ (.d d)) (hb : PD X b δ (.d .none)) : PTD X (.Compare a [.IsNot] [b] pos) δ (!isNo d) := ptd_cmp op_notN o_notn ha hb (nomark _)
theorem inv_strs (x : Str) : ∀ xs : List Str, inV (.str x) (xs.map V.str) = decide (x ∈ xs)
  | [] => by simp [inV]
  | y :: ys => by
    have ih := inv_strs x ys
    unfold inV at ih ⊢
    rw [List.map_cons, List.any_cons, ih, Bool.eq_iff_iff]
    have e : eqV (.str y) (.str x) = decide (y = x) := by
      first | rfl | (rw [Bool.eq_iff_iff]; simp [eqV])
    rw [e, Bool.or_eq_true, decide_eq_true_eq, decide_eq_true_eq, decide_eq_true_eq, List.mem_cons]
    exact ⟨fun z => z.imp Eq.symm id, fun z => z.imp Eq.symm id⟩
theorem flat_map_strs (xs : List Str) : (xs.map V.str).all flatV = true := by
  rw [List.all_map, List.all_eq_true]
  intro x _
  rfl
/-- a list or a tuple of texts -/
def SeqS (d : D) (xs : List Str) : Prop := d = .list (xs.map .str) ∨ d = .tuple (xs.map .str)
theorem seqs_at {G : Hp} {v : V} {d : D} {xs : List Str} (h : Dq G v d) (s : SeqS d xs) : ∃ p, v = .ref p ∧ (G p = some (.lst (xs.map V.str)) ∨ G p = some (.tup (xs.map V.str))) := by
  rcases s with rfl | rfl
  · cases h with
    | lst h1 h2 => rw [dpa_strs h2] at h1; exact ⟨_, rfl, .inl h1⟩
  · cases h with
    | tup h1 h2 => rw [dpa_strs h2] at h1; exact ⟨_, rfl, .inr h1⟩
theorem o_in {K : PySem.W.Frag} {x : Str} {d : D} {xs : List Str} (s : SeqS d xs) (neg : Bool) : Op2 (rIn K neg) (.d (.str x)) (.d d) (.d (.bool (if neg then !decide (x ∈ xs) else decide (x ∈ xs)))) := fun u v H G Q gs hx hy k => by
  cases hx
  obtain ⟨p, rfl, hp⟩ := seqs_at hy s
  refine ⟨p, xs.map V.str, rfl, ?_, rfl, flat_map_strs xs, ?_⟩
  · rcases hp with h | h
    · exact .inl (SqL.of (gs _ _ h))
    · exact .inr (SqT.of (gs _ _ h))
  · rw [inv_strs]
    exact k _ H G (.refl gs) (Dq.bl _)
theorem pd_in {x : Str} {d : D} {xs : List Str} (ha : PD X a δ (.d (.str x))) (hb : PD X b δ (.d d)) (s : SeqS d xs) (hm : behindInMarks .In b = false := by rfl) : PD X (.Compare a [.In] [b] pos) δ (.d (.bool (decide (x ∈ xs)))) := pd_cmp op_in_seq (o_in s false) ha hb hm
theorem ptd_in {x : Str} {d : D} {xs : List Str} (ha : PD X a δ (.d (.str x))) (hb : PD X b δ (.d d)) (s : SeqS d xs) (hm : behindInMarks .In b = false := by rfl) : PTD X (.Compare a [.In] [b] pos) δ (decide (x ∈ xs)) := ptd_cmp op_in_seq (o_in s false) ha hb hm
theorem pd_notin {x : Str} {d : D} {xs : List Str} (ha : PD X a δ (.d (.str x))) (hb : PD X b δ (.d d)) (s : SeqS d xs) (hm : behindInMarks .NotIn b = false := by rfl) : PD X (.Compare a [.NotIn] [b] pos) δ (.d (.bool (!decide (x ∈ xs)))) := pd_cmp op_notIn_seq (o_in s true) ha hb hm
theorem ptd_notin {x : Str} {d : D} {xs : List Str} (ha : PD X a δ (.d (.str x))) (hb : PD X b δ (.d d)) (s : SeqS d xs) (hm : behindInMarks .NotIn b = false := by rfl) : PTD X (.Compare a [.NotIn] [b] pos) δ (!decide (x ∈ xs)) := ptd_cmp op_notIn_seq (o_in s true) ha hb hm
theorem pd_ind {d : D} {ds : List D} (hu : X.A.units + 65 < cLine) (ha : PD X a δ (.d d)) (hb : PD X b δ (.d (.list ds))) (s1 : SeqAt.shaped d = true) (s2 : SeqAt.shaped (.list ds) = true) (hm : behindInMarks .In b = false := by rfl) :
    PD X (.Compare a [.In] [b] pos) δ (.d (.bool (ds.any fun z => PyData.eqv z d))) :=
  pd_cmp (ra := .d d) (rb := .d (.list ds)) (op_inD hu) (fun x y H G Q gs hx hy k => ⟨d, ds, dp_of (dp_up gs hx), dp_of (dp_up gs hy), s1, s2, k _ H G (.refl gs) (Dq.bl _)⟩) ha hb hm
theorem ptd_notind {d : D} {ds : List D} (hu : X.A.units + 65 < cLine) (ha : PD X a δ (.d d)) (hb : PD X b δ (.d (.list ds))) (s1 : SeqAt.shaped d = true) (s2 : SeqAt.shaped (.list ds) = true) (hm : behindInMarks .NotIn b = false := by rfl) :
    PTD X (.Compare a [.NotIn] [b] pos) δ (!ds.any fun z => PyData.eqv z d) :=
  ptd_cmp (ra := .d d) (rb := .d (.list ds)) (op_notInD hu) (fun x y H G Q gs hx hy k => ⟨d, ds, dp_of (dp_up gs hx), dp_of (dp_up gs hy), s1, s2, k _ H G (.refl gs) (Dq.bl _)⟩) ha hb hm
theorem ptd_eqd {d d' : D} (hu : X.A.units + 64 < cLine) (ha : PD X a δ (.d d)) (hb : PD X b δ (.d d')) (s1 : SeqAt.shaped d = true) (s2 : SeqAt.shaped d' = true) : PTD X (.Compare a [.Eq] [b] pos) δ (PyData.eqv d d') :=
  ptd_cmp (ra := .d d) (rb := .d d') (op_eqD hu) (fun x y H G Q gs hx hy k => ⟨d, d', dp_of (dp_up gs hx), dp_of (dp_up gs hy), s1, s2, k _ H G (.refl gs) (Dq.bl _)⟩) ha hb (nomark _)
theorem pd_sign {x : Str} {cp : Nat} (ha : PD X a δ (.d (.str ⟨#[cp]⟩))) (hb : PD X b δ (.d (.str x))) (hm : behindInMarks .In b = false := by rfl) : PD X (.Compare a [.In] [b] pos) δ (.d (.bool (decide (cp ∈ x.cps.toList)))) :=
  pd_cmp op_in_sign (fun u v H G Q gs hx hy k => by cases hx; cases hy; exact ⟨cp, x, rfl, rfl, k _ H G (.refl gs) (Dq.bl _)⟩) ha hb hm
end
end Fw
set_option maxHeartbeats 2000000
namespace Fw
open PySem PySem.Spec PyProof.Rows L2

section
variable {X : Cx} {e a b c : Expr} {es rest : List Expr} {δ : List Sl} {r ra rb rc : Ar} {pos : Pos}
theorem pw_false {e : Expr} : PW X e (fun _ _ _ => False) := ⟨fun _ _ _ _ _ _ _ h => h.elim⟩
theorem pe_false {e : Expr} : PE X e (fun _ _ _ => False) := ⟨fun _ _ _ _ _ _ h => h.elim⟩
theorem PWD.ptd {q : Bool} (h : PWD X e δ q) : PTD X e δ q := by
  obtain ⟨t, ht, k⟩ := h
  exact .of ht.pt k
theorem pwd_and1 {q : Bool} (h : PTD X a δ q) : PWD X (.BoolOp .And [a] pos) δ q := ⟨_, pw_and1 h.pt, fun σ H0 G H Q gs re k => .in gs re k⟩
theorem pwd_or1 {q : Bool} (h : PTD X a δ q) : PWD X (.BoolOp .Or [a] pos) δ q := ⟨_, pw_or1 h.pt, fun σ H0 G H Q gs re k => .in gs re k⟩
theorem pwd_and {q q' : Bool} (h : PTD X a δ q) (h2 : q = true → PWD X (.BoolOp .And (b :: rest) pos) δ q') : PWD X (.BoolOp .And (a :: b :: rest) pos) δ (q && q') := by
  cases q with
  | false => exact ⟨_, pw_and h.pt pw_false, fun σ H0 G H Q gs re k => .in gs re fun H1 G1 g1 => iteF (k H1 G1 g1)⟩
  | true =>
    obtain ⟨t, ht, kt⟩ := h2 rfl
    exact ⟨_, pw_and h.pt ht, fun σ H0 G H Q gs re k => .in gs re fun H1 G1 g1 => iteT (kt σ H0 G1 H1 Q g1.s (re.grow g1) fun H2 G2 g2 => k H2 G2 (g1.trans g2))⟩
theorem pwd_or {q q' : Bool} (h : PTD X a δ q) (h2 : q = false → PWD X (.BoolOp .Or (b :: rest) pos) δ q') : PWD X (.BoolOp .Or (a :: b :: rest) pos) δ (q || q') := by
  cases q with
  | true => exact ⟨_, pw_or h.pt pw_false, fun σ H0 G H Q gs re k => .in gs re fun H1 G1 g1 => iteT (k H1 G1 g1)⟩
  | false =>
    obtain ⟨t, ht, kt⟩ := h2 rfl
    exact ⟨_, pw_or h.pt ht, fun σ H0 G H Q gs re k => .in gs re fun H1 G1 g1 => iteF (kt σ H0 G1 H1 Q g1.s (re.grow g1) fun H2 G2 g2 => k H2 G2 (g1.trans g2))⟩
theorem ptd_not {q : Bool} (h : PTD X a δ q) : PTD X (.UnaryOp .Not a pos) δ (!q) := .of (pt_not h.pt) fun σ H0 G H Q gs re k => .in gs re k
theorem ptd_val {q : Bool} (h : PD X e δ (.d (.bool q))) (he : ∀ whole, isTrue e X.env whole = (do let v ← whole; standAt e.pos; holding [v] (truthy v)) := by intro _; rfl) : PTD X e δ q :=
  .of (pt_val h.pe he) fun σ H0 G H Q gs re k => .in gs re fun v H1 G1 g1 a1 => by cases a1; exact ⟨q, rfl, k H1 G1 g1⟩
/-- a list's truth -/
theorem ptd_lst {ds : List D} (h : PD X e δ (.d (.list ds))) (he : ∀ whole, isTrue e X.env whole = (do let v ← whole; standAt e.pos; holding [v] (truthy v)) := by intro _; rfl) : PTD X e δ (!ds.isEmpty) :=
  .of (pt_truth h.pe he) fun σ H0 G H Q gs re k => .in gs re fun v H1 G1 g1 a1 => by
    cases a1 with
    | @lst p xs _ h1 h2 =>
      refine ⟨!ds.isEmpty, .inl ⟨xs, SqL.of (g1.s _ _ h1), ?_⟩, k H1 G1 g1⟩
      have hl := dpa_len h2
      cases xs <;> cases ds <;> first | rfl | cases hl
theorem pd_one {op : BoolOp} {q : Ar} (h : PD X a δ q) : PD X (.BoolOp op [a] pos) δ q := .of (pe_one h.pe) fun σ H0 G H Q gs re k => .in gs re k
theorem pd_and {q q' : Bool} (h : PD X a δ (.d (.bool q))) (h2 : q = true → PD X (.BoolOp .And (b :: rest) pos) δ (.d (.bool q'))) : PD X (.BoolOp .And (a :: b :: rest) pos) δ (.d (.bool (q && q'))) := by
  cases q with
  | false => exact .of (pe_and h.pe pe_false) fun σ H0 G H Q gs re k => .in gs re fun v H1 G1 g1 a1 => by cases a1; exact ⟨false, rfl, iteF (k _ H1 G1 g1 (Dq.bl _))⟩
  | true =>
    refine .of (pe_and h.pe (h2 rfl).pe) fun σ H0 G H Q gs re k => .in gs re fun v H1 G1 g1 a1 => ?_
    cases a1
    exact ⟨true, rfl, iteT (tPD.in g1.s (re.grow g1) fun v H2 G2 g2 a2 => k _ H2 G2 (g1.trans g2) a2)⟩
theorem pd_or {q q' : Bool} (h : PD X a δ (.d (.bool q))) (h2 : q = false → PD X (.BoolOp .Or (b :: rest) pos) δ (.d (.bool q'))) : PD X (.BoolOp .Or (a :: b :: rest) pos) δ (.d (.bool (q || q'))) := by
  cases q with
  | true => exact .of (pe_or h.pe pe_false) fun σ H0 G H Q gs re k => .in gs re fun v H1 G1 g1 a1 => by cases a1; exact ⟨true, rfl, iteT (k _ H1 G1 g1 (Dq.bl _))⟩
  | false =>
    refine .of (pe_or h.pe (h2 rfl).pe) fun σ H0 G H Q gs re k => .in gs re fun v H1 G1 g1 a1 => ?_
    cases a1
    exact ⟨false, rfl, iteF (tPD.in g1.s (re.grow g1) fun v H2 G2 g2 a2 => k _ H2 G2 (g1.trans g2) a2)⟩
theorem pd_not {q : Bool} (h : PD X a δ (.d (.bool q))) : PD X (.UnaryOp .Not a pos) δ (.d (.bool (!q))) := .of (pe_not h.pe) fun σ H0 G H Q gs re k => .in gs re fun v H1 G1 g1 a1 => by
  cases a1
  exact ⟨q, rfl, k _ H1 G1 g1 (Dq.bl _)⟩
theorem pd_ife {q : Bool} (h : PTD X c δ q) (ha : q = true → PD X a δ r) (hb : q = false → PD X b δ r) : PD X (.IfExp c a b pos) δ r := by
  cases q with
  | true => exact .of (pe_ifExp h.pt (ha rfl).pe pe_false) fun σ H0 G H Q gs re k => .in gs re fun H1 G1 g1 => iteT (tPD.in g1.s (re.grow g1) fun v H2 G2 g2 a2 => k v H2 G2 (g1.trans g2) a2)
  | false => exact .of (pe_ifExp h.pt pe_false (hb rfl).pe) fun σ H0 G H Q gs re k => .in gs re fun H1 G1 g1 => iteF (tPD.in g1.s (re.grow g1) fun v H2 G2 g2 a2 => k v H2 G2 (g1.trans g2) a2)
/-- i <= j <= k -/
theorem pd_chain {i j m : Int} (ha : PD X a δ (.d (.int i))) (hb : PD X b δ (.d (.int j))) (hc : PD X c δ (.d (.int m))) (hm : lastMarks [.LtE, .LtE] [b, c] = false := by with_unfolding_all rfl) :
    PD X (.Compare a [.LtE, .LtE] [b, c] pos) δ (.d (.bool (decide (i ≤ j) && decide (j ≤ m)))) :=
  .of (pe_chain op_le op_le ha.pe hb.pe hc.pe hm) fun σ H0 G H Q gs re k => .in gs re fun x H1 G1 g1 a1 => .in g1.s (re.grow g1) fun y H2 G2 g2 a2 => by
    cases a1
    cases a2
    refine ⟨i, j, rfl, rfl, decide (i ≤ j), rfl, ?_⟩
    have g12 := g1.trans g2
    by_cases h : i ≤ j
    · rw [decide_eq_true h]
      refine iteT (tPD.in g2.s (re.grow g12) fun z H3 G3 g3 a3 => ?_)
      cases a3
      refine ⟨j, m, rfl, rfl, ?_⟩
      rw [decide_eq_true h, Bool.true_and] at k
      exact k _ H3 G3 (g12.trans g3) (Dq.bl _)
    · rw [decide_eq_false h]
      rw [decide_eq_false h, Bool.false_and] at k
      exact iteF (k _ H2 G2 g12 (Dq.bl _))
theorem ati_up {G : Hp} {vs : List V} {ds : List D} {i : Int} {d : D} (h : DqAll G vs ds) (e : atI ds i = some d) : ∃ v, atI vs i = some v ∧ Dq G v d := by
  unfold atI at e ⊢
  rw [dpa_len h]
  cases q : ixN ds.length i with
  | none => rw [q] at e; cases e
  | some j =>
    rw [q] at e
    exact dpa_get h e
theorem pd_ixl {ds : List D} {i : Int} {d : D} (ha : PD X a δ (.d (.list ds))) (hb : PD X b δ (.d (.int i))) (h : atI ds i = some d) (hs : PlainIx b := by intro _ _; rfl) : PD X (.Subscript a b pos) δ (.d d) :=
  .of (pe_ix ix_list ha.pe hb.pe hs) fun σ H0 G H Q gs re k => .in gs re fun x H1 G1 g1 a1 => .in g1.s (re.grow g1) fun y H2 G2 g2 a2 => by
    cases a2
    cases a1 with
    | @lst p xs _ h1 h2 =>
      obtain ⟨v, e1, e2⟩ := ati_up h2 h
      exact ⟨p, xs, i, v, rfl, rfl, SqL.of ((g1.s.trans g2.h) _ _ h1), e1, k v H2 G2 (g1.trans g2) (dp_up g2.g e2)⟩
theorem pd_ixt {ds : List D} {i : Int} {d : D} (ha : PD X a δ (.d (.tuple ds))) (hb : PD X b δ (.d (.int i))) (h : atI ds i = some d) (hs : PlainIx b := by intro _ _; rfl) : PD X (.Subscript a b pos) δ (.d d) :=
  .of (pe_ix ix_tup ha.pe hb.pe hs) fun σ H0 G H Q gs re k => .in gs re fun x H1 G1 g1 a1 => .in g1.s (re.grow g1) fun y H2 G2 g2 a2 => by
    cases a2
    cases a1 with
    | @tup p xs _ h1 h2 =>
      obtain ⟨v, e1, e2⟩ := ati_up h2 h
      exact ⟨p, xs, i, v, rfl, rfl, SqT.of ((g1.s.trans g2.h) _ _ h1), e1, k v H2 G2 (g1.trans g2) (dp_up g2.g e2)⟩
theorem ati_nn {ds : List D} {i : Int} {d : D} (h0 : 0 ≤ i) (h : ds[i.toNat]? = some d) : atI ds i = some d := by
  have q := atI_nat h
  rwa [Int.toNat_of_nonneg h0] at q
theorem cut_to (xs : List V) {i : Int} (h0 : 0 ≤ i) : cutV xs none (some i) = xs.take i.toNat := by
  unfold cutV
  have e : HT.sIx xs.length xs.length (some i) = min i.toNat xs.length := by
    have q := HT.sIx_nat xs.length xs.length i.toNat
    rwa [Int.toNat_of_nonneg h0] at q
  rw [e]
  simp [HT.sIx_none]
theorem cut_from (xs : List V) {i : Int} (h0 : 0 ≤ i) : cutV xs (some i) none = xs.drop i.toNat := by
  unfold cutV
  have e : HT.sIx xs.length 0 (some i) = min i.toNat xs.length := by
    have q := HT.sIx_nat xs.length 0 i.toNat
    rwa [Int.toNat_of_nonneg h0] at q
  rw [e, HT.sIx_none]
  rcases Nat.le_total i.toNat xs.length with h | h
  · rw [Nat.min_eq_left h]
    exact List.take_of_length_le (by rw [List.length_drop]; exact Nat.le_refl _)
  · rw [Nat.min_eq_right h, List.drop_eq_nil_of_le h, List.drop_eq_nil_of_le (Nat.le_refl _)]
    simp
/-- xs[:e] -/
theorem pd_slto {ds : List D} {i : Int} {p2 : Pos} (ha : PD X a δ (.d (.list ds))) (hb : PD X b δ (.d (.int i))) (h0 : 0 ≤ i) : PD X (.Subscript a (.Slice none (some b) none p2) pos) δ (.d (.list (ds.take i.toNat))) :=
  .of (pe_slice sl_list ha.pe po_none (po_some hb.pe)) fun σ H0 G H Q gs re k => .in gs re fun x H1 G1 g1 a1 => .in g1.s (re.grow g1) fun y H2 G2 g2 a2 => by
    cases a2
    cases a1 with
    | @lst p xs _ h1 h2 =>
      refine ⟨i, rfl, p, xs, rfl, SqL.of ((g1.s.trans g2.h) _ _ h1), fun l hl => ?_⟩
      rw [cut_to xs h0]
      have g12 := g1.trans g2
      exact k _ _ _ (g12.trans (.new g2.s hl)) (dp_newl (dpa_take _ (dpa_up g2.g h2)) (g2.s.free hl))
/-- t[i:], a part behind the start -/
theorem pd_slfrom {ds : List D} {i : Int} {p2 : Pos} (ha : PD X a δ (.d (.tuple ds))) (hb : PD X b δ (.d (.int i))) (h0 : 0 < i) (hd : 0 < ds.length) : PD X (.Subscript a (.Slice (some b) none none p2) pos) δ (.d (.tuple (ds.drop i.toNat))) :=
  .of (pe_slice sl_tup ha.pe (po_some hb.pe) po_none) fun σ H0 G H Q gs re k => .in gs re fun x H1 G1 g1 a1 => .in g1.s (re.grow g1) fun y H2 G2 g2 a2 => by
    cases a2
    cases a1 with
    | @tup p xs _ h1 h2 =>
      have hl2 := dpa_len h2
      have e : HT.sIx xs.length 0 (some i) = min i.toNat xs.length := by
        have q := HT.sIx_nat xs.length 0 i.toNat
        rwa [Int.toNat_of_nonneg (Int.le_of_lt h0)] at q
      refine ⟨i, rfl, p, xs, rfl, SqT.of ((g1.s.trans g2.h) _ _ h1), fun z => ?_, fun l hl => ?_⟩
      · have z1 := z.1
        rw [e] at z1
        omega
      · rw [cut_from xs (Int.le_of_lt h0)]
        have g12 := g1.trans g2
        exact k _ _ _ (g12.trans (.new g2.s hl)) (dp_newt (dpa_drop _ (dpa_up g2.g h2)) (g2.s.free hl))

theorem pd_own (i : Nat) {ds : List D} {d : D} (hi : δ[i]? = some (.ow (oLst ds))) (h : PD X e (δ.set i (.va (.d (.list ds)))) (.d d)) (f : flatD d = true) (ng : noGp δ = true := by rfl) : PD X e δ (.d d) := by
  refine ⟨fun pins s σ H0 G H I gs re => ?_⟩
  obtain ⟨p, ob, e1, e2, e3, e4, vs, rfl, e5⟩ := re.ow hi
  have gs' : Same (upd G p (.lst vs)) H := fun q u z => by
    by_cases y : q = p
    · subst y; rw [upd_same] at z; rw [e2]; exact z
    · rw [upd_ne y] at z; exact gs _ _ z
  refine thn (h.run pins s σ H0 _ H I gs' (re.frz i hi e1 e2 e3 (dp_newl e5 e3) ng)) fun u s' ⟨v, H', G', I', rv, g, ar⟩ => ?_
  refine ⟨v, H', G, I', rv, ⟨g.h, .refl _, gs.trans g.h, fun q u z => .inl ⟨u, z⟩⟩, ?_⟩
  cases ar <;> first | exact Dq.non | exact Dq.bl _ | exact Dq.int _ | exact Dq.str _ | cases f
theorem ptd_own (i : Nat) {ds : List D} {q : Bool} (hi : δ[i]? = some (.ow (oLst ds))) (h : PTD X e (δ.set i (.va (.d (.list ds)))) q) (ng : noGp δ = true := by rfl) : PTD X e δ q := by
  refine ⟨fun pins s σ H0 G H I gs re => ?_⟩
  obtain ⟨p, ob, e1, e2, e3, e4, vs, rfl, e5⟩ := re.ow hi
  have gs' : Same (upd G p (.lst vs)) H := fun q u z => by
    by_cases y : q = p
    · subst y; rw [upd_same] at z; rw [e2]; exact z
    · rw [upd_ne y] at z; exact gs _ _ z
  exact thn (h.run pins s σ H0 _ H I gs' (re.frz i hi e1 e2 e3 (dp_newl e5 e3) ng)) fun u s' ⟨H', G', I', g, eq⟩ => ⟨H', G, I', ⟨g.h, .refl _, gs.trans g.h, fun q u z => .inl ⟨u, z⟩⟩, eq⟩

def OpC (rd : List V → Hp → VK → Prop) (rs : List Ar) (q : Ar) : Prop := ∀ (vs : List V) (H G : Hp) (Q : VK), Same G H → ArAll G vs rs → (∀ v H' G', Gr G H G' H' → ArR G' v q → Q v H') → rd vs H Q
variable {x : Str} {p : Pos} {rs : List Ar} {rd : List V → Hp → VK → Prop} {bid T : String}
theorem pd_callB (hc : CallR X (.builtin bid) rd) (k : OpC rd rs r) (hg : Gl X x) (hm : X.mg x = none) (hv : bootBuiltins x = some (.builtin bid)) (ha : PAD X (e :: es) δ rs) (hn : x ≠ "__name__" := by decide) (hdb : (x == ("__debug__" : Str)) = false := by decide)
    (he : starEach (e :: es) X.env = (false, eval e X.env) :: starEach es X.env := by rfl) (hpl : (backTo pos (starEach es X.env)).any (·.1) = false := by rfl) : PD X (.Call (.Name x p) (e :: es) [] pos) δ r := by
  obtain ⟨t, ht, kt⟩ := ha
  exact .of (pe_callB hc hg hm hv ht hn hdb he hpl) fun σ H0 G H Q gs re kk => kt σ H0 G H _ gs re fun vs H1 G1 g1 a1 => k vs H1 G1 Q g1.s a1 fun v H2 G2 g2 a2 => kk v H2 G2 (g1.trans g2) a2
theorem pd_callTy (hc : CallR X (.type T) rd) (k : OpC rd rs r) (hg : Gl X x) (hm : X.mg x = none) (hv : bootBuiltins x = some (.type T)) (ha : PAD X (e :: es) δ rs) (hn : x ≠ "__name__" := by decide) (hdb : (x == ("__debug__" : Str)) = false := by decide)
    (he : starEach (e :: es) X.env = (false, eval e X.env) :: starEach es X.env := by rfl) (hpl : (backTo pos (starEach es X.env)).any (·.1) = false := by rfl) : PD X (.Call (.Name x p) (e :: es) [] pos) δ r := by
  obtain ⟨t, ht, kt⟩ := ha
  exact .of (pe_callTy hc hg hm hv ht hn hdb he hpl) fun σ H0 G H Q gs re kk => kt σ H0 G H _ gs re fun vs H1 G1 g1 a1 => k vs H1 G1 Q g1.s a1 fun v H2 G2 g2 a2 => kk v H2 G2 (g1.trans g2) a2
theorem arall1 {G : Hp} {vs : List V} {q : Ar} (h : ArAll G vs [q]) : ∃ v, vs = [v] ∧ ArR G v q := by
  cases h with
  | cons h1 h2 => cases h2; exact ⟨_, rfl, h1⟩
theorem arall2 {G : Hp} {vs : List V} {q q' : Ar} (h : ArAll G vs [q, q']) : ∃ v v', vs = [v, v'] ∧ ArR G v q ∧ ArR G v' q' := by
  cases h with
  | cons h1 h2 =>
    obtain ⟨v', rfl, h3⟩ := arall1 h2
    exact ⟨_, _, rfl, h1, h3⟩
/-- the module's built-in names are not stored over -/
structure Bt (mg : Str → Option Value) : Prop where
  len : mg "len" = none
  all : mg "all" = none
  any : mg "any" = none
  set : mg "set" = none
  sorted : mg "sorted" = none
  list : mg "list" = none
  tuple : mg "tuple" = none
  dict : mg "dict" = none
  range : mg "range" = none
  abs : mg "abs" = none
  int : mg "int" = none
  min : mg "min" = none
  max : mg "max" = none
def seqD : D → Option (List D)
  | .list ds => some ds
  | .tuple ds => some ds
  | _ => none
theorem seq_at {G : Hp} {v : V} {d : D} {ds : List D} (h : Dq G v d) (s : seqD d = some ds) : ∃ p xs, v = .ref p ∧ (G p = some (.lst xs) ∨ G p = some (.tup xs)) ∧ DqAll G xs ds := by
  cases h with
  | lst h1 h2 => cases s; exact ⟨_, _, rfl, .inl h1, h2⟩
  | tup h1 h2 => cases s; exact ⟨_, _, rfl, .inr h1, h2⟩
  | _ => cases s
theorem sq_up {K : PySem.W.Frag} {G H : Hp} {p : Addr} {xs : List V} (e : Same G H) (h : G p = some (.lst xs) ∨ G p = some (.tup xs)) : SqL K H p xs ∨ SqT K H p xs := h.imp (fun z => SqL.of (e _ _ z)) (fun z => SqT.of (e _ _ z))
theorem pd_len {d : D} {ds : List D} (B : Bt X.mg) (h : PD X e δ (.d d)) (s : seqD d = some ds) (hg : Gl X "len" := by rfl) (he : starEach [e] X.env = [(false, eval e X.env)] := by rfl) : PD X (.Call (.Name "len" p) [e] [] pos) δ (.d (.int (ds.length : Int))) :=
  pd_callB call_len_seq (fun vs H G Q gs ha k => by
    obtain ⟨v, rfl, hv⟩ := arall1 ha
    obtain ⟨p, xs, rfl, h1, h2⟩ := seq_at hv s
    refine ⟨p, xs, rfl, sq_up gs h1, ?_⟩
    rw [dpa_len h2]
    exact k _ H G (.refl gs) (Dq.int _)) hg B.len PySem.boot_len (pad_cons h pad_nil he) (by decide) (by decide) he
theorem pd_lens {z : Str} (B : Bt X.mg) (h : PD X e δ (.d (.str z))) (s : z.length ≤ sizeLine) (hg : Gl X "len" := by rfl) (he : starEach [e] X.env = [(false, eval e X.env)] := by rfl) : PD X (.Call (.Name "len" p) [e] [] pos) δ (.d (.int (z.length : Int))) :=
  pd_callB call_len_str (fun vs H G Q gs ha k => by
    obtain ⟨v, rfl, hv⟩ := arall1 ha
    cases hv
    exact ⟨z, rfl, s, k _ H G (.refl gs) (Dq.int _)⟩) hg B.len PySem.boot_len (pad_cons h pad_nil he) (by decide) (by decide) he
theorem pd_list {d : D} {ds : List D} (B : Bt X.mg) (h : PD X e δ (.d d)) (s : seqD d = some ds) (hg : Gl X "list" := by rfl) (he : starEach [e] X.env = [(false, eval e X.env)] := by rfl) : PD X (.Call (.Name "list" p) [e] [] pos) δ (.d (.list ds)) :=
  pd_callTy call_list_of (fun vs H G Q gs ha k => by
    obtain ⟨v, rfl, hv⟩ := arall1 ha
    obtain ⟨p, xs, rfl, h1, h2⟩ := seq_at hv s
    exact ⟨p, xs, rfl, sq_up gs h1, fun l hl => k _ _ _ (.new gs hl) (dp_newl h2 (gs.free hl))⟩) hg B.list (by decide +kernel) (pad_cons h pad_nil he) (by decide) (by decide) he
theorem pd_tuple {ds : List D} (B : Bt X.mg) (h : PD X e δ (.d (.list ds))) (hg : Gl X "tuple" := by rfl) (he : starEach [e] X.env = [(false, eval e X.env)] := by rfl) : PD X (.Call (.Name "tuple" p) [e] [] pos) δ (.d (.tuple ds)) :=
  pd_callTy call_tuple_of (fun vs H G Q gs ha k => by
    obtain ⟨v, rfl, hv⟩ := arall1 ha
    cases hv with
    | @lst p xs _ h1 h2 => exact ⟨p, xs, rfl, .inl ⟨SqL.of (gs _ _ h1), fun l hl => k _ _ _ (.new gs hl) (dp_newt h2 (gs.free hl))⟩⟩) hg B.tuple (by decide +kernel) (pad_cons h pad_nil he) (by decide) (by decide) he
theorem pd_all {ds : List D} {bs : List Bool} (B : Bt X.mg) (hcalm : X.calm = true) (h : PD X e δ (.d (.list ds))) (s : ds = bs.map .bool) (hg : Gl X "all" := by rfl) (he : starEach [e] X.env = [(false, eval e X.env)] := by rfl) : PD X (.Call (.Name "all" p) [e] [] pos) δ (.d (.bool (bs.all id))) :=
  pd_callB (cr_all hcalm) (fun vs H G Q gs ha k => by
    obtain ⟨v, rfl, hv⟩ := arall1 ha
    subst s
    cases hv with
    | @lst p xs _ h1 h2 =>
      rw [dpa_bls h2] at h1
      exact ⟨p, bs, rfl, SqL.of (gs _ _ h1), k _ H G (.refl gs) (Dq.bl _)⟩) hg B.all (by decide +kernel) (pad_cons h pad_nil he) (by decide) (by decide) he
theorem pd_any {ds : List D} {bs : List Bool} (B : Bt X.mg) (hcalm : X.calm = true) (h : PD X e δ (.d (.list ds))) (s : ds = bs.map .bool) (hg : Gl X "any" := by rfl) (he : starEach [e] X.env = [(false, eval e X.env)] := by rfl) : PD X (.Call (.Name "any" p) [e] [] pos) δ (.d (.bool (bs.any id))) :=
  pd_callB (cr_any hcalm) (fun vs H G Q gs ha k => by
    obtain ⟨v, rfl, hv⟩ := arall1 ha
    subst s
    cases hv with
    | @lst p xs _ h1 h2 =>
      rw [dpa_bls h2] at h1
      exact ⟨p, bs, rfl, SqL.of (gs _ _ h1), k _ H G (.refl gs) (Dq.bl _)⟩) hg B.any (by decide +kernel) (pad_cons h pad_nil he) (by decide) (by decide) he
/-- all, any of a list told by its items -/
theorem pd_allT {T : Type} {ys : List T} {g : T → Bool} (B : Bt X.mg) (hcalm : X.calm = true) (h : PD X e δ (.d (.list (ys.map fun y => .bool (g y))))) (hg : Gl X "all" := by rfl) (he : starEach [e] X.env = [(false, eval e X.env)] := by rfl) : PD X (.Call (.Name "all" p) [e] [] pos) δ (.d (.bool (ys.all g))) :=
  (pd_all (bs := ys.map g) B hcalm h (by rw [List.map_map]; rfl) hg he).is (by rw [List.all_map]; rfl)
theorem pd_anyT {T : Type} {ys : List T} {g : T → Bool} (B : Bt X.mg) (hcalm : X.calm = true) (h : PD X e δ (.d (.list (ys.map fun y => .bool (g y))))) (hg : Gl X "any" := by rfl) (he : starEach [e] X.env = [(false, eval e X.env)] := by rfl) : PD X (.Call (.Name "any" p) [e] [] pos) δ (.d (.bool (ys.any g))) :=
  (pd_any (bs := ys.map g) B hcalm h (by rw [List.map_map]; rfl) hg he).is (by rw [List.any_map]; rfl)
theorem pd_abs {i : Int} (B : Bt X.mg) (h : PD X e δ (.d (.int i))) (hg : Gl X "abs" := by rfl) (he : starEach [e] X.env = [(false, eval e X.env)] := by rfl) : PD X (.Call (.Name "abs" p) [e] [] pos) δ (.d (.int (i.natAbs : Int))) :=
  pd_callB call_abs (fun vs H G Q gs ha k => by
    obtain ⟨v, rfl, hv⟩ := arall1 ha
    cases hv
    refine ⟨i, rfl, ?_⟩
    have e : (if i < 0 then -i else i) = (i.natAbs : Int) := by split <;> omega
    rw [e]
    exact k _ H G (.refl gs) (Dq.int _)) hg B.abs (by decide +kernel) (pad_cons h pad_nil he) (by decide) (by decide) he
theorem pd_inti {i : Int} (B : Bt X.mg) (h : PD X e δ (.d (.int i))) (hg : Gl X "int" := by rfl) (he : starEach [e] X.env = [(false, eval e X.env)] := by rfl) : PD X (.Call (.Name "int" p) [e] [] pos) δ (.d (.int i)) :=
  pd_callTy call_int1 (fun vs H G Q gs ha k => by
    obtain ⟨v, rfl, hv⟩ := arall1 ha
    cases hv
    exact .inl ⟨i, rfl, k _ H G (.refl gs) (Dq.int _)⟩) hg B.int (by decide +kernel) (pad_cons h pad_nil he) (by decide) (by decide) he
theorem pd_intb {c : Bool} (B : Bt X.mg) (h : PD X e δ (.d (.bool c))) (hg : Gl X "int" := by rfl) (he : starEach [e] X.env = [(false, eval e X.env)] := by rfl) : PD X (.Call (.Name "int" p) [e] [] pos) δ (.d (.int (if c then 1 else 0))) :=
  pd_callTy call_int1 (fun vs H G Q gs ha k => by
    obtain ⟨v, rfl, hv⟩ := arall1 ha
    cases hv
    exact .inr ⟨c, rfl, k _ H G (.refl gs) (Dq.int _)⟩) hg B.int (by decide +kernel) (pad_cons h pad_nil he) (by decide) (by decide) he
theorem pd_max2 {i j : Int} (B : Bt X.mg) (hcalm : X.calm = true) (ha : PD X a δ (.d (.int i))) (hb : PD X b δ (.d (.int j))) (hg : Gl X "max" := by rfl) (he : starEach [a, b] X.env = (false, eval a X.env) :: starEach [b] X.env := by rfl) (he2 : starEach [b] X.env = [(false, eval b X.env)] := by rfl)
    (hpl : (backTo pos (starEach [b] X.env)).any (·.1) = false := by rfl) : PD X (.Call (.Name "max" p) [a, b] [] pos) δ (.d (.int (max i j))) :=
  pd_callB (call_max2 hcalm) (fun vs H G Q gs ha k => by
    obtain ⟨v, v', rfl, h1, h2⟩ := arall2 ha
    cases h1
    cases h2
    refine ⟨i, j, rfl, ?_⟩
    have e : (if j > i then j else i) = max i j := by split <;> omega
    rw [e]
    exact k _ H G (.refl gs) (Dq.int _)) hg B.max (by decide +kernel) (pad_cons ha (pad_cons hb pad_nil he2) he) (by decide) (by decide) he hpl
theorem pd_min2 {i j : Int} (B : Bt X.mg) (hcalm : X.calm = true) (ha : PD X a δ (.d (.int i))) (hb : PD X b δ (.d (.int j))) (hg : Gl X "min" := by rfl) (he : starEach [a, b] X.env = (false, eval a X.env) :: starEach [b] X.env := by rfl) (he2 : starEach [b] X.env = [(false, eval b X.env)] := by rfl)
    (hpl : (backTo pos (starEach [b] X.env)).any (·.1) = false := by rfl) : PD X (.Call (.Name "min" p) [a, b] [] pos) δ (.d (.int (min i j))) :=
  pd_callB (call_min2 hcalm) (fun vs H G Q gs ha k => by
    obtain ⟨v, v', rfl, h1, h2⟩ := arall2 ha
    cases h1
    cases h2
    refine ⟨i, j, rfl, ?_⟩
    have e : (if j < i then j else i) = min i j := by split <;> omega
    rw [e]
    exact k _ H G (.refl gs) (Dq.int _)) hg B.min (by decide +kernel) (pad_cons ha (pad_cons hb pad_nil he2) he) (by decide) (by decide) he hpl

def spD (C : List Ar → Ar → Prop) : Sp := fun vs H Q _ => ∃ G ars q, Same G H ∧ ArAll G vs ars ∧ C ars q ∧ ∀ v H' G', Gr G H G' H' → ArR G' v q → Q v H'
/-- the def that the module's name x stands for keeps C -/
structure Okd (P : Program) (w : World) (K : PySem.W.Frag) (mg : Str → Option Value) (base : Heap) (k : Nat) (x : Str) (ps : List Str) (C : List Ar → Ar → Prop) : Prop where
  ex : ∃ f fd, FnOk P w K mg base CX0 k f fd ps (spD C) ∧ Binds K fd ps [] ∧ PySem.W.keepIn K (.ref f) = true ∧ mg x = some (.ref f)
theorem Okd.lift {P : Program} {w : World} {K : PySem.W.Frag} {mg : Str → Option Value} {base : Heap} {k k' : Nat} {x : Str} {ps : List Str} {C : List Ar → Ar → Prop} (O : Okd P w K mg base k x ps C) (h : k ≤ k') : Okd P w K mg base k' x ps C := by
  obtain ⟨f, fd, F, b⟩ := O.ex
  exact ⟨f, fd, F.mono h, b⟩
theorem pd_call {k : Nat} {ps : List Str} {C : List Ar → Ar → Prop} (O : Okd X.prog X.w X.K X.mg X.base k x ps C) (hr : Room k X.A) (ha : PAD X (e :: es) δ rs) (hC : C rs r) (hg : Gl X x := by rfl) (hdb : (x == ("__debug__" : Str)) = false := by decide)
    (he : starEach (e :: es) X.env = (false, eval e X.env) :: starEach es X.env := by rfl) (hpl : (backTo pos (starEach es X.env)).any (·.1) = false := by rfl) : PD X (.Call (.Name x p) (e :: es) [] pos) δ r := by
  obtain ⟨f, fd, F, b, kp, m⟩ := O.ex
  obtain ⟨t, ht, kt⟩ := ha
  refine .of (pe_call F hr hg m kp b .nil pass0 ht hdb he hpl) fun σ H0 G H Q gs re kk => kt σ H0 G H _ gs re fun vs H1 G1 g1 a1 => ?_
  rw [List.append_nil]
  exact ⟨G1, rs, r, g1.s, a1, hC, fun v H2 G2 g2 a2 => kk v H2 G2 (g1.trans g2) a2⟩
end
end Fw
set_option maxHeartbeats 2000000
namespace Fw
open PySem PySem.Spec PyProof.Rows L2

/-- what is wanted behind a statement, by data -/
structure DE where
  nx : List Sl → Prop
  rt : Ar → Prop
  rs : List Sl → Prop := fun _ => True
  bk : List Sl → Prop := fun _ => False
  ct : List Sl → Prop := fun _ => False
def EndP (G0 H0 : Hp) (E : DE) : Ends where
  nx := fun σ H => ∃ G δ, Gr G0 H0 G H ∧ RE H0 G H σ δ ∧ E.nx δ
  rt := fun v H => ∃ G q, Gr G0 H0 G H ∧ ArR G v q ∧ E.rt q ∧ ∃ σ δ, RE H0 G H σ δ ∧ E.rs δ
  bk := fun σ H => ∃ G δ, Gr G0 H0 G H ∧ RE H0 G H σ δ ∧ E.bk δ
  ct := fun σ H => ∃ G δ, Gr G0 H0 G H ∧ RE H0 G H σ δ ∧ E.ct δ
structure SD1 (X : Cx) (st : Stmt) (δ : List Sl) (E : DE) : Prop where
  run : ∀ (pins : List (Addr × Obj)) (s : Shared) (σ : L2.St) (G0 H0 G H : Hp), Inv X pins σ H s → Gr G0 H0 G H → RE H0 G H σ δ → wpAny (model X.prog X.w) X.A (exec st X.env) (SP X pins (EndP G0 H0 E)) X.xe s
structure SD (X : Cx) (st : List Stmt) (δ : List Sl) (E : DE) : Prop where
  run : ∀ (pins : List (Addr × Obj)) (s : Shared) (σ : L2.St) (G0 H0 G H : Hp), Inv X pins σ H s → Gr G0 H0 G H → RE H0 G H σ δ → wpAny (model X.prog X.w) X.A (execs st X.env) (SP X pins (EndP G0 H0 E)) X.xe s
/-- the reading of a part, whatever its data -/
def uE (X : Cx) (e : Expr) : TE := fun σ H Q => ∃ δ r H0 G, PD X e δ r ∧ Same G H ∧ RE H0 G H σ δ ∧ ∀ v H' G', Gr G H G' H' → ArR G' v r → Q v H'
def uT (X : Cx) (e : Expr) : TT := fun σ H Q => ∃ δ r H0 G, PTD X e δ r ∧ Same G H ∧ RE H0 G H σ δ ∧ ∀ H' G', Gr G H G' H' → Q r H'
def imps (X : Cx) (G0 H0 : Hp) (E : DE) (D : Ends) : Prop := (∀ σ H, (EndP G0 H0 E).nx σ H → D.nx σ H) ∧ (∀ v H, (EndP G0 H0 E).rt v H → D.rt v H) ∧ (∀ σ H, (EndP G0 H0 E).bk σ H → D.bk σ H) ∧ ∀ σ H, (EndP G0 H0 E).ct σ H → D.ct σ H
def uS (X : Cx) (st : List Stmt) : TS := fun D σ H => ∃ δ E G0 H0 G, SD X st δ E ∧ Gr G0 H0 G H ∧ RE H0 G H σ δ ∧ imps X G0 H0 E D
def uS1 (X : Cx) (st : Stmt) : TS := fun D σ H => ∃ δ E G0 H0 G, SD1 X st δ E ∧ Gr G0 H0 G H ∧ RE H0 G H σ δ ∧ imps X G0 H0 E D

section
variable {X : Cx} {e a b c : Expr} {es : List Expr} {δ δ' : List Sl} {r : Ar} {pos : Pos} {E : DE} {st : Stmt} {sts : List Stmt}
theorem pe_u : PE X e (uE X e) := ⟨fun pins s σ H Q I ⟨δ, r, H0, G, h, gs, re, k⟩ => h.pe.run pins s σ H Q I (.in gs re k)⟩
theorem pt_u : PT X e (uT X e) := ⟨fun pins s σ H Q I ⟨δ, r, H0, G, h, gs, re, k⟩ => h.pt.run pins s σ H Q I (.in gs re k)⟩
theorem sp_imp {pins : List (Addr × Obj)} {G0 H0 : Hp} {D : Ends} {f : Flow} {s' : Shared} (m : imps X G0 H0 E D) (h : SP X pins (EndP G0 H0 E) f s') : SP X pins D f s' := by
  cases f with
  | next => obtain ⟨σ', H', I, q⟩ := h; exact ⟨σ', H', I, m.1 _ _ q⟩
  | ret u => obtain ⟨v, σ', H', I, rv, q⟩ := h; exact ⟨v, σ', H', I, rv, m.2.1 _ _ q⟩
  | brk => obtain ⟨σ', H', I, q⟩ := h; exact ⟨σ', H', I, m.2.2.1 _ _ q⟩
  | cont => obtain ⟨σ', H', I, q⟩ := h; exact ⟨σ', H', I, m.2.2.2 _ _ q⟩
theorem pss_u : PSs X sts (uS X sts) := ⟨fun pins s σ H D I ⟨δ, E, G0, H0, G, h, g, re, m⟩ => thn (h.run pins s σ G0 H0 G H I g re) fun f s' q => sp_imp m q⟩
theorem ps_u : PS X st (uS1 X st) := ⟨fun pins s σ H D I ⟨δ, E, G0, H0, G, h, g, re, m⟩ => thn (h.run pins s σ G0 H0 G H I g re) fun f s' q => sp_imp m q⟩
theorem SD1.of {t : TS} (h : PS X st t) (k : ∀ (σ : L2.St) (G0 H0 G H : Hp), Gr G0 H0 G H → RE H0 G H σ δ → t (EndP G0 H0 E) σ H) : SD1 X st δ E := ⟨fun pins s σ G0 H0 G H I g re => h.run pins s σ H _ I (k σ G0 H0 G H g re)⟩
theorem SD.of {t : TS} (h : PSs X sts t) (k : ∀ (σ : L2.St) (G0 H0 G H : Hp), Gr G0 H0 G H → RE H0 G H σ δ → t (EndP G0 H0 E) σ H) : SD X sts δ E := ⟨fun pins s σ G0 H0 G H I g re => h.run pins s σ H _ I (k σ G0 H0 G H g re)⟩
theorem imps.id {G0 H0 : Hp} : imps X G0 H0 E (EndP G0 H0 E) := ⟨fun _ _ h => h, fun _ _ h => h, fun _ _ h => h, fun _ _ h => h⟩
/-- a weaker end -/
theorem SD.imp {E' : DE} (h : SD X sts δ E) (h1 : ∀ d, E.nx d → E'.nx d) (h2 : ∀ q, E.rt q → E'.rt q) (h5 : ∀ d, E.rs d → E'.rs d) (h3 : ∀ d, E.bk d → E'.bk d) (h4 : ∀ d, E.ct d → E'.ct d) : SD X sts δ E' :=
  ⟨fun pins s σ G0 H0 G H I g re => thn (h.run pins s σ G0 H0 G H I g re) fun f s' q => sp_imp ⟨fun σ H ⟨G, d, a, b, c⟩ => ⟨G, d, a, b, h1 d c⟩, fun v H ⟨G, d, a, b, c, σ', δ', r, z⟩ => ⟨G, d, a, b, h2 d c, σ', δ', r, h5 δ' z⟩, fun σ H ⟨G, d, a, b, c⟩ => ⟨G, d, a, b, h3 d c⟩, fun σ H ⟨G, d, a, b, c⟩ => ⟨G, d, a, b, h4 d c⟩⟩ q⟩

theorem sd_nil (h : E.nx δ) : SD X [] δ E := .of pss_nil fun σ G0 H0 G H g re => ⟨G, δ, g, re, h⟩
theorem sd_cons {st : Stmt} {rest : List Stmt} (h : SD1 X st δ { E with nx := fun d => SD X rest d E }) : SD X (st :: rest) δ E :=
  .of (pss_cons ps_u pss_u) fun σ G0 H0 G H g re => ⟨δ, _, G0, H0, G, h, g, re, fun σ' H' ⟨G', d, g', re', q⟩ => ⟨d, E, G0, H0, G', q, g', re', imps.id⟩, fun _ _ q => q, fun _ _ q => q, fun _ _ q => q⟩
/-- the last statement -/
theorem sd_one (h : SD1 X st δ E) : SD X [st] δ E := .of (pss_one ps_u) fun σ G0 H0 G H g re => ⟨δ, _, G0, H0, G, h, g, re, imps.id⟩
theorem sd_pass (h : E.nx δ) : SD1 X (.Pass pos) δ E := .of ps_pass fun σ G0 H0 G H g re => ⟨G, δ, g, re, h⟩
theorem sd_ret {e : Expr} (h : PD X e δ r) (hr : E.rt r) (hs : E.rs δ := by exact True.intro) : SD1 X (.Return (some e) pos) δ E := .of (ps_ret h.pe) fun σ G0 H0 G H g re => .in g.s re fun v H1 G1 g1 a1 => ⟨G1, r, g.trans g1, a1, hr, σ, δ, re.grow g1, hs⟩
theorem sd_retn (hr : E.rt (.d .none)) (hs : E.rs δ := by exact True.intro) : SD1 X (.Return none pos) δ E := .of ps_retN fun σ G0 H0 G H g re => ⟨G, .d .none, g, Dq.non, hr, σ, δ, re, hs⟩
theorem sd_expr {e : Expr} (h : PD X e δ r) (hn : E.nx δ) (hs : swapsWith e none pos.line X.env = pure false := by rfl) : SD1 X (.Expr e pos) δ E :=
  .of (ps_expr h.pe hs) fun σ G0 H0 G H g re => .in g.s re fun v H1 G1 g1 a1 => ⟨G1, δ, g.trans g1, re.grow g1, hn⟩
theorem sd_if {c : Expr} {q : Bool} {th el : List Stmt} (h : PTD X c δ q) (ht : q = true → SD X th δ E) (he : q = false → SD X el δ E) : SD1 X (.If c th el pos) δ E := by
  refine .of (ps_if h.pt pss_u pss_u) fun σ G0 H0 G H g re => .in g.s re fun H1 G1 g1 => ?_
  cases q with
  | true => exact iteT ⟨δ, E, G0, H0, G1, ht rfl, g.trans g1, re.grow g1, imps.id⟩
  | false => exact iteF ⟨δ, E, G0, H0, G1, he rfl, g.trans g1, re.grow g1, imps.id⟩
/-- a try whose body raises nothing -/
theorem sd_try {h0 : ExceptHandler} {hs : List ExceptHandler} (h : SD X.nox sts δ E) : SD1 X (.Try sts (h0 :: hs) [] [] pos) δ E := .of (ps_try_thru0 pss_u) fun σ G0 H0 G H g re => ⟨δ, E, G0, H0, G, h, g, re, imps.id⟩

theorem sd_frz (i : Nat) {ds : List D} (hi : δ[i]? = some (.ow (oLst ds))) (h : SD X sts (δ.set i (.va (.d (.list ds)))) E) (ng : noGp δ = true := by rfl) : SD X sts δ E := by
  refine ⟨fun pins s σ G0 H0 G H I g re => ?_⟩
  obtain ⟨p, ob, e1, e2, e3, e4, vs, rfl, e5⟩ := re.ow hi
  exact h.run pins s σ G0 H0 _ H I (g.freeze e4 e3 e2) (re.frz i hi e1 e2 e3 (dp_newl e5 e3) ng)
theorem sd_drop (i : Nat) (h : SD X sts (δ.set i .no) E) : SD X sts δ E := ⟨fun pins s σ G0 H0 G H I g re => h.run pins s σ G0 H0 G H I g (re.drop i)⟩

/-- two frames differ at the slots js alone -/
def Agr (js : List Nat) (σ σ' : L2.St) : Prop := σ'.length = σ.length ∧ ∀ j, j ∉ js → σ'[j]? = σ[j]?
theorem Agr.refl {js : List Nat} {σ : L2.St} : Agr js σ σ := ⟨rfl, fun _ _ => rfl⟩
theorem Agr.comp {js ks : List Nat} {σ σ1 σ2 : L2.St} (a : Agr js σ σ1) (b : Agr ks σ1 σ2) : Agr (js ++ ks) σ σ2 := ⟨b.1.trans a.1, fun j hj => (b.2 j fun z => hj (List.mem_append_right _ z)).trans (a.2 j fun z => hj (List.mem_append_left _ z))⟩
theorem Agr.wipe {js vs : List Nat} {σ σ' : L2.St} (a : Agr js σ σ') (h : ∀ j ∈ js, j ∈ vs) : L2.wipe σ' vs = L2.wipe σ vs := by
  have e : ∀ (τ : L2.St) (j : Nat), j ∈ vs → j < τ.length → (L2.wipe τ vs)[j]? = some none := by
    intro τ j
    clear h a
    induction vs with
    | nil => intro z; cases z
    | cons v vs ih =>
      intro z hj
      show ((L2.wipe τ vs).set v none)[j]? = some none
      by_cases y : v = j
      · subst y
        exact List.getElem?_set_self (by rw [L2.wipe_length]; exact hj)
      · rw [List.getElem?_set_ne y]
        exact ih ((List.mem_cons.mp z).resolve_left fun w => y w.symm) hj
  apply List.ext_getElem?
  intro j
  by_cases hj : j ∈ vs
  · by_cases hl : j < σ.length
    · rw [e σ' j hj (by rw [a.1]; exact hl), e σ j hj hl]
    · rw [List.getElem?_eq_none (by rw [L2.wipe_length, a.1]; omega), List.getElem?_eq_none (by rw [L2.wipe_length]; omega)]
  · rw [L2.wipe_out hj, L2.wipe_out hj]
    exact a.2 j fun z => hj (h j z)
structure GD (X : Cx) (tg : Expr) (q : Ar) (δ δ' : List Sl) (js : List Nat) : Prop where
  run : ∀ (pins : List (Addr × Obj)) (s : Shared) (σ : L2.St) (H0 G H : Hp) (v : V) (u : Value), Inv X pins σ H s → Same G H → RE H0 G H σ δ → RelV v u → ArR G v q →
    wpAny (model X.prog X.w) X.A (assign tg X.env u) (fun _ s' => ∃ σ' H' G', Inv X pins σ' H' s' ∧ Gr G H G' H' ∧ RE H0 G' H' σ' δ' ∧ Agr js σ σ') X.xe s
structure GDs (X : Cx) (tgs : List Expr) (ds : List D) (δ δ' : List Sl) (js : List Nat) : Prop where
  run : ∀ (pins : List (Addr × Obj)) (s : Shared) (σ : L2.St) (H0 G H : Hp) (vs : List V) (us : List Value), Inv X pins σ H s → Same G H → RE H0 G H σ δ → Vals vs us → DqAll G vs ds →
    wpAny (model X.prog X.w) X.A (assignInOrder ((assignEach tgs X.env).map (·.2)) us) (fun _ s' => ∃ σ' H' G', Inv X pins σ' H' s' ∧ Gr G H G' H' ∧ RE H0 G' H' σ' δ' ∧ Agr js σ σ') X.xe s
def uG (X : Cx) (tg : Expr) : TG := fun v σ H Q => ∃ q δ δ' js H0 G, GD X tg q δ δ' js ∧ Same G H ∧ RE H0 G H σ δ ∧ ArR G v q ∧ ∀ σ' H' G', Gr G H G' H' → RE H0 G' H' σ' δ' → Agr js σ σ' → Q σ' H'
def uGs (X : Cx) (tgs : List Expr) : TGs := fun vs σ H Q => ∃ ds δ δ' js H0 G, GDs X tgs ds δ δ' js ∧ Same G H ∧ RE H0 G H σ δ ∧ DqAll G vs ds ∧ ∀ σ' H' G', Gr G H G' H' → RE H0 G' H' σ' δ' → Agr js σ σ' → Q σ' H'
theorem pg_u {tg : Expr} : PG X tg (uG X tg) := ⟨fun pins s σ H v u Q I rv ⟨q, δ, δ', js, H0, G, h, gs, re, ar, k⟩ =>
  thn (h.run pins s σ H0 G H v u I gs re rv ar) fun _ s' ⟨σ', H', G', I', g, re', ag⟩ => ⟨σ', H', I', k σ' H' G' g re' ag⟩⟩
theorem pgs_u {tgs : List Expr} : PGs X tgs (uGs X tgs) := ⟨fun pins s σ H vs us Q I rv ⟨ds, δ, δ', js, H0, G, h, gs, re, ar, k⟩ =>
  thn (h.run pins s σ H0 G H vs us I gs re rv ar) fun _ s' ⟨σ', H', G', I', g, re', ag⟩ => ⟨σ', H', I', k σ' H' G' g re' ag⟩⟩
theorem GD.of {tg : Expr} {q : Ar} {t : TG} {js : List Nat} (h : PG X tg t) (k : ∀ (σ : L2.St) (H0 G H : Hp) (v : V) (Q : L2.St → Hp → Prop), Same G H → RE H0 G H σ δ → ArR G v q → (∀ σ' H' G', Gr G H G' H' → RE H0 G' H' σ' δ' → Agr js σ σ' → Q σ' H') → t v σ H Q) : GD X tg q δ δ' js :=
  ⟨fun pins s σ H0 G H v u I gs re rv ar => thn (h.run pins s σ H v u (fun σ' H' => ∃ G', Gr G H G' H' ∧ RE H0 G' H' σ' δ' ∧ Agr js σ σ') I rv (k σ H0 G H v _ gs re ar fun σ' H' G' g re' ag => ⟨G', g, re', ag⟩)) fun _ s' ⟨σ', H', I', G', g, re', ag⟩ => ⟨σ', H', G', I', g, re', ag⟩⟩
theorem gd_name (i : Nat) {x : Str} {q : Ar} (hN : X.N.Nodup) (hi : X.N[i]? = some x := by rfl) (hx : Loc X.env.scope x := by first | exact Or.inl rfl | exact Or.inr rfl) (hf : X.fn x = true ∨ X.env.scope.names.lookup x = some .local := by first | exact .inl rfl | exact .inr rfl) :
    GD X (.Name x pos) q δ (δ.set i (.va q)) [i] := .of (pg_name hN hi hx hf) fun σ H0 G H v Q gs re ar k => k _ H G (.refl gs) (re.set i ar) ⟨by simp, fun j hj => List.getElem?_set_ne fun z => hj (by simp [z])⟩
theorem gds_nil : GDs X [] [] δ δ [] := ⟨fun pins s σ H0 G H vs us I gs re rv ar => by
  cases ar
  cases rv
  exact assignInOrder_nil ⟨σ, H, G, I, .refl gs, re, .refl⟩⟩
theorem gds_cons {tg : Expr} {tgs : List Expr} {d : D} {ds : List D} {δ1 : List Sl} {js ks : List Nat} (h1 : GD X tg (.d d) δ δ1 js) (h2 : GDs X tgs ds δ1 δ' ks)
    (hs : (assignEach (tg :: tgs) X.env).map (·.2) = assign tg X.env :: (assignEach tgs X.env).map (·.2) := by rfl) : GDs X (tg :: tgs) (d :: ds) δ δ' (js ++ ks) := ⟨fun pins s σ H0 G H vs us I gs re rv ar => by
  cases ar with
  | cons a1 a2 =>
    cases rv with
    | cons r1 r2 =>
      rw [hs]
      refine assignInOrder_cons (thn (h1.run pins s σ H0 G H _ _ I gs re r1 a1) fun _ s1 ⟨σ1, H1, G1, I1, g1, re1, ag1⟩ => ?_)
      exact thn (h2.run pins s1 σ1 H0 G1 H1 _ _ I1 g1.s re1 r2 (dpa_up g1.g a2)) fun _ s2 ⟨σ2, H2, G2, I2, g2, re2, ag2⟩ => ⟨σ2, H2, G2, I2, g1.trans g2, re2, ag1.comp ag2⟩⟩
theorem gd_tup {tgs : List Expr} {k : Nat} {ds : List D} {js : List Nat} (hc : X.calm = true) (h : GDs X tgs ds δ δ' js) (hn : (assignEach tgs X.env).length = ds.length := by rfl) (hst : (assignEach tgs X.env).findIdx? (·.1) = none := by rfl) : GD X (.Tuple tgs k pos) (.d (.tuple ds)) δ δ' js :=
  .of (pg_tup hc pgs_u hn hst) fun σ H0 G H v Q gs re ar k => by
    cases ar with
    | @tup p xs _ h1 h2 => exact ⟨p, xs, rfl, SqT.of (gs _ _ h1), dpa_len h2, ds, δ, δ', js, H0, G, h, gs, re, h2, k⟩

theorem sd_set (i : Nat) {x : Str} {e : Expr} {pos' : Pos} (hN : X.N.Nodup) (h : PD X e δ r) (hn : E.nx (δ.set i (.va r))) (hi : X.N[i]? = some x := by rfl) (hx : Loc X.env.scope x := by first | exact Or.inl rfl | exact Or.inr rfl)
    (hs : swapsWith e (some (.Name x pos')) pos.line X.env = pure false := by rfl) (hf : X.fn x = true ∨ X.env.scope.names.lookup x = some .local := by first | exact .inl rfl | exact .inr rfl) : SD1 X (.Assign [.Name x pos'] e pos) δ E :=
  .of (ps_set hN hi hx h.pe hs hf) fun σ G0 H0 G H g re => .in g.s re fun v H1 G1 g1 a1 => ⟨G1, _, g.trans g1, (re.grow g1).set i a1, hn⟩
theorem sd_asg {tg e : Expr} {js : List Nat} (h : PD X e δ r) (hg : GD X tg r δ δ' js) (hn : E.nx δ') (hs : swapsWithSole [tg] e pos.line X.env = pure false := by rfl) (hw : swappedStores [tg] e X.env = pure none := by rfl)
    (h1 : (assignEach [tg] X.env).map (·.2) = [assign tg X.env] := by rfl) : SD1 X (.Assign [tg] e pos) δ E :=
  .of (ps_asg h.pe pg_u hs hw h1) fun σ G0 H0 G H g re => .in g.s re fun v H1 G1 g1 a1 => ⟨r, δ, δ', js, H0, G1, hg, g1.s, re.grow g1, a1, fun σ' H' G' g' re' _ => ⟨G', δ', (g.trans g1).trans g', re', hn⟩⟩
/-- a new list that nothing else holds -/
structure PF (X : Cx) (e : Expr) (δ : List Sl) (ds : List D) : Prop where
  run : ∀ (pins : List (Addr × Obj)) (s : Shared) (σ : L2.St) (H0 G H : Hp), Inv X pins σ H s → Same G H → RE H0 G H σ δ →
    wpAny (model X.prog X.w) X.A (eval e X.env) (fun u s' => ∃ p vs H' G', Inv X pins σ H' s' ∧ u = .ref p ∧ Gr G H G' H' ∧ H p = none ∧ G' p = none ∧ H' p = some (.lst vs) ∧ DqAll G' vs ds) X.xe s
def tPF (δ : List Sl) (ds : List D) : TE := fun σ H Q => ∃ H0 G, Same G H ∧ RE H0 G H σ δ ∧ ∀ p vs H' G', Gr G H G' H' → H p = none → G' p = none → H' p = some (.lst vs) → DqAll G' vs ds → Q (.ref p) H'
theorem PF.pe {ds : List D} (h : PF X e δ ds) : PE X e (tPF δ ds) := ⟨fun pins s σ H Q I ⟨H0, G, gs, re, k⟩ => thn (h.run pins s σ H0 G H I gs re) fun u s' ⟨p, vs, H', G', I', eu, g, h1, h2, h3, h4⟩ => ⟨.ref p, H', I', eu, k p vs H' G' g h1 h2 h3 h4⟩⟩
theorem PF.of {ds : List D} {t : TE} (h : PE X e t) (k : ∀ (σ : L2.St) (H0 G H : Hp) (Q : VK), Same G H → RE H0 G H σ δ → (∀ p vs H' G', Gr G H G' H' → H p = none → G' p = none → H' p = some (.lst vs) → DqAll G' vs ds → Q (.ref p) H') → t σ H Q) : PF X e δ ds :=
  ⟨fun pins s σ H0 G H I gs re => thn (h.run pins s σ H (fun v H' => ∃ p vs G', v = .ref p ∧ Gr G H G' H' ∧ H p = none ∧ G' p = none ∧ H' p = some (.lst vs) ∧ DqAll G' vs ds) I (k σ H0 G H _ gs re fun p vs H' G' g h1 h2 h3 h4 => ⟨p, vs, G', rfl, g, h1, h2, h3, h4⟩))
    fun u s' ⟨v, H', I', rv, p, vs, G', ev, g, h1, h2, h3, h4⟩ => by subst ev; exact ⟨p, vs, H', G', I', rv, g, h1, h2, h3, h4⟩⟩
theorem PF.pd {ds : List D} (h : PF X e δ ds) : PD X e δ (.d (.list ds)) := .of h.pe fun σ H0 G H Q gs re k => ⟨H0, G, gs, re, fun p vs H' G' g h1 h2 h3 h4 => k _ H' _ (g.freeze h1 h2 h3) (dp_newl h4 h2)⟩
theorem pf_lst {ds : List D} (h : PDs X es δ ds) (hl : Nat.ble ds.length 100000 = true := by rfl) : PF X (.List es pos) δ ds := by
  obtain ⟨t, ht, kt⟩ := h
  refine .of (pe_lst ht) fun σ H0 G H Q gs re k => kt σ H0 G H _ gs re fun vs H1 G1 g1 a1 => ⟨by rw [dpa_len a1]; exact fits hl, fun p hp => ?_⟩
  exact k p vs _ _ (g1.trans (.own g1.s hp)) (g1.h.free hp) (g1.s.free hp) upd_same a1
/-- xs + ys -/
theorem pf_cat {ds ds' : List D} (ha : PD X a δ (.d (.list ds))) (hb : PD X b δ (.d (.list ds'))) (hl : ds.length + ds'.length ≤ 1000000) : PF X (.BinOp a .Add b pos) δ (ds ++ ds') :=
  .of (pe_op op_cat ha.pe hb.pe) fun σ H0 G H Q gs re k => .in gs re fun x H1 G1 g1 a1 => .in g1.s (re.grow g1) fun y H2 G2 g2 a2 => by
    cases a1 with
    | @lst p xs _ h1 h2 =>
      cases a2 with
      | @lst q ys _ k1 k2 =>
        refine ⟨p, q, xs, ys, rfl, rfl, g2.h _ _ (g1.s _ _ h1), g2.s _ _ k1, ?_, fun l hl => ?_⟩
        · rw [dpa_len h2, dpa_len k2]
          exact Nat.le_trans hl (by decide)
        · have g12 := g1.trans g2
          exact k l _ _ _ (g12.trans (.own g2.s hl)) (g12.h.free hl) (g2.s.free hl) upd_same (dpa_app (dpa_up g2.g h2) k2)
/-- xs * k -/
theorem pd_rep {ds : List D} {i : Int} (ha : PD X a δ (.d (.list ds))) (hb : PD X b δ (.d (.int i))) (h1 : 0 ≤ i) (h2 : i ≤ 1) (hl : ds.length ≤ 1000000) : PD X (.BinOp a .Mult b pos) δ (.d (.list (if i = 1 then ds else []))) :=
  .of (pe_op op_rep ha.pe hb.pe) fun σ H0 G H Q gs re k => .in gs re fun x H1 G1 g1 a1 => .in g1.s (re.grow g1) fun y H2 G2 g2 a2 => by
    cases a2
    cases a1 with
    | @lst p xs _ h3 h4 =>
      refine ⟨p, i, xs, rfl, rfl, g2.h _ _ (g1.s _ _ h3), by omega, by omega, ?_, fun l hp => ?_⟩
      · rw [dpa_len h4]
        refine Nat.le_trans (Nat.mul_le_mul hl (show i.toNat ≤ 1 by omega)) (by decide)
      · have g12 := g1.trans g2
        refine k _ _ _ (g12.trans (.new g2.s hp)) (dp_newl ?_ (g2.s.free hp))
        by_cases e : i = 1
        · rw [if_pos e, e]
          have z : (List.replicate (1 : Int).toNat xs).flatten = xs := by simp
          rw [z]
          exact dpa_up g2.g h4
        · rw [if_neg e, show i = 0 by omega]
          exact .nil
/-- name = a new list, owned -/
theorem sd_own (i : Nat) {x : Str} {e : Expr} {pos' : Pos} {ds : List D} (hN : X.N.Nodup) (h : PF X e δ ds) (hn : E.nx (δ.set i (.ow (oLst ds)))) (hi : X.N[i]? = some x := by rfl) (hx : Loc X.env.scope x := by first | exact Or.inl rfl | exact Or.inr rfl)
    (hs : swapsWith e (some (.Name x pos')) pos.line X.env = pure false := by rfl) (hf : X.fn x = true ∨ X.env.scope.names.lookup x = some .local := by first | exact .inl rfl | exact .inr rfl) : SD1 X (.Assign [.Name x pos'] e pos) δ E :=
  .of (ps_set hN hi hx h.pe hs hf) fun σ G0 H0 G H g re => ⟨H0, G, g.s, re, fun p vs H1 G1 g1 h1 h2 h3 h4 => ⟨G1, _, g.trans g1, (re.grow g1).setOw (O := oLst ds) i h3 h2 (g.h.free h1) ⟨vs, rfl, h4⟩ (fun j O' nj ej es => by
    obtain ⟨q, ob, e1, e2, _⟩ := re.ow ej
    rw [e1] at es
    cases es
    rw [h1] at e2
    cases e2), hn⟩⟩
/-- name.append(e), the name's list owned -/
theorem sd_app (i : Nat) {x : Str} {e : Expr} {ds : List D} {d : D} {p1 p2 p3 : Pos} (hi : δ[i]? = some (.ow (oLst ds))) (h : PD X e δ (.d d)) (hl : ds.length < 1000000) (hn : E.nx (δ.set i (.ow (oLst (ds ++ [d])))))
    (hps : ∀ t, PE X e t → PS X (.Expr (.Call (.Attribute (.Name x p1) "append" p2) [e] [] p3) pos) (tDrop (tBM X.K "list" rAppend (tVar i) (tCons t tNil)))) (ng : noGp δ = true := by rfl) : SD1 X (.Expr (.Call (.Attribute (.Name x p1) "append" p2) [e] [] p3) pos) δ E := by
  refine .of (hps _ h.pe) fun σ G0 H0 G H g re => ?_
  obtain ⟨p, ob, e1, e2, e3, e4, vs, rfl, e5⟩ := re.ow hi
  refine ⟨.ref p, e1, .inl ⟨rfl, _, SqL.of e2⟩, .in g.s re fun v H1 G1 g1 a1 => ?_⟩
  obtain ⟨p', ob', f1, f2, f3, f4, us, rfl, f5⟩ := (re.grow g1).ow hi
  rw [e1] at f1
  cases f1
  have hz : us.length < sizeLine := by
    rw [dpa_len f5]
    exact Nat.lt_of_lt_of_le hl (by decide)
  exact ⟨p, us, v, rfl, rfl, f2, hz, G1, _, (g.trans g1).mut f4 f3, (re.grow g1).mutOw (O' := oLst (ds ++ [d])) i hi e1 f3 f4 ⟨_, rfl, dpa_app f5 (.cons a1 .nil)⟩ ng, hn⟩
end
end Fw
set_option maxHeartbeats 2000000
namespace Fw
open PySem PySem.Spec PyProof.Rows L2

section
variable {X : Cx} {e a b c : Expr} {es : List Expr} {δ δ' : List Sl} {r : Ar} {pos : Pos} {E : DE} {st : Stmt} {sts : List Stmt}
def iSeqB (K : PySem.W.Frag) (tl : TE) : TI := fun σ H R => tl σ H fun x H1 => ∃ p xs, x = .ref p ∧ ((H1 p = some (.lst xs) ∧ (xs.length ≤ sizeLine → R (Itl K p) H1)) ∨ (H1 p = some (.tup xs) ∧ (xs.length ≤ sizeLine → R (Itt K p) H1)))
theorem pi_seqB {tg l : Expr} {tl : TE} (hl : PE X l tl) : PI X tg l (iSeqB X.K tl) := by
  refine ⟨fun pins s σ H R I h => thn (hl.run pins s σ H _ I h) fun v s1 hv => ?_⟩
  obtain ⟨x, H1, I1, rx, p, xs, rfl, hq⟩ := hv
  obtain rfl : v = Value.ref p := rx
  have fin : ∀ {J : It} {tn : Nat → Heap → Prop} {o : Obj}, Turn X.prog X.w X.K tg J [s1.heap.objs.size] s1.heap.objs.size tn → tn 0 (s1.heap.push o) → R J H1 →
      PIE X pins σ tg R (.ref s1.heap.objs.size) { s1 with heap := s1.heap.push o } := fun {J tn o} T t0 q => by
    refine ⟨_, _, tn, J, H1, rfl, I1.kept (t' := s1.toks) fun b u e => Heap.get?_push_of_some _ e, T, t0, fun b hb => ?_, q⟩
    obtain rfl : b = s1.heap.objs.size := by simpa using hb
    exact I1.fpOk (Nat.le_refl _) (I1.hok.fresh (Nat.le_refl _))
  rcases hq with ⟨hp, q⟩ | ⟨hp, q⟩
  · obtain ⟨its, rv, pl, hz⟩ := I1.list (SqL.of hp)
    exact wpAny_pyIter_list pl.isList (fin (turn_list p _) ⟨_, Heap.get?_push_size _ rfl, rfl, rfl⟩ (q hz))
  · obtain ⟨its, rv, pt, hz⟩ := I1.tuple (SqT.of hp)
    exact wpAny_pyIter_tuple (show s1.heap.IsTuple p its.toArray from pt) (fin (turn_tuple p _) ⟨_, Heap.get?_push_size _ rfl, rfl, rfl⟩ (q hz))

/-- for tg in e: over a list or a tuple of data; Iv by the turn and the slots -/
theorem sd_for {tg it : Expr} {body : List Stmt} {d : D} {xs : List D} (Iv : Nat → List Sl → Prop) (hi : PD X it δ (.d d)) (hx : seqD d = some xs) (h0 : Iv 0 δ)
    (hs : ∀ (i : Nat) (x : D) (δ1 : List Sl), xs[i]? = some x → Iv i δ1 → ∃ δ2 js, GD X tg (.d x) δ1 δ2 js ∧ SD X body δ2 { nx := Iv (i + 1), rt := E.rt, rs := E.rs, bk := E.nx, ct := Iv (i + 1) }) (hd : ∀ δ1, Iv xs.length δ1 → E.nx δ1)
    (hp : PassesOwn (model X.prog X.w) X.A X.env X.xe) (hc : X.calm = true) (hf : ∀ y, foldedSetIterable it X.env y = pure y := by intro _; rfl) : SD1 X (.For tg it body [] pos) δ E := by
  refine .of (ps_for hp hc (pi_seqB hi.pe) pg_u pss_u hf) fun σ G0 H0 G H g re => .in g.s re fun v H1 G1 g1 a1 => ?_
  obtain ⟨p, vs, rfl, hpv, hv⟩ := seq_at a1 hx
  have hlen := dpa_len hv
  refine ⟨p, vs, rfl, ?_⟩
  have stay : ∀ {i : Nat} {σ2 : L2.St} {H2 : Hp}, (∃ G2 δ2, Gr G0 H0 G2 H2 ∧ Same G1 G2 ∧ RE H0 G2 H2 σ2 δ2 ∧ Iv i δ2) → ∀ o, G1 p = some o → H2 p = some o := fun ⟨G2, _, g2, s2, _⟩ o h => g2.s _ _ (s2 _ _ h)
  have turn : ∀ i x σ2 H2, vs[i]? = some x → (∃ G2 δ2, Gr G0 H0 G2 H2 ∧ Same G1 G2 ∧ RE H0 G2 H2 σ2 δ2 ∧ Iv i δ2) →
      uG X tg x σ2 H2 fun σ3 H3 => uS X body { EndP G0 H0 E with nx := fun σ H => ∃ G δ, Gr G0 H0 G H ∧ Same G1 G ∧ RE H0 G H σ δ ∧ Iv (i + 1) δ, ct := fun σ H => ∃ G δ, Gr G0 H0 G H ∧ Same G1 G ∧ RE H0 G H σ δ ∧ Iv (i + 1) δ, bk := (EndP G0 H0 E).nx } σ3 H3 := by
    rintro i x σ2 H2 ex ⟨G2, δ2, g2, s2, re2, iv⟩
    obtain ⟨y, ey, hy⟩ := dpa_back hv ex
    obtain ⟨δ3, js, hg, hb⟩ := hs i y δ2 ey iv
    refine ⟨.d y, δ2, δ3, js, H0, G2, hg, g2.s, re2, dp_up s2 hy, fun σ3 H3 G3 g3 re3 _ => ?_⟩
    have g03 := g2.trans g3
    refine ⟨δ3, _, G3, H0, G3, hb, .self g03.h g03.s, re3, fun σ4 H4 z => ?_, fun v4 H4 z => ?_, fun σ4 H4 z => ?_, fun σ4 H4 z => ?_⟩
    · obtain ⟨G4, δ4, g4, re4, q4⟩ := z
      exact ⟨G4, δ4, g03.comp0 g4, (s2.trans g3.g).trans g4.g, re4, q4⟩
    · obtain ⟨G4, q, g4, a4, q4⟩ := z
      exact ⟨G4, q, g03.comp0 g4, a4, q4⟩
    · obtain ⟨G4, δ4, g4, re4, q4⟩ := z
      exact ⟨G4, δ4, g03.comp0 g4, re4, q4⟩
    · obtain ⟨G4, δ4, g4, re4, q4⟩ := z
      exact ⟨G4, δ4, g03.comp0 g4, (s2.trans g3.g).trans g4.g, re4, q4⟩
  have start : ∃ G2 δ2, Gr G0 H0 G2 H1 ∧ Same G1 G2 ∧ RE H0 G2 H1 σ δ2 ∧ Iv 0 δ2 := ⟨G1, δ, g.trans g1, .refl _, re.grow g1, h0⟩
  have fin : ∀ σ2 H2, (∃ G2 δ2, Gr G0 H0 G2 H2 ∧ Same G1 G2 ∧ RE H0 G2 H2 σ2 δ2 ∧ Iv vs.length δ2) → (EndP G0 H0 E).nx σ2 H2 := fun σ2 H2 ⟨G2, δ2, g2, _, re2, iv⟩ => ⟨G2, δ2, g2, re2, hd δ2 (by rw [← hlen]; exact iv)⟩
  rcases hpv with hp' | hp'
  · exact .inl ⟨g1.s _ _ hp', fun _ => for_list (xs := vs) (fun i σ2 H2 => ∃ G2 δ2, Gr G0 H0 G2 H2 ∧ Same G1 G2 ∧ RE H0 G2 H2 σ2 δ2 ∧ Iv i δ2) start (fun i σ2 H2 _ z => SqL.of (stay z _ hp')) turn fin⟩
  · exact .inr ⟨g1.s _ _ hp', fun _ => for_tup (xs := vs) (fun i σ2 H2 => ∃ G2 δ2, Gr G0 H0 G2 H2 ∧ Same G1 G2 ∧ RE H0 G2 H2 σ2 δ2 ∧ Iv i δ2) start (fun i σ2 H2 _ z => SqT.of (stay z _ hp')) turn fin⟩
/-- for tg in range(e) -/
theorem sd_range {tg : Expr} {body : List Stmt} {n : Int} {p1 p2 : Pos} (B : Bt X.mg) (Iv : Nat → List Sl → Prop) (hi : PD X e δ (.d (.int n))) (hn : n < 1000000) (hn2 : -1000000 < n) (h0 : Iv 0 δ)
    (hs : ∀ (i : Nat) (δ1 : List Sl), i < n.toNat → Iv i δ1 → ∃ δ2 js, GD X tg (.d (.int (i : Int))) δ1 δ2 js ∧ SD X body δ2 { nx := Iv (i + 1), rt := E.rt, rs := E.rs, bk := E.nx, ct := Iv (i + 1) }) (hd : ∀ δ1, Iv n.toNat δ1 → E.nx δ1)
    (hp : PassesOwn (model X.prog X.w) X.A X.env X.xe) (hc : X.calm = true) (hg : Gl X "range" := by rfl) (hst : starEach [e] X.env = [(false, eval e X.env)] := by rfl)
    (hf : ∀ y, foldedSetIterable (.Call (.Name "range" p1) [e] [] p2) X.env y = pure y := by intro _; rfl) : SD1 X (.For tg (.Call (.Name "range" p1) [e] [] p2) body [] pos) δ E := by
  refine .of (ps_for hp hc (pi_range1 hg B.range (pa_cons hi.pe pa_nil hst) hst) pg_u pss_u hf) fun σ G0 H0 G H g re => .in g.s re fun v H1 G1 g1 a1 => ?_
  cases a1
  refine ⟨n, rfl, by omega, by omega, for_range (n := n.toNat) (fun i σ2 H2 => ∃ G2 δ2, Gr G0 H0 G2 H2 ∧ RE H0 G2 H2 σ2 δ2 ∧ Iv i δ2) ⟨G1, δ, g.trans g1, re.grow g1, h0⟩ ?_ fun σ2 H2 ⟨G2, δ2, g2, re2, iv⟩ => ⟨G2, δ2, g2, re2, hd δ2 iv⟩⟩
  rintro i σ2 H2 hl ⟨G2, δ2, g2, re2, iv⟩
  obtain ⟨δ3, js, hg, hb⟩ := hs i δ2 hl iv
  refine ⟨.d (.int (i : Int)), δ2, δ3, js, H0, G2, hg, g2.s, re2, by rw [Int.zero_add]; exact Dq.int _, fun σ3 H3 G3 g3 re3 _ => ?_⟩
  have g03 := g2.trans g3
  refine ⟨δ3, _, G3, H0, G3, hb, .self g03.h g03.s, re3, fun σ4 H4 z => ?_, fun v4 H4 z => ?_, fun σ4 H4 z => ?_, fun σ4 H4 z => ?_⟩
  · obtain ⟨G4, δ4, g4, re4, q4⟩ := z
    exact ⟨G4, δ4, g03.comp0 g4, re4, q4⟩
  · obtain ⟨G4, q, g4, a4, q4⟩ := z
    exact ⟨G4, q, g03.comp0 g4, a4, q4⟩
  · obtain ⟨G4, δ4, g4, re4, q4⟩ := z
    exact ⟨G4, δ4, g03.comp0 g4, re4, q4⟩
  · obtain ⟨G4, δ4, g4, re4, q4⟩ := z
    exact ⟨G4, δ4, g03.comp0 g4, re4, q4⟩
theorem sd_while {c : Expr} {body : List Stmt} (Iv : List Sl → Prop) (μ : List Sl → Nat) (h0 : Iv δ)
    (hs : ∀ δ1, Iv δ1 → ∃ q, PTD X c δ1 q ∧ (q = true → SD X body δ1 { nx := fun d => Iv d ∧ μ d < μ δ1, rt := E.rt, rs := E.rs, bk := E.nx, ct := fun d => Iv d ∧ μ d < μ δ1 }) ∧ (q = false → E.nx δ1))
    (hp : PassesOwn (model X.prog X.w) X.A X.env X.xe) : SD1 X (.While c body [] pos) δ E := by
  refine .of (ps_while hp pt_u pss_u) fun σ G0 H0 G H g re => ?_
  refine ⟨fun m σ2 H2 => ∃ G2 δ2, Gr G0 H0 G2 H2 ∧ RE H0 G2 H2 σ2 δ2 ∧ Iv δ2 ∧ m = μ δ2, ⟨_, G, δ, g, re, h0, rfl⟩, ?_⟩
  rintro m σ2 H2 ⟨G2, δ2, g2, re2, iv, rfl⟩
  obtain ⟨q, hq, ht, hf⟩ := hs δ2 iv
  refine ⟨δ2, q, H0, G2, hq, g2.s, re2, fun H3 G3 g3 => ?_⟩
  cases q with
  | false => exact iteF ⟨G3, δ2, g2.trans g3, re2.grow g3, hf rfl⟩
  | true =>
    refine iteT ⟨fun σ4 H4 => ∃ G4 δ4, Gr G0 H0 G4 H4 ∧ RE H0 G4 H4 σ4 δ4 ∧ Iv δ4 ∧ μ δ4 < μ δ2, ?_, ?_⟩
    · rintro σ4 H4 ⟨G4, δ4, g4, re4, iv4, lt⟩
      exact ⟨_, lt, G4, δ4, g4, re4, iv4, rfl⟩
    · refine ⟨δ2, _, G0, H0, G3, ht rfl, g2.trans g3, re2.grow g3, fun σ4 H4 z => ?_, fun _ _ z => z, fun _ _ z => z, fun σ4 H4 z => ?_⟩
      · obtain ⟨G4, δ4, g4, re4, q4, q5⟩ := z
        exact ⟨G4, δ4, g4, re4, q4, q5⟩
      · obtain ⟨G4, δ4, g4, re4, q4, q5⟩ := z
        exact ⟨G4, δ4, g4, re4, q4, q5⟩

def startD (N : List Str) (ars : List Ar) : List Sl := ars.map .va ++ List.replicate (N.length - ars.length) .no
theorem re_start {G H : Hp} {N : List Str} {vs : List V} {ars : List Ar} (gs : Same G H) (h : ArAll G vs ars) (hl : ars.length ≤ N.length) : RE H G H (L2.start N vs) (startD N ars) := by
  have el := h.len
  refine ⟨by simp [L2.start, startD, el], fun i s e => ?_, fun i j O O' p e1 => ?_⟩
  · unfold startD at e
    by_cases hi : i < ars.length
    · rw [List.getElem?_append_left (by simpa using hi), List.getElem?_map] at e
      cases q : ars[i]? with
      | none => rw [q] at e; cases e
      | some x =>
        rw [q] at e
        cases e
        obtain ⟨v, e1, e2⟩ := h.get q
        refine ⟨some v, ?_, v, rfl, e2⟩
        unfold L2.start
        rw [List.getElem?_append_left (by simp [el]; exact hi), List.getElem?_map, e1]
        rfl
    · rw [List.getElem?_append_right (by simpa using hi), List.getElem?_replicate] at e
      split at e
      · cases e
        rename_i hlt
        refine ⟨none, ?_, trivial⟩
        unfold L2.start
        rw [List.getElem?_append_right (by simp [el]; omega), List.getElem?_replicate, if_pos (by simp [el] at hlt ⊢; omega)]
      · cases e
  · unfold startD at e1
    by_cases hi : i < ars.length
    · rw [List.getElem?_append_left (by simpa using hi), List.getElem?_map] at e1
      cases q : ars[i]? with
      | none => rw [q] at e1; cases e1
      | some x => rw [q] at e1; cases e1
    · rw [List.getElem?_append_right (by simpa using hi), List.getElem?_replicate] at e1
      split at e1 <;> cases e1
end
/-- the context of a body -/
abbrev Fx (P : Program) (w : World) (K : PySem.W.Frag) (mg : Str → Option Value) (base : Heap) (N : List Str) (qual : Str) (st : Stmt) (f : Addr) (cdv : Value) (A : Around) (outer : List Env) (s : Shared) (H : Hp) (E : XK) : Cx :=
  (cxOf CX0 P w K mg base N qual (defScope st) f cdv A outer s H E).nox
theorem fn_D {P : Program} {w : World} {K : PySem.W.Frag} {mg : Str → Option Value} {base : Heap} {x qual : Str} {st : Stmt} {f : Addr} {fd : FuncData} {N ps : List Str} {k : Nat} {C : List Ar → Ar → Prop} (F : Fun K x qual st f fd) (S : FnScope N ps (defScope st))
    (hlen : ∀ ars q, C ars q → ars.length = ps.length) (hpl : ps.length ≤ N.length)
    (hb : ∀ ars q, C ars q → ∀ (cdv : Value) (A : Around) (outer : List Env) (s : Shared) (H : Hp) (E : XK), Room k (A.deeper (envOfC qual (defScope st) s.heap.objs.size f cdv)) →
      SD (Fx P w K mg base N qual st f cdv A outer s H E) (defBody st) (startD N ars) { nx := fun _ => q = .d .none, rt := fun q' => q' = q }) : FnOk P w K mg base CX0 (k + 1) f fd ps (spD C) := by
  refine F.ok S (fun vs H Q E h => ?_) (fun cdv A outer s H vs Q E hr h => ?_)
  · obtain ⟨G, ars, q, _, a, c, _⟩ := h
    rw [a.len, hlen _ _ c]
  · obtain ⟨G, ars, q, gs, a, c, k⟩ := h
    refine ⟨_, pss_u, startD N ars, _, G, H, G, hb ars q c cdv A outer s H E hr, .refl gs, re_start gs a (by rw [hlen _ _ c]; exact hpl), fun σ' H' z => ?_, fun v H' z => ?_, fun σ' H' z => ?_, fun σ' H' z => ?_⟩
    · obtain ⟨G', δ', g', _, e⟩ := z
      have e' : q = .d .none := e
      subst e'
      exact k .non H' G' g' Dq.non
    · obtain ⟨G', q', g', a', e⟩ := z
      have e' : q' = q := e.1
      subst e'
      exact k v H' G' g' a'
    · obtain ⟨_, _, _, _, e⟩ := z
      exact False.elim e
    · obtain ⟨_, _, _, _, e⟩ := z
      exact False.elim e
end Fw
set_option maxHeartbeats 2000000
namespace Fw
open PySem PySem.Spec PyProof.Rows L2

/-- the block of a comprehension -/
abbrev Bk (X : Cx) (scope : Scope) (s : Shared) (H : Hp) (C : Addr) (cl : List (Str × Addr)) (fp : List Addr) : Cx := X.blk s H scope (compEnvC scope cl C X.env) fp
def GB (X : Cx) (scope : Scope) (tg : Expr) (q : Ar) (δ δ' : List Sl) (js : List Nat) : Prop := ∀ s H C cl fp, GD (Bk X scope s H C cl fp) tg q δ δ' js
def PB (X : Cx) (scope : Scope) (e : Expr) (δ : List Sl) (r : Ar) : Prop := ∀ s H C cl fp, PD (Bk X scope s H C cl fp) e δ r
def TB (X : Cx) (scope : Scope) (e : Expr) (δ : List Sl) (b : Bool) : Prop := ∀ s H C cl fp, PTD (Bk X scope s H C cl fp) e δ b
def uGB (X : Cx) (scope : Scope) (tg : Expr) : TG := fun v σ H Q => ∃ q δ δ' js H0 G, GB X scope tg q δ δ' js ∧ Same G H ∧ RE H0 G H σ δ ∧ ArR G v q ∧ ∀ σ' H' G', Gr G H G' H' → RE H0 G' H' σ' δ' → Agr js σ σ' → Q σ' H'
def uEB (X : Cx) (scope : Scope) (e : Expr) : TE := fun σ H Q => ∃ δ r H0 G, PB X scope e δ r ∧ Same G H ∧ RE H0 G H σ δ ∧ ∀ v H' G', Gr G H G' H' → ArR G' v r → Q v H'
def uTB (X : Cx) (scope : Scope) (e : Expr) : TT := fun σ H Q => ∃ δ r H0 G, TB X scope e δ r ∧ Same G H ∧ RE H0 G H σ δ ∧ ∀ H' G', Gr G H G' H' → Q r H'
def wipeD (δ : List Sl) : List Nat → List Sl
  | [] => δ
  | v :: vs => (wipeD δ vs).set v .no
theorem wipe_at {τ : L2.St} {j : Nat} : ∀ {ws : List Nat}, j ∈ ws → j < τ.length → (L2.wipe τ ws)[j]? = some none
  | [], z, _ => by cases z
  | w :: ws, z, hj => by
    show ((L2.wipe τ ws).set w none)[j]? = some none
    by_cases y : w = j
    · subst y
      exact List.getElem?_set_self (by rw [L2.wipe_length]; exact hj)
    · rw [List.getElem?_set_ne y]
      exact wipe_at ((List.mem_cons.mp z).resolve_left fun w => y w.symm) hj
theorem wipe_twice {σ : L2.St} {vs : List Nat} : L2.wipe (L2.wipe σ vs) vs = L2.wipe σ vs := by
  apply List.ext_getElem?
  intro j
  by_cases hj : j ∈ vs
  · by_cases hl : j < σ.length
    · rw [wipe_at hj (by rw [L2.wipe_length]; exact hl), wipe_at hj hl]
    · rw [List.getElem?_eq_none (by rw [L2.wipe_length, L2.wipe_length]; omega), List.getElem?_eq_none (by rw [L2.wipe_length]; omega)]
  · rw [L2.wipe_out hj]
theorem RE.wipe {H0 G H : Hp} {σ : L2.St} {δ : List Sl} (r : RE H0 G H σ δ) : ∀ vs : List Nat, RE H0 G H (L2.wipe σ vs) (wipeD δ vs)
  | [] => r
  | v :: vs => by
    have q := RE.wipe r vs
    refine ⟨by show ((wipeD δ vs).set v .no).length = ((L2.wipe σ vs).set v none).length; simpa using q.len, fun i s e => ?_, fun i j O O' p e1 e2 e3 e4 => ?_⟩
    · have e : ((wipeD δ vs).set v .no)[i]? = some s := e
      show ∃ o, ((L2.wipe σ vs).set v none)[i]? = some o ∧ _
      by_cases y : v = i
      · subst y
        by_cases hl : v < (wipeD δ vs).length
        · rw [List.getElem?_set_self hl] at e
          cases e
          exact ⟨none, List.getElem?_set_self (by rw [← q.len]; exact hl), trivial⟩
        · rw [List.getElem?_eq_none (by simpa using hl)] at e
          cases e
      · rw [List.getElem?_set_ne y] at e ⊢
        exact q.sl i s e
    · have f : ∀ (m : Nat) (O3 : Op), ((wipeD δ vs).set v .no)[m]? = some (.ow O3) → v ≠ m ∧ (wipeD δ vs)[m]? = some (.ow O3) := fun m O3 z => by
        by_cases y : v = m
        · subst y
          by_cases hl : v < (wipeD δ vs).length
          · rw [List.getElem?_set_self hl] at z; cases z
          · rw [List.getElem?_eq_none (by simpa using hl)] at z; cases z
        · rw [List.getElem?_set_ne y] at z; exact ⟨y, z⟩
      obtain ⟨n1, z1⟩ := f i O e1
      obtain ⟨n2, z2⟩ := f j O' e2
      have e3 : ((L2.wipe σ vs).set v none)[i]? = some (some (.ref p)) := e3
      have e4 : ((L2.wipe σ vs).set v none)[j]? = some (some (.ref p)) := e4
      rw [List.getElem?_set_ne n1] at e3
      rw [List.getElem?_set_ne n2] at e4
      exact q.ap i j O O' p z1 z2 e3 e4

section
variable {T : Type} {X : Cx} {e elt tg it c : Expr} {δ : List Sl} {pos : Pos} {scope : Scope} {own : List (Str × Nat)}
theorem pg_ub (s : Shared) (H : Hp) (C : Addr) (cl : List (Str × Addr)) (fp : List Addr) : PG (Bk X scope s H C cl fp) tg (uGB X scope tg) := ⟨fun pins s1 σ H1 v u Q I rv ⟨q, δ, δ', js, H0, G, h, gs, re, ar, k⟩ =>
  thn ((h s H C cl fp).run pins s1 σ H0 G H1 v u I gs re rv ar) fun _ s' ⟨σ', H', G', I', g, re', ag⟩ => ⟨σ', H', I', k σ' H' G' g re' ag⟩⟩
theorem pe_ub (s : Shared) (H : Hp) (C : Addr) (cl : List (Str × Addr)) (fp : List Addr) : PE (Bk X scope s H C cl fp) e (uEB X scope e) := ⟨fun pins s1 σ H1 Q I ⟨δ, r, H0, G, h, gs, re, k⟩ => (h s H C cl fp).pe.run pins s1 σ H1 Q I (.in gs re k)⟩
theorem pt_ub (s : Shared) (H : Hp) (C : Addr) (cl : List (Str × Addr)) (fp : List Addr) : PT (Bk X scope s H C cl fp) c (uTB X scope c) := ⟨fun pins s1 σ H1 Q I ⟨δ, r, H0, G, h, gs, re, k⟩ => (h s H C cl fp).pt.run pins s1 σ H1 Q I (.in gs re k)⟩
/-- the tests of a clause: none or one -/
def uTs (X : Cx) (scope : Scope) : List Expr → TT
  | [] => tYes
  | c :: _ => uTB X scope c
def TBs (X : Cx) (scope : Scope) (ifs : List Expr) (δ : List Sl) (b : Bool) : Prop := match ifs with
  | [] => b = true
  | c :: _ => TB X scope c δ b
theorem pts_ub (s : Shared) (H : Hp) (C : Addr) (cl : List (Str × Addr)) (fp : List Addr) (ifs : List Expr) (hl : ifs.length ≤ 1) : PTs (Bk X scope s H C cl fp) ifs (uTs X scope ifs) := by
  match ifs, hl with
  | [], _ => exact pts_nil
  | [c], _ => exact pts_one (pt_ub s H C cl fp)
theorem uTs_in {ifs : List Expr} {σ : L2.St} {H0 G H : Hp} {b : Bool} {Q : Bool → Hp → Prop} (h : TBs X scope ifs δ b) (gs : Same G H) (re : RE H0 G H σ δ) (k : ∀ H' G', Gr G H G' H' → Q b H') : uTs X scope ifs σ H Q := by
  match ifs, h with
  | [], h =>
    obtain rfl : b = true := h
    exact k H G (.refl gs)
  | c :: _, h => exact ⟨δ, b, H0, G, h, gs, re, k⟩

/-- a turn's end of a comprehension: the new list at p -/
theorem lc_put {G1 H1 G2 H2 G3 H3 : Hp} {p : Addr} {acc : List V} {y : V} {ds : List D} {d : D} (g : Gr G1 H1 G2 H2) (h1 : H1 p = none) (h2 : G2 p = none) (h3 : H2 p = some (.lst acc)) (hd : DqAll G2 acc ds) (g2 : Gr G2 H2 G3 H3) (hy : Dq G3 y d) :
    H3 p = some (.lst acc) ∧ G3 p = none ∧ Gr G1 H1 G3 (upd H3 p (.lst (acc ++ [y]))) ∧ DqAll G3 (acc ++ [y]) (ds ++ [d]) := by
  have e : G3 p = none := by
    cases q : G3 p with
    | none => rfl
    | some u =>
      rcases g2.f p u q with ⟨u', z⟩ | z
      · rw [h2] at z; cases z
      · rw [h3] at z; cases z
  exact ⟨g2.h _ _ h3, e, (g.trans g2).mut h1 e, dpa_app (dpa_up g2.g hd) (.cons hy .nil)⟩
theorem gone {G2 H2 G3 H3 : Hp} {p : Addr} {o : HO} (h2 : G2 p = none) (h3 : H2 p = some o) (g2 : Gr G2 H2 G3 H3) : G3 p = none := by
  cases q : G3 p with
  | none => rfl
  | some u =>
    rcases g2.f p u q with ⟨u', z⟩ | z
    · rw [h2] at z; cases z
    · rw [h3] at z; cases z
theorem tyes_in {σ : L2.St} {H : Hp} {Q : Bool → Hp → Prop} (h : Q true H) : tYes σ H Q := h
def tell {T : Type} (xs : List T) (p : T → Bool) (f : T → D) : List D := (xs.filter p).map f
theorem tell_all {T : Type} {xs : List T} {f : T → D} : tell xs (fun _ => true) f = xs.map f := by unfold tell; rw [List.filter_eq_self.mpr (fun _ _ => rfl)]
theorem tell_take {T : Type} {xs : List T} {p : T → Bool} {f : T → D} {i : Nat} {x : T} (h : xs[i]? = some x) : tell (xs.take (i + 1)) p f = if p x = true then tell (xs.take i) p f ++ [f x] else tell (xs.take i) p f := by
  unfold tell
  rw [List.take_add_one, h]
  show List.map f (List.filter p (xs.take i ++ [x])) = _
  rw [List.filter_append, List.map_append]
  by_cases q : p x = true
  · rw [if_pos q]; simp [q]
  · rw [if_neg q]; simp [q]
/-- [elt for tg in it if ..], it a list or a tuple of data -/
theorem lc_read {ifs : List Expr} {d : D} {xs : List T} {enc : T → D} {p : T → Bool} {f : T → D} (hx : seqD d = some (xs.map enc))
    (ht : ∀ x ∈ xs, ∃ δ' js, GB X scope tg (.d (enc x)) (wipeD δ (own.map (·.2))) δ' js ∧ (∀ j ∈ js, j ∈ own.map (·.2)) ∧ TBs X scope ifs δ' (p x) ∧ (p x = true → PB X scope elt δ' (.d (f x))))
    (σ : L2.St) (H0 G H : Hp) (Q : VK) (gs : Same G H) (re : RE H0 G H σ δ) (k : ∀ p' vs H' G', Gr G H G' H' → H p' = none → G' p' = none → H' p' = some (.lst vs) → DqAll G' vs (tell xs p f) → Q (.ref p') H') :
    tLc (iSeqB X.K (tPD δ (.d d))) (uGB X scope tg) (uTs X scope ifs) (uEB X scope elt) (own.map (·.2)) σ H Q := by
  refine .in gs re fun v H1 G1 g1 a1 => ?_
  obtain ⟨q, vs, rfl, hq, hv⟩ := seq_at a1 hx
  have hlen : vs.length = xs.length := by rw [dpa_len hv, List.length_map]
  have re1 := re.grow g1
  refine ⟨q, vs, rfl, ?_⟩
  have body : vs.length ≤ sizeLine → ∀ (P : Addr), H1 P = none → ∀ i x H', vs[i]? = some x → (∃ G' acc, Gr G1 H1 G' H' ∧ G' P = none ∧ H' P = some (.lst acc) ∧ DqAll G' acc (tell (xs.take i) p f)) →
      uGB X scope tg x (L2.wipe σ (own.map (·.2))) H' fun σ2 H2 => L2.wipe σ2 (own.map (·.2)) = L2.wipe σ (own.map (·.2)) ∧ uTs X scope ifs σ2 H2 fun b H3 =>
        if b = true then uEB X scope elt σ2 H3 fun y H4 => ∃ acc, H4 P = some (.lst acc) ∧ acc.length < sizeLine ∧ (∃ G' acc', Gr G1 H1 G' (upd H4 P (.lst (acc ++ [y]))) ∧ G' P = none ∧ (upd H4 P (.lst (acc ++ [y]))) P = some (.lst acc') ∧ DqAll G' acc' (tell (xs.take (i + 1)) p f))
        else (∃ G' acc, Gr G1 H1 G' H3 ∧ G' P = none ∧ H3 P = some (.lst acc) ∧ DqAll G' acc (tell (xs.take (i + 1)) p f)) := by
    rintro hz P hP i x H' ex ⟨G', acc, g', h1, h2, h3⟩
    obtain ⟨y0, ey0, hy⟩ := dpa_back hv ex
    rw [List.getElem?_map] at ey0
    obtain ⟨y, ey, rfl⟩ := Option.map_eq_some_iff.mp ey0
    obtain ⟨δ2, js, hg, hj, htt, he⟩ := ht y (List.mem_of_getElem? ey)
    refine ⟨.d (enc y), _, δ2, js, H0, G', hg, g'.s, (re1.grow g').wipe _, dp_up g'.g hy, fun σ2 H2 G2 g2 re2 ag => ⟨?_, ?_⟩⟩
    · rw [ag.wipe hj, wipe_twice]
    · have hP2 := gone h1 h2 g2
      refine uTs_in htt g2.s re2 fun H3 G3 g3 => ?_
      have hP3 := gone hP2 (g2.h _ _ h2) g3
      have g23 := g2.trans g3
      have acclen : acc.length < sizeLine := by
        have e1 := dpa_len h3
        have e2 : (tell (xs.take i) p f).length ≤ i := by
          unfold tell
          rw [List.length_map]
          exact Nat.le_trans (List.length_filter_le _ _) (by rw [List.length_take]; omega)
        have e3 : i < vs.length := (List.getElem?_eq_some_iff.mp ex).1
        omega
      rw [tell_take ey]
      by_cases hp : p y = true
      · rw [if_pos hp, if_pos hp]
        refine ⟨δ2, _, H0, G3, he hp, g3.s, re2.grow g3, fun z H4 G4 g4 a4 => ?_⟩
        obtain ⟨k1, k2, k3, k4⟩ := lc_put g' hP h1 h2 h3 (g23.trans g4) a4
        exact ⟨acc, k1, acclen, G4, _, k3, k2, upd_same, k4⟩
      · rw [if_neg hp, if_neg hp]
        exact ⟨G3, acc, g'.trans g23, hP3, g23.h _ _ h2, dpa_up g23.g h3⟩
  have first : ∀ P, H1 P = none → ∃ G' acc, Gr G1 H1 G' (upd H1 P (.lst [])) ∧ G' P = none ∧ (upd H1 P (.lst [])) P = some (.lst acc) ∧ DqAll G' acc (tell (xs.take 0) p f) := fun P hP =>
    ⟨G1, [], .own g1.s hP, g1.s.free hP, upd_same, by simpa [tell] using DqAll.nil⟩
  have last : ∀ P, H1 P = none → ∀ H', (∃ G' acc, Gr G1 H1 G' H' ∧ G' P = none ∧ H' P = some (.lst acc) ∧ DqAll G' acc (tell (xs.take vs.length) p f)) → Q (.ref P) H' := by
    rintro P hP H' ⟨G', acc, g', h1, h2, h3⟩
    rw [hlen, List.take_length] at h3
    exact k P acc H' G' (g1.trans g') (g1.h.free hP) h1 h2 h3
  rcases hq with hq | hq
  · refine .inl ⟨g1.s _ _ hq, fun hz P hP => ?_⟩
    exact lc_list (K := X.K) (a := q) (xs := vs) (fun i H' => ∃ G' acc, Gr G1 H1 G' H' ∧ G' P = none ∧ H' P = some (.lst acc) ∧ DqAll G' acc (tell (xs.take i) p f)) (first P hP) (fun i H' _ ⟨G', _, g', _⟩ => SqL.of (g'.s _ _ (g'.g _ _ hq))) (body hz P hP) (last P hP)
  · refine .inr ⟨g1.s _ _ hq, fun hz P hP => ?_⟩
    exact lc_tup (K := X.K) (a := q) (xs := vs) (fun i H' => ∃ G' acc, Gr G1 H1 G' H' ∧ G' P = none ∧ H' P = some (.lst acc) ∧ DqAll G' acc (tell (xs.take i) p f)) (first P hP) (fun i H' _ ⟨G', _, g', _⟩ => SqT.of (g'.s _ _ (g'.g _ _ hq))) (body hz P hP) (last P hP)
theorem pf_lc {ifs : List Expr} {d : D} {xs : List T} {enc : T → D} {p : T → Bool} {f : T → D} (hc : X.calm = true) (hN : X.N.Nodup) (hi : PD X it δ (.d d)) (hx : seqD d = some (xs.map enc)) (ok : BlkOk X.N X.env.scope scope own)
    (ht : ∀ x ∈ xs, ∃ δ' js, GB X scope tg (.d (enc x)) (wipeD δ (own.map (·.2))) δ' js ∧ (∀ j ∈ js, j ∈ own.map (·.2)) ∧ TBs X scope ifs δ' (p x) ∧ (p x = true → PB X scope elt δ' (.d (f x))))
    (hl : ifs.length ≤ 1 := by decide) (hs : ∀ y, foldedSetIterable it X.env y = pure y := by intro _; rfl) : PF X (.ListComp elt [⟨tg, it, ifs, 0⟩] scope pos) δ (tell xs p f) :=
  .of (pe_lc (tt := uTs X scope ifs) hc hN (pi_seqB hi.pe) ok (fun s H C cl fp => pg_ub s H C cl fp) (fun s H C cl fp => pts_ub s H C cl fp ifs hl) (fun s H C cl fp => pe_ub s H C cl fp) hs) fun σ H0 G H Q gs re k => lc_read hx ht σ H0 G H Q gs re k
/-- .. without a test -/
theorem pf_lc0 {d : D} {xs : List T} {enc : T → D} {f : T → D} (hc : X.calm = true) (hN : X.N.Nodup) (hi : PD X it δ (.d d)) (hx : seqD d = some (xs.map enc)) (ok : BlkOk X.N X.env.scope scope own)
    (ht : ∀ x ∈ xs, ∃ δ' js, GB X scope tg (.d (enc x)) (wipeD δ (own.map (·.2))) δ' js ∧ (∀ j ∈ js, j ∈ own.map (·.2)) ∧ PB X scope elt δ' (.d (f x)))
    (hs : ∀ y, foldedSetIterable it X.env y = pure y := by intro _; rfl) : PF X (.ListComp elt [⟨tg, it, [], 0⟩] scope pos) δ (xs.map f) := by
  have q := pf_lc (pos := pos) (p := fun _ => true) (ifs := []) hc hN hi hx ok (fun x hx => let ⟨δ', js, h1, h2, h3⟩ := ht x hx; ⟨δ', js, h1, h2, rfl, fun _ => h3⟩) (by decide) hs
  rwa [tell_all] at q
/-- name = [elt for ..] on one line -/
theorem sd_setlc {E : DE} {ifs : List Expr} {d : D} {xs : List T} {enc : T → D} {p : T → Bool} {f : T → D} (i : Nat) {y : Str} {py spos : Pos} (hc : X.calm = true) (hN : X.N.Nodup) (hi : PD X it δ (.d d)) (hx : seqD d = some (xs.map enc)) (ok : BlkOk X.N X.env.scope scope own)
    (ht : ∀ x ∈ xs, ∃ δ' js, GB X scope tg (.d (enc x)) (wipeD δ (own.map (·.2))) δ' js ∧ (∀ j ∈ js, j ∈ own.map (·.2)) ∧ TBs X scope ifs δ' (p x) ∧ (p x = true → PB X scope elt δ' (.d (f x))))
    (hn : E.nx (δ.set i (.va (.d (.list (tell xs p f)))))) (hsw : swapsWith (.ListComp elt [⟨tg, it, ifs, 0⟩] scope pos) (some (.Name y py)) spos.line X.env = pure true)
    (hy : X.N[i]? = some y := by rfl) (hyl : X.env.scope.names.lookup y = some .local := by rfl) (hl : ifs.length ≤ 1 := by decide) (hs : ∀ y, foldedSetIterable it X.env y = pure y := by intro _; rfl) : SD1 X (.Assign [.Name y py] (.ListComp elt [⟨tg, it, ifs, 0⟩] scope pos) spos) δ E :=
  .of (ps_setLc (tt := uTs X scope ifs) hc hN hy hyl hsw (pi_seqB hi.pe) ok (fun s H C cl fp => pg_ub s H C cl fp) (fun s H C cl fp => pts_ub s H C cl fp ifs hl) (fun s H C cl fp => pe_ub s H C cl fp) hs) fun σ G0 H0 G H g re =>
    lc_read hx ht σ H0 G H _ g.s re fun P vs H' G' g' h1 h2 h3 h4 => ⟨_, _, g.trans (g'.freeze h1 h2 h3), (re.grow (g'.freeze h1 h2 h3)).set (x := .d (.list (tell xs p f))) i (dp_newl h4 h2), hn⟩
/-- [elt for x in range(n)] -/
theorem pf_lcr {n : Int} {f : Nat → D} {p1 p2 : Pos} (B : Bt X.mg) (hc : X.calm = true) (hN : X.N.Nodup) (hi : PD X e δ (.d (.int n))) (hn : n < 1000000) (hn2 : -1000000 < n) (ok : BlkOk X.N X.env.scope scope own)
    (ht : ∀ i : Nat, i < n.toNat → ∃ δ' js, GB X scope tg (.d (.int (i : Int))) (wipeD δ (own.map (·.2))) δ' js ∧ (∀ j ∈ js, j ∈ own.map (·.2)) ∧ PB X scope elt δ' (.d (f i)))
    (hg : Gl X "range" := by rfl) (hst : starEach [e] X.env = [(false, eval e X.env)] := by rfl) (hs : ∀ y, foldedSetIterable (.Call (.Name "range" p1) [e] [] p2) X.env y = pure y := by intro _; rfl) :
    PF X (.ListComp elt [⟨tg, .Call (.Name "range" p1) [e] [] p2, [], 0⟩] scope pos) δ ((List.range n.toNat).map f) := by
  refine .of (pe_lc hc hN (pi_range1 hg B.range (pa_cons hi.pe pa_nil hst) hst) ok (fun s H C cl fp => pg_ub s H C cl fp) (fun s H C cl fp => pts_nil) (fun s H C cl fp => pe_ub s H C cl fp) hs) fun σ H0 G H Q gs re k => .in gs re fun v H1 G1 g1 a1 => ?_
  cases a1
  have re1 := re.grow g1
  refine ⟨n, rfl, by omega, by omega, fun P hP => lc_range (n := n.toNat) (fun i H' => ∃ G' acc, Gr G1 H1 G' H' ∧ G' P = none ∧ H' P = some (.lst acc) ∧ DqAll G' acc ((List.range i).map f)) ⟨G1, [], .own g1.s hP, g1.s.free hP, upd_same, by simpa using DqAll.nil⟩ ?_ ?_⟩
  · rintro i H' hlt ⟨G', acc, g', h1, h2, h3⟩
    obtain ⟨δ2, js, hg2, hj, he⟩ := ht i hlt
    refine ⟨.d (.int (i : Int)), _, δ2, js, H0, G', hg2, g'.s, (re1.grow g').wipe _, by rw [Int.zero_add]; exact Dq.int _, fun σ2 H2 G2 g2 re2 ag => ⟨?_, ?_⟩⟩
    · rw [ag.wipe hj, wipe_twice]
    · have hP2 := gone h1 h2 g2
      refine tyes_in (ite2 (fun _ => ?_) (fun z => absurd rfl z))
      refine ⟨δ2, _, H0, G2, he, g2.s, re2, fun z H4 G4 g4 a4 => ?_⟩
      obtain ⟨k1, k2, k3, k4⟩ := lc_put g' hP h1 h2 h3 (g2.trans g4) a4
      have hl := dpa_len h3
      rw [List.length_map, List.length_range] at hl
      have acclen : acc.length < sizeLine := by
        rw [hl, sizeLine_eq]
        omega
      exact ⟨acc, k1, acclen, G4, _, k3, k2, upd_same, by rw [List.range_succ, List.map_append]; exact k4⟩
  · rintro H' ⟨G', acc, g', h1, h2, h3⟩
    exact k P acc H' G' (g1.trans g') (g1.h.free hP) h1 h2 h3
end
end Fw
set_option maxHeartbeats 2000000
namespace Fw
open PySem PySem.Spec PyProof.Rows L2 PySem.W

section
variable {T : Type}
/-- a raw value that stands for data -/
def RawD (G : Hp) (enc : T → D) (u : Value) (t : T) : Prop := ∃ v, RelV v u ∧ Dq G v (enc t)
theorem rawd_each {G : Hp} {enc : T → D} : ∀ {ts : List T} {vs : List V} {us : List Value}, Vals vs us → DqAll G vs (ts.map enc) → EachIs (RawD G enc) us ts
  | [], _, _, r, h => by cases h; cases r; exact .nil
  | _ :: _, _, _, r, h => by
    cases h with
    | cons h1 h2 => cases r with
      | cons r1 r2 => exact .cons ⟨_, r1, h1⟩ (rawd_each r2 h2)
theorem each_rawd {G : Hp} {enc : T → D} : ∀ {ts : List T} {us : List Value}, EachIs (RawD G enc) us ts → ∃ vs, Vals vs us ∧ DqAll G vs (ts.map enc)
  | _, _, .nil => ⟨[], .nil, .nil⟩
  | _, _, .cons ⟨v, h1, h2⟩ t => by
    obtain ⟨vs, h3, h4⟩ := each_rawd t
    exact ⟨v :: vs, .cons h1 h3, .cons h2 h4⟩
def rSortD (K : PySem.W.Frag) (enc : T → D) : List V → Hp → VK → Prop := fun xs H Q => ∃ (l : Addr) (vs : List V) (ts : List T) (G : Hp), xs = [V.ref l] ∧ SqL K H l vs ∧ Same G H ∧ DqAll G vs (ts.map enc) ∧ AllAlike (ts.map enc) ∧ Sortable (ts.map enc) ∧
  (∀ t, t ∈ ts → (enc t).depth ≤ 50) ∧ ∀ p ys, H p = none → DqAll G ys ((ts.mergeSort (dataLe false enc)).map enc) → Q (.ref p) (upd H p (.lst ys))
theorem cr_sortD {X : Cx} (enc : T → D) (hu : X.A.units + 64 < cLine) : CallR X (.builtin "sorted") (rSortD X.K enc) := by
  intro pins s σ H xs us Q I r h
  obtain ⟨l, vs, ts, G, rfl, hl, gs, hd, al, sb, dep, q⟩ := h
  rw [Vals.ref1 r]
  obtain ⟨its, rv, pl, hz⟩ := I.list hl
  have hlen : vs.length = ts.length := by rw [dpa_len hd, List.length_map]
  have er : EachIs (fun v b => ∃ as, Reads s.heap v (enc b) as) its ts := by
    refine (rawd_each rv hd).mono fun u t ⟨v, h1, h2⟩ => ?_
    exact Dp.reads I _ _ _ (dp_of (dp_up gs h2)) h1
  refine sorted_data (R := RawD G enc) pl.isList (rawd_each rv hd) er al sb (by rw [← hlen]; exact hz) (fun b hb => by have := dep b hb; omega) fun out hout ho => ?_
  obtain ⟨ys, h3, h4⟩ := each_rawd ho
  obtain ⟨e, he⟩ := sortedAll_at s.heap its out.toArray
  have hn : H (s.heap.objs.size + 1) = none := I.hok.fresh (Nat.le_succ _)
  have hb : ys.length ≤ sizeLine := by rw [h3.length, hout, ← hlen]; exact hz
  exact ⟨.ref (s.heap.objs.size + 1), upd H (s.heap.objs.size + 1) (.lst ys), I.laid (t' := s.toks) (fun _ _ => sortedAll_old) (Nat.le_succ _) ⟨hb, out, e, h3, he⟩, rfl, q _ ys hn h4⟩
end
section
variable {X : Cx} {e : Expr} {δ : List Sl} {pos p : Pos} {T : Type}
theorem pf_sortedD {ts : List T} {enc : T → D} (B : Bt X.mg) (hu : X.A.units + 64 < cLine) (h : PD X e δ (.d (.list (ts.map enc)))) (al : AllAlike (ts.map enc)) (sb : Sortable (ts.map enc)) (dep : ∀ t, t ∈ ts → (enc t).depth ≤ 50)
    (hg : Gl X "sorted" := by rfl) (he : starEach [e] X.env = [(false, eval e X.env)] := by rfl) : PF X (.Call (.Name "sorted" p) [e] [] pos) δ ((ts.mergeSort (dataLe false enc)).map enc) := by
  obtain ⟨t, ht, kt⟩ := pad_cons h pad_nil he
  refine .of (pe_callB (cr_sortD enc hu) hg B.sorted (by decide +kernel) ht (by decide) (by decide) he) fun σ H0 G H Q gs re k => kt σ H0 G H _ gs re fun vs H1 G1 g1 a1 => ?_
  obtain ⟨v, rfl, hv⟩ := arall1 a1
  cases hv with
  | @lst q xs _ h1 h2 =>
    exact ⟨q, xs, ts, G1, rfl, SqL.of (g1.s _ _ h1), g1.s, h2, al, sb, dep, fun l ys hl hy => k l ys _ _ (g1.trans (.own g1.s hl)) (g1.h.free hl) (g1.s.free hl) upd_same hy⟩
/-- sorted of texts -/
theorem strs_alike (xs : List Str) : AllAlike (xs.map PyData.str) := .of fun _ _ => by simp [alike]
theorem strs_sortable (xs : List Str) : Sortable (xs.map PyData.str) := .others fun _ => ⟨nofun, fun _ => nofun⟩
def sortS (xs : List Str) : List Str := xs.mergeSort (dataLe false PyData.str)
theorem pf_sortedS {xs : List Str} (B : Bt X.mg) (hu : X.A.units + 64 < cLine) (h : PD X e δ (.d (.list (xs.map .str))))
    (hg : Gl X "sorted" := by rfl) (he : starEach [e] X.env = [(false, eval e X.env)] := by rfl) : PF X (.Call (.Name "sorted" p) [e] [] pos) δ ((sortS xs).map .str) :=
  pf_sortedD B hu h (strs_alike xs) (strs_sortable xs) (fun _ _ => by simp [PyData.depth]) hg he
end
/-- the order of texts -/
def leS (x y : Str) : Bool := decide (x.cps.toList ≤ y.cps.toList)
theorem sortS_eq (xs : List Str) : sortS xs = xs.mergeSort leS := by
  unfold sortS
  rw [dataLe_str (fun x : Str => x)]
  rfl
end Fw
set_option maxHeartbeats 2000000
namespace Fw
open PySem PySem.Spec PySem.Calls PyProof.Rows L2 PySem.W

section
variable {X : Cx} {pins : List (Addr × Obj)} {σ : L2.St} {H : Hp} {s : Shared}
/-- two untracked records of ours have turned -/
theorem inv_two {h' : Heap} {t' : Nat} {p q : Addr} (I : Inv X pins σ H s) (k : ∀ b o, b ≠ p → b ≠ q → s.heap.get? b = some o → h'.get? b = some o) (hp : FpOk X pins H p) (hq : FpOk X pins H q) : Inv X pins σ H { s with heap := h', toks := t' } := by
  have nit : ∀ b u, H b = some u → b ≠ p ∧ b ≠ q := fun b u e => ⟨fun z => (by rw [z, hp.1] at e; cases e), fun z => (by rw [z, hq.1] at e; cases e)⟩
  have mem : ∀ {b : Addr}, b ∉ [p, q] → b ≠ p ∧ b ≠ q := fun hc => ⟨fun z => hc (by simp [z]), fun z => hc (by simp [z])⟩
  refine I.step (g' := s.gens) (d' := s.drawn) (ch := [p, q]) (fun b hb => ?_) (fun b o _ _ hc e _ => k b o (mem hc).1 (mem hc).2 e) (fun b o _ _ hc e _ => ⟨o.slots, k b o (mem hc).1 (mem hc).2 e⟩) (fun _ _ _ _ n => n)
    (fun b o hc e => ⟨o, k b o (mem hc).1 (mem hc).2 e⟩) (fun _ _ e => e) (fun _ _ _ e => e) (fun b ps e => ⟨#[], by rw [e]; simp⟩) (fun m hm => ?_) (fun b u e => ?_) I.bare
  · rcases List.mem_cons.mp hb with rfl | hb
    · exact ⟨hp.2.2.2.1, hp.2.1, hp.2.2.2.2.1, hp.2.2.2.2.2⟩
    · obtain rfl : b = q := by simpa using hb
      exact ⟨hq.2.2.2.1, hq.2.1, hq.2.2.2.2.1, hq.2.2.2.2.2⟩
  · obtain ⟨o, es, ep, ho, r⟩ := hm
    exact ⟨o, es, ep, k _ o (Ne.symm hp.2.1) (Ne.symm hq.2.1) ho, r⟩
  · refine (I.hok b u e).stay (fun c v hc y => ?_) (fun _ y => y) fun _ _ y => y
    have z2 : c ≠ p ∧ c ≠ q := by
      rcases hc with z | z
      · rw [z]; exact nit b u e
      · exact nit c _ z
    exact k c v z2.1 z2.2 y
/-- an untracked record of ours is tracked -/
theorem inv_track {p : Addr} {o : HO} (I : Inv X pins σ H s) (hp : FpOk X pins H p) (h0 : X.s_0.heap.objs.size ≤ p) (new : ObjOk X.prog X.w (upd H p o) s.heap p o) : Inv X pins σ (upd H p o) s := by
  have ne : ∀ b u, X.s_0.heap.get? b = some u → b ≠ p := fun b u e => Nat.ne_of_lt (Nat.lt_of_lt_of_le (Heap.lt_size e) h0)
  have nt : ∀ b u, H b = some u → b ≠ p := fun b u e z => by rw [z, hp.1] at e; cases e
  refine ⟨I.ok, I.os, I.bare, ⟨I.base.keep, I.base.slot, fun b u e n hx => ?_, I.base.there, fun b xs e => ?_, fun b u xs e => ?_, fun b ps e => ?_⟩, I.loc, I.cell, ?_, fun x c e => ?_, fun q hq => ?_, HOk.laidN I.hok (fun _ _ e => e) hp.1 new, I.len⟩
  · rw [upd_ne (ne b u e)]; exact I.base.free b u e n hx
  · have q := I.base.tups b xs e
    rw [upd_ne (nt b _ q)]; exact q
  · have q := I.base.frzs b u xs e
    rw [upd_ne (nt b _ q)]; exact q
  · obtain ⟨m, q⟩ := I.base.tbls b ps e
    exact ⟨m, by rw [upd_ne (nt b _ q)]; exact q⟩
  · rw [upd_ne (Ne.symm hp.2.1)]; exact I.free
  · rw [upd_ne (hp.2.2.2.2.1 x c e)]; exact I.freeC x c e
  · obtain ⟨a, b, c⟩ := I.pin q hq
    exact ⟨a, by rw [upd_ne (hp.2.2.2.2.2 q hq)]; exact b, c⟩
/-- pins are laid by -/
theorem inv_unpin {pins' : List (Addr × Obj)} (I : Inv X (pins ++ pins') σ H s) : Inv X pins σ H s := I.pins_of fun p hp => I.pin p (List.mem_append_right _ (List.mem_append_left _ hp))
theorem inv_pin {pins' : List (Addr × Obj)} (I : Inv X pins σ H s) (h : ∀ p ∈ pins', s.heap.get? p.1 = some p.2 ∧ FpOk X pins H p.1 ∧ ∀ v, p.2.data ≠ .cell v) : Inv X (pins ++ pins') σ H s := I.pins_of fun p hp => (List.mem_append.mp hp).elim (fun z => I.pin p (List.mem_append_right _ z)) fun z => let ⟨a, b, c⟩ := h p z; ⟨a, b.1, b.2.1, b.2.2.1, c⟩
theorem fp_free {pins' : List (Addr × Obj)} {H' : Hp} {b : Addr} (f : FpOk X pins H b) (h : H' b = none) : FpOk X pins H' b := ⟨h, f.2⟩
end

section
variable {X : Cx} {pins : List (Addr × Obj)} {σ : L2.St} {A : Around} {E : Value → Shared → Prop} {P : PySem.Fin → Shared → Prop} {a kS : Addr} {b : Bool} {e1 : Nat}
/-- the keys, one by one -/
theorem keyL_rest {s : Shared} {H G : Hp} {f : Value} {us : List Value} {ks : List D} (I : Inv X (pins ++ [(kS, seqObj "list" #[] 0), (a, seqObj "list" #[] e1)]) σ H s) (gs : Same G H) (hka : kS ≠ a) (fk : FpOk X pins H kS) (fa : FpOk X pins H a)
    (hlen : ks.length = us.length) (hZ : us.length ≤ sizeLine) (hal : AllAlike ks) (hsk : Sortable ks) (hu : ∀ d, d ∈ ks → A.units + d.depth < cLine)
    (turn : ∀ (i : Nat) (v : Value) (k : D) (pins' : List (Addr × Obj)) (s' : Shared) (Hi Gi : Hp), us[i]? = some v → ks[i]? = some k → Inv X pins' σ Hi s' → Gr G H Gi Hi →
      wpAny (model X.prog X.w) A (call f [v]) (fun u s'' => ∃ w' H' G', Inv X pins' σ H' s'' ∧ RelV w' u ∧ Gr Gi Hi G' H' ∧ Dq G' w' k) (fun _ _ => False) s')
    (h : ∀ s' out c H' G', Inv X pins σ H' s' → Gr G H G' H' → FpOk X pins H' a → G' a = none → s'.heap.get? a = some (seqObj "list" (List.toArray out) c) → KeyedOut b ks us out → P (.done (.ret .none)) s') :
    wpAny (model X.prog X.w) A (ksk_rest a f b us.toArray e1 (.ref kS)) P E s := by
  unfold ksk_rest
  refine wpAny_bind (wpAny_rule ?_)
  first
    | rw [List.forIn_toArray]
    | (rw [← Array.forIn_toList]; simp only [List.toList_toArray])
    | rw [← Array.forIn_toList]
  refine wpAny_bind (ksk_fold (fun i s' => ∃ Hi Gi kA e kvs, Inv X (pins ++ [(kS, seqObj "list" kA e), (a, seqObj "list" #[] e1)]) σ Hi s' ∧ Gr G H Gi Hi ∧ Vals kvs kA.toList ∧ DqAll Gi kvs (ks.take i)) us 0 s
    ⟨H, G, #[], 0, [], I, .refl gs, .nil, by rw [List.take_zero]; exact .nil⟩ ?step ?done)
  case step =>
    rintro j x s' hx ⟨Hi, Gi, kA, e, kvs, Ii, gi, rv, dk⟩
    simp only [Nat.zero_add] at dk ⊢
    have hj : j < us.length := (List.getElem?_eq_some_iff.mp hx).1
    obtain ⟨k, hkj⟩ : ∃ k, ks[j]? = some k := ⟨_, List.getElem?_eq_getElem (by omega)⟩
    have hz : kA.size ≤ us.length := by
      have h1 := rv.length
      have h2 := dpa_len dk
      have h3 : kA.toList.length = kA.size := Array.length_toList ..
      rw [List.length_take] at h2
      omega
    refine wpAny_bind (wpAny_attempt (wpAny_mono (turn j x k _ s' Hi Gi hx hkj Ii gi) (fun v s'' he => ?_) fun _ _ hF => hF.elim))
    obtain ⟨w', H', G', I', rw', g', dw⟩ := he
    try dsimp only
    have pk := I'.pin (kS, seqObj "list" kA e) (List.mem_append_right _ (List.mem_append_right _ (.head _)))
    have pa := I'.pin (a, seqObj "list" #[] e1) (List.mem_append_right _ (List.mem_append_right _ (.tail _ (.head _))))
    have s1 := Heap.SameBut.update s''.heap kS (Obj.mapSeq (·.push v))
    obtain ⟨c2, hc2⟩ : ∃ c2, (s''.heap.update kS (Obj.mapSeq (·.push v))).get? kS = some (seqObj "list" (kA.push v) c2) := ⟨_, get?_update_seq pk.1 (·.push v)⟩
    have ek : ks.take (j + 1) = ks.take j ++ [k] := by rw [List.take_add_one, hkj]; simp
    have ea : (kA.push v).toList = kA.toList ++ [v] := by simp
    refine wpAny_bind (listUpdate_at pk.1 rfl ?_ (Nat.le_trans hz hZ) (Nat.le_trans (Nat.le_of_eq (Array.size_push ..)) (Nat.succ_le_succ (Nat.le_trans hz hZ))))
    have fk' : FpOk X pins H' kS := fp_free (pins' := pins) fk pk.2.1
    have fa' : FpOk X pins H' a := fp_free (pins' := pins) fa pa.2.1
    have I2 : Inv X pins σ H' { s'' with heap := s''.heap.update kS (Obj.mapSeq (·.push v)), toks := s''.toks } := (inv_unpin I').turned (fun b o hb q => (s1.2 b hb).trans q) fk'.1 fk'.2.1 fk'.2.2.2.1 fk'.2.2.2.2.1 fk'.2.2.2.2.2
    refine wpAny_pure ⟨rfl, H', G', kA.push v, c2, kvs ++ [w'], inv_pin I2 (fun p hp => ?_), gi.trans g', ?_, ?_⟩
    · rcases List.mem_cons.mp hp with rfl | hp
      · exact ⟨hc2, fk', fun _ => nofun⟩
      · obtain rfl : p = (a, seqObj "list" #[] e1) := by simpa using hp
        exact ⟨(s1.2 a hka.symm).trans pa.1, fa', fun _ => nofun⟩
    · rw [ea]
      exact rv.append (.cons rw' .nil)
    · rw [ek]
      exact dpa_app (dpa_up g'.g dk) (.cons dw .nil)
  case done =>
    rintro s' ⟨Hi, Gi, kA, e, kvs, Ii, gi, rv, dk⟩
    have e3 : ks.take (0 + us.length) = ks := List.take_of_length_le (by omega)
    rw [e3] at dk
    have pk := Ii.pin (kS, seqObj "list" kA e) (List.mem_append_right _ (List.mem_append_right _ (.head _)))
    have pa := Ii.pin (a, seqObj "list" #[] e1) (List.mem_append_right _ (List.mem_append_right _ (.tail _ (.head _))))
    have fk' : FpOk X pins Hi kS := fp_free (pins' := pins) fk pk.2.1
    have fa' : FpOk X pins Hi a := fp_free (pins' := pins) fa pa.2.1
    have hk' : EachIs (fun v k => ∃ as, Reads s'.heap v k as) kA.toList ks := by
      have q : EachIs (RawD Gi id) kA.toList ks := rawd_each rv (by rw [List.map_id]; exact dk)
      exact q.mono fun u t ⟨v, h1, h2⟩ => Dp.reads Ii _ _ _ (dp_of (dp_up gi.s h2)) h1
    have hsz : kA.size = us.length := by
      have h1 := hk'.length
      rw [Array.length_toList] at h1
      omega
    try dsimp only
    refine wpAny_bind (listItems_at pk.1 rfl ?_)
    obtain ⟨h₁, r1, r2⟩ := restrict s'.heap fun b => decide (b ≠ a) && decide (b ≠ kS)
    refine keyH_end (κ := dataKind s'.heap ks) (h₁ := h₁) (fun c o hc q => ?_) (r2 kS (by simp)) pk.1 pa.1 hka (SortsAt.data (s := s') hk' hal hsk hu) hsz hZ fun h3 tk3 c k3 n3 => h _ _ c Hi Gi (inv_two (inv_unpin Ii) (fun c o h1 h2 q => k3 c o h2 ?_) fk' fa') gi fa' ?_ n3 ⟨s'.heap, kA.toList, hal, rfl, hk'⟩
    · by_cases z : c = kS
      · rw [z, r2 kS (by simp)] at q; cases q
      · rw [r1 c (by simp [hc, z])] at q; exact q
    · rw [r1 c (by simp [h1, h2])]; exact q
    · cases q : Gi a with
      | none => rfl
      | some u => have := gi.s _ _ q; rw [pa.2.1] at this; cases this
/-- list.sort(key=f) of a list of ours that nothing tracks -/
theorem keyL_tree {s : Shared} {H G : Hp} {f : Value} {us : List Value} {ks : List D} {n : Nat} (I : Inv X pins σ H s) (gs : Same G H) (fa : FpOk X pins H a) (ho : s.heap.get? a = some (seqObj "list" us.toArray n))
    (hlen : ks.length = us.length) (hZ : us.length ≤ sizeLine) (hal : AllAlike ks) (hsk : Sortable ks) (hu : ∀ d, d ∈ ks → A.units + d.depth < cLine)
    (turn : ∀ (i : Nat) (v : Value) (k : D) (pins' : List (Addr × Obj)) (s' : Shared) (Hi Gi : Hp), us[i]? = some v → ks[i]? = some k → Inv X pins' σ Hi s' → Gr G H Gi Hi →
      wpAny (model X.prog X.w) A (call f [v]) (fun u s'' => ∃ w' H' G', Inv X pins' σ H' s'' ∧ RelV w' u ∧ Gr Gi Hi G' H' ∧ Dq G' w' k) (fun _ _ => False) s')
    (h : ∀ s' out c H' G', Inv X pins σ H' s' → Gr G H G' H' → FpOk X pins H' a → G' a = none → s'.heap.get? a = some (seqObj "list" (List.toArray out) c) → KeyedOut b ks us out → P (.done (.ret .none)) s') :
    wpAny (model X.prog X.w) A (ksk_tree a f b) P E s := by
  have ha : a < s.heap.objs.size := Heap.lt_size ho
  obtain ⟨e1, ho1⟩ : ∃ e1, (s.heap.update a (Obj.mapSeq fun _ => (#[] : Array Value))).get? a = some (seqObj "list" #[] e1) := ⟨_, get?_update_seq ho fun _ => #[]⟩
  have hkS : ((s.heap.update a (Obj.mapSeq fun _ => (#[] : Array Value))).push (seqObj "tuple" us.toArray 0)).objs.size = s.heap.objs.size + 1 := by rw [size_push', Heap.size_update]
  unfold ksk_tree
  refine wpAny_bind (listItems_at ho rfl ?_)
  refine wpAny_bind (listUpdate_at ho rfl ?_ (by rw [List.size_toArray]; exact hZ) (Nat.zero_le _))
  refine wpAny_bind (seqEpoch_at ho1 rfl ?_)
  refine wpAny_bind (wpAny_newTuple ?_ (by show us.length ≤ _; exact hZ))
  refine wpAny_bind (wpAny_newList ?_ (Nat.zero_le _))
  refine wpAny_holding ?_
  have I2 : Inv X pins σ H { s with heap := sortingHeap s.heap a us, toks := s.toks } := I.turned (fun b o hb q => sortingHeap_old hb q) fa.1 fa.2.1 fa.2.2.2.1 fa.2.2.2.2.1 fa.2.2.2.2.2
  have fk : FpOk X pins H (s.heap.objs.size + 1) := I.fpOk (Nat.le_succ _) (I.hok.fresh (Nat.le_succ _))
  refine keyL_rest (kS := ((s.heap.update a (Obj.mapSeq fun _ => (#[] : Array Value))).push (seqObj "tuple" us.toArray 0)).objs.size) (inv_pin I2 fun p hp => ?_) gs (by rw [hkS]; exact Nat.ne_of_gt (Nat.lt_succ_of_lt ha)) (by rw [hkS]; exact fk) fa hlen hZ hal hsk hu turn h
  rcases List.mem_cons.mp hp with rfl | hp
  · exact ⟨Heap.get?_push_size _ rfl, by rw [hkS]; exact fk, fun _ => nofun⟩
  · obtain rfl : p = (a, seqObj "list" #[] e1) := by simpa using hp
    exact ⟨Heap.get?_push_of_some _ (Heap.get?_push_of_some _ ho1), fa, fun _ => nofun⟩
end

def ColR (X : Cx) (rd : V → Hp → (List V → Hp → Prop) → Prop) : Prop :=
  ∀ (pins : List (Addr × Obj)) (s : Shared) (σ : L2.St) (H : Hp) (x : V) (u : Value) (Q : List V → Hp → Prop) (E : Value → Shared → Prop), Inv X pins σ H s → RelV x u → rd x H Q →
    wpAny (model X.prog X.w) X.A.in1 (collect u) (fun us s' => ∃ vs H', Inv X pins σ H' s' ∧ Vals vs us ∧ vs.length ≤ sizeLine ∧ Q vs H') E s
def cSeq (K : PySem.W.Frag) : V → Hp → (List V → Hp → Prop) → Prop := fun x H Q => ∃ p xs, x = .ref p ∧ (SqL K H p xs ∨ SqT K H p xs) ∧ Q xs H
theorem collect_tup {prog : Program} {w : World} {A : Around} {E : Value → Shared → Prop} {s : Shared} {l : Addr} {vs : List Value} {Q : List Value → Shared → Prop} (hl : s.heap.IsTuple l vs.toArray)
    (h : Q vs { s with heap := (s.heap.push (seqObj "list" #[] 0)).update s.heap.objs.size (Obj.mapSeq (· ++ vs.toArray)) }) (hsz : vs.length ≤ sizeLine) :
    wpAny (model prog w) A (collect (.ref l)) Q E s := by
  obtain ⟨o, ho, hc, n, hd⟩ := id hl
  unfold collect
  refine wpAny_bind (wpAny_runValue (codeAny_builtin entry_proto_collect' ?_))
  show wpAny _ _ (do again (.builtin "list.__iadd__" ⟨[← newList [], .ref l], []⟩)) _ _ s
  refine wpAny_bind (wpAny_newList (wpAny_pure ⟨Code.quiet_builtin _ (by decide +kernel), codeAny_builtin entry_list_iadd' ?_⟩))
  show wpAny _ _ (Builtin.List.listExtendWith (.ref s.heap.objs.size) (.ref l) (.ref s.heap.objs.size)) _ _ { s with heap := s.heap.push (seqObj "list" #[] 0) }
  unfold Builtin.List.listExtendWith
  have ho' : (s.heap.push (seqObj "list" #[] 0)).get? l = some o := Heap.get?_push_of_some _ ho
  refine wpAny_bind (wpAny_typeOf (T := "tuple") ⟨o, ho', hc⟩ ?_)
  have ht : (Value.type "tuple" == Value.type "tuple") = true := by rfl
  rw [if_pos (by rw [ht]; simp)]
  refine wpAny_bind (listItems_at ho' hd ?_)
  refine wpAny_bind (listItems_at (xs := #[]) (n := 0) (Heap.get?_push_size _ rfl) rfl ?_)
  rw [if_neg (by simp)]
  refine wpAny_bind (listUpdate_at (xs := #[]) (n := 0) (Heap.get?_push_size _ rfl) rfl ?_ (Nat.zero_le _) (by show (#[] ++ vs.toArray).size ≤ sizeLine + 1; simp only [Array.size_append, List.size_toArray, List.length_nil]; omega))
  refine wpAny_pure ?_
  show wpAny (model prog w) A (do
      let o ← load s.heap.objs.size
      match o.data with
      | .seq xs _ => pure xs.toList
      | _ => unsupported "internal:collect") Q E { s with heap := (s.heap.push (seqObj "list" #[] 0)).update s.heap.objs.size (Obj.mapSeq (· ++ vs.toArray)) }
  refine wpAny_bind (wpAny_load (get?_update_seq (Heap.get?_push_size _ rfl) _) ?_)
  show wpAny _ _ (pure ((#[] : Array Value) ++ vs.toArray).toList) Q E _
  rw [show ((#[] : Array Value) ++ vs.toArray).toList = vs by simp]
  exact wpAny_pure h
theorem col_seq {X : Cx} : ColR X (cSeq X.K) := by
  intro pins s σ H x u Q E I r ⟨p, xs, ex, hp, q⟩
  subst ex
  obtain rfl : u = Value.ref p := r
  rcases hp with hp | hp
  · obtain ⟨its, rv, pl, hz⟩ := I.list hp
    refine collect_list pl.isList ⟨xs, H, I.kept (t' := s.toks) (fun b o e => ?_), rv, hz, q⟩ (by rw [← rv.length]; exact hz)
    exact (Heap.get?_update_ne _ _ _ _ (Nat.ne_of_lt (Heap.lt_size e))).trans (Heap.get?_push_of_some _ e)
  · obtain ⟨its, rv, pl, hz⟩ := I.tuple hp
    refine collect_tup (show s.heap.IsTuple p its.toArray from pl) ⟨xs, H, I.kept (t' := s.toks) (fun b o e => ?_), rv, hz, q⟩ (by rw [← rv.length]; exact hz)
    exact (Heap.get?_update_ne _ _ _ _ (Nat.ne_of_lt (Heap.lt_size e))).trans (Heap.get?_push_of_some _ e)

section
variable {X : Cx} {T : Type} {rd : V → Hp → (List V → Hp → Prop) → Prop}
/-- sorted(x), x what is collected -/
def rSortC (rd : V → Hp → (List V → Hp → Prop) → Prop) (enc : T → D) : List V → Hp → VK → Prop := fun xs H Q => ∃ x, xs = [x] ∧ rd x H fun vs H1 => ∃ (ts : List T) (G : Hp), Same G H1 ∧ DqAll G vs (ts.map enc) ∧ AllAlike (ts.map enc) ∧ Sortable (ts.map enc) ∧
  (∀ t, t ∈ ts → (enc t).depth ≤ 50) ∧ ∀ p ys, H1 p = none → DqAll G ys ((ts.mergeSort (dataLe false enc)).map enc) → Q (.ref p) (upd H1 p (.lst ys))
theorem cr_sortC (hc : ColR X rd) (enc : T → D) (hu : X.A.units + 64 < cLine) : CallR X (.builtin "sorted") (rSortC rd enc) := by
  intro pins s σ H xs us Q I r h
  obtain ⟨x, rfl, h⟩ := h
  obtain ⟨u, rfl, ru⟩ := vals1 r
  refine Calls.call_function_entry PyProof.Rows.kind_sorted PyProof.Rows.plain_sorted PyProof.Rows.entry_sorted (PyProof.Rows.args_sorted1 _) ?_
  unfold Builtin.«sorted»
  refine wpAny_bind (m := checkCount "sorted" 1 1 _) (wpAny_pure ?_)
  refine wpAny_bind (thn (hc pins s σ H x u _ _ I ru h) fun its s1 ⟨vs, H1, I1, rv, hz, ts, G, gs, hd, al, sb, dep, q⟩ => ?_)
  have hz' : its.length ≤ sizeLine := by rw [← rv.length]; exact hz
  have hlen : vs.length = ts.length := by rw [dpa_len hd, List.length_map]
  refine wpAny_bind (wpAny_newList ?_ hz')
  have hoL : (s1.heap.push (seqObj "list" its.toArray 0)).get? s1.heap.objs.size = some (seqObj "list" its.toArray 0) := Heap.get?_push_size _ rfl
  show wpAny _ _ _ _ _ { s1 with heap := s1.heap.push (seqObj "list" its.toArray 0) }
  have ea : EachIs (RawD G enc) its ts := rawd_each rv hd
  have er : EachIs (fun v d => ∃ as, Reads (sortingHeap (s1.heap.push (seqObj "list" its.toArray 0)) s1.heap.objs.size its) v d as) its (ts.map enc) := by
    refine each_map (R := fun v d => ∃ as, Reads (sortingHeap (s1.heap.push (seqObj "list" its.toArray 0)) s1.heap.objs.size its) v d as) enc (ea.mono fun u t ⟨v, h1, h2⟩ => ?_)
    obtain ⟨as, q⟩ := Dp.reads I1 _ _ _ (dp_of (dp_up gs h2)) h1
    exact ⟨as, PyProof.Rows.Reads.keeps (fun b o e => sortingHeap_old (Nat.ne_of_lt (Heap.lt_size e)) (Heap.get?_push_of_some _ e)) q⟩
  refine wpAny_bind (wpAny_holding (wpAny_call_entry slot_list_sort ⟨_, hoL, rfl⟩ entry_list_sort
    (list_sort_vals (κ := dataKind (sortingHeap (s1.heap.push (seqObj "list" its.toArray 0)) s1.heap.objs.size its) (ts.map enc)) (s := { s1 with heap := s1.heap.push (seqObj "list" its.toArray 0) }) hoL
      (SortsAt.data (s := { s1 with heap := sortingHeap (s1.heap.push (seqObj "list" its.toArray 0)) s1.heap.objs.size its }) er al sb fun d hd' => ?_) hz' ⟨.none, rfl, ?_⟩) (args_list_sort _)))
  · obtain ⟨t, ht, rfl⟩ := List.mem_map.mp hd'
    have := dep t ht
    show X.A.units + 1 + 1 + _ < cLine
    omega
  · have ho := sortVals_data (h' := sortingHeap (s1.heap.push (seqObj "list" its.toArray 0)) s1.heap.objs.size its) false ea (ea.mono fun u t ⟨v, h1, h2⟩ => by
      obtain ⟨as, q⟩ := Dp.reads I1 _ _ _ (dp_of (dp_up gs h2)) h1
      exact ⟨as, PyProof.Rows.Reads.keeps (fun b o e => sortingHeap_old (Nat.ne_of_lt (Heap.lt_size e)) (Heap.get?_push_of_some _ e)) q⟩) al
    obtain ⟨ys, h3, h4⟩ := each_rawd ho
    obtain ⟨e', he'⟩ := PyProof.Rows.sortedHeap_at (vs := its) (out := (sortVals (dataKind (sortingHeap (s1.heap.push (seqObj "list" its.toArray 0)) s1.heap.objs.size its) (ts.map enc)) false its its).toArray) hoL
    have hb : ys.length ≤ sizeLine := by rw [h3.length, sortVals_length false rfl]; exact hz'
    refine wpAny_pure ⟨_, rfl, .ref s1.heap.objs.size, upd H1 s1.heap.objs.size (.lst ys), I1.laid (t' := s1.toks) (fun b u e => ?_) (Nat.le_refl _) ⟨hb, _, e', h3, he'⟩, rfl, q _ ys (I1.hok.fresh (Nat.le_refl _)) h4⟩
    have hb : b < s1.heap.objs.size := Heap.lt_size e
    rw [PyProof.Rows.sortedHeap_old (Nat.ne_of_lt hb) (by rw [size_push']; exact Nat.lt_succ_of_lt hb)]
    exact Heap.get?_push_of_some _ e
/-- sorted(x, key=f) -/
def rSortK (rd : V → Hp → (List V → Hp → Prop) → Prop) (f : Addr) (C : List Ar → Ar → Prop) (enc key : T → D) : List V → List V → Hp → VK → Prop := fun xs zs H Q => ∃ x, xs = [x] ∧ zs = [.ref f] ∧ rd x H fun vs H1 => ∃ (ts : List T) (G : Hp), Same G H1 ∧ DqAll G vs (ts.map enc) ∧ AllAlike (ts.map key) ∧ Sortable (ts.map key) ∧
  (∀ t, t ∈ ts → (key t).depth ≤ 50 ∧ C [.d (enc t)] (.d (key t))) ∧ ∀ p ys H2 G2, Gr G H1 G2 H2 → H2 p = none → G2 p = none → DqAll G2 ys ((ts.mergeSort (dataLe false key)).map enc) → Q (.ref p) (upd H2 p (.lst ys))
theorem cr_sortK {k : Nat} {f : Addr} {fd : FuncData} {z : Str} {C : List Ar → Ar → Prop} (hc : ColR X rd) (F : FnOk X.prog X.w X.K X.mg X.base CX0 k f fd [z] (spD C)) (hb : Binds X.K fd [z] []) (hr : Room (k + 2) X.A) (enc key : T → D) : CallRK X (.builtin "sorted") [Str.ofString "key"] (rSortK rd f C enc key) := by
  intro pins s σ H xs zs us ws Q I r r' h
  obtain ⟨x, rfl, rfl, h⟩ := h
  obtain ⟨u, rfl, ru⟩ := vals1 r
  obtain ⟨wf, rfl, rw⟩ := vals1 r'
  obtain rfl : wf = Value.ref f := rw
  refine call_function_entry_kw PyProof.Rows.kind_sorted PyProof.Rows.plain_sorted PyProof.Rows.entry_sorted (ksk_s1 _ _) ?_
  unfold Builtin.«sorted»
  refine wpAny_bind (m := checkCount "sorted" 1 1 _) (wpAny_pure ?_)
  refine wpAny_bind (thn (hc pins s σ H x u _ _ I ru h) fun its s1 ⟨vs, H1, I1, rv, hz, ts, G, gs, hd, al, sb, dep, q⟩ => ?_)
  have hz' : its.length ≤ sizeLine := by rw [← rv.length]; exact hz
  have hlen : its.length = ts.length := by rw [← rv.length, dpa_len hd, List.length_map]
  refine wpAny_bind (wpAny_newList ?_ hz')
  have hoL : (s1.heap.push (seqObj "list" its.toArray 0)).get? s1.heap.objs.size = some (seqObj "list" its.toArray 0) := Heap.get?_push_size _ rfl
  show wpAny _ _ _ _ _ { s1 with heap := s1.heap.push (seqObj "list" its.toArray 0) }
  have I2 : Inv X pins σ H1 { s1 with heap := s1.heap.push (seqObj "list" its.toArray 0), toks := s1.toks } := I1.kept fun b o e => Heap.get?_push_of_some _ e
  have fa : FpOk X pins H1 s1.heap.objs.size := I1.fpOk (Nat.le_refl _) (I1.hok.fresh (Nat.le_refl _))
  have ea : EachIs (RawD G enc) its ts := rawd_each rv hd
  have hu := hr.un
  refine wpAny_bind (wpAny_holding (wpAny_call_entry_kw slot_list_sort ⟨_, hoL, rfl⟩ entry_list_sort ?_ (ksk_l1 _ _)))
  show wpAny _ X.A.in1.in1 (Builtin.«list.sort» ⟨[.ref s1.heap.objs.size], [(Str.ofString "key", .ref f)]⟩) _ _ _
  rw [ksk_t1]
  refine keyL_tree (ks := ts.map key) I2 gs fa hoL (by rw [List.length_map]; exact hlen.symm) hz' al sb (fun d hd' => ?_) (fun i v kk pins' s' Hi Gi hv hk I' gi => ?_) fun s' out c H' G' I' g' fa' ga hD ko => ⟨.none, rfl, wpAny_pure ⟨_, rfl, ?_⟩⟩
  · obtain ⟨t, ht, rfl⟩ := List.mem_map.mp hd'
    have := (dep t ht).1
    show X.A.units + 1 + 1 + _ < cLine
    omega
  · rw [List.getElem?_map] at hk
    obtain ⟨t, et, rfl⟩ := Option.map_eq_some_iff.mp hk
    have hz2 : (v, t) ∈ its.zip ts := List.mem_of_getElem? (i := i) (by rw [List.getElem?_zip_eq_some]; exact ⟨hv, et⟩)
    obtain ⟨x', rx, dx⟩ := ea.zip _ hz2
    have e0 : Env0 X.prog X.w X.K X.mg X.base X.A.in1.in1 X.stack s' Hi := I'.env0.in1.in1
    refine wpAny_call (codeAny_mono (F.run X.A.in1.in1 X.stack s' Hi ⟨[v], []⟩ [v] [x'] (fun w' H' => ∃ G', Gr Gi Hi G' H' ∧ Dq G' w' (key t)) E0 hr.in1.in1 e0 (hb s' [v] I'.kIn rfl) (.cons rx .nil) ⟨Gi, [.d (enc t)], .d (key t), gi.s, .cons (dp_up gi.g dx) .nil, (dep t (List.mem_of_getElem? et)).2, fun w' H' G' g a => ⟨G', g, a⟩⟩) fun rr s2 hq => ?_)
    cases rr with
    | error e => exact False.elim hq
    | ok fl =>
      cases fl with
      | ret u2 =>
        obtain ⟨w', H2, I3, rel, G2, g2, d2⟩ := I'.after hq
        exact ⟨w', H2, G2, I3, rel, g2, d2⟩
      | next => exact False.elim hq
      | brk => exact False.elim hq
      | cont => exact False.elim hq
  · obtain ⟨ys, h3, h4⟩ := each_rawd ((keyedOut_each key ko ea).mono fun u t ⟨v, h1, h2⟩ => (⟨v, h1, dp_up g'.g h2⟩ : RawD G' enc u t))
    have hb : ys.length ≤ sizeLine := by rw [h3.length, ko.length (by rw [List.length_map]; exact hlen.symm)]; exact hz'
    exact ⟨.ref s1.heap.objs.size, upd H' s1.heap.objs.size (.lst ys), inv_track I' fa' I1.sz ⟨hb, out, c, h3, hD⟩, rfl, q _ ys H' G' g' fa'.1 ga h4⟩
end
end Fw
set_option maxHeartbeats 2000000
namespace Fw
open PySem PySem.Spec PySem.Calls PyProof.Rows L2 PySem.W

mutual
def keyOf : D → NestedKey
  | .int i => .num i
  | .str x => .text x
  | .tuple ds => .tup (keysOf ds)
  | _ => .none
def keysOf : List D → List NestedKey
  | [] => []
  | d :: ds => keyOf d :: keysOf ds
end
mutual
/-- None, whole numbers, texts, tuples of such -/
def keyable : D → Bool
  | .none => true
  | .int _ => true
  | .str _ => true
  | .tuple ds => keyables ds
  | _ => false
def keyables : List D → Bool
  | [] => true
  | d :: ds => keyable d && keyables ds
end
mutual
theorem keyOf_inj : ∀ {d e : D}, keyable d = true → keyable e = true → keyOf d = keyOf e → d = e
  | .none, e, _, h, q => by cases e <;> simp_all [keyOf, keyable]
  | .bool _, _, h, _, _ => by simp [keyable] at h
  | .int _, e, _, h, q => by cases e <;> simp_all [keyOf, keyable]
  | .str _, e, _, h, q => by cases e <;> simp_all [keyOf, keyable]
  | .list _, _, h, _, _ => by simp [keyable] at h
  | .tuple ds, e, h1, h, q => by
    cases e with
    | tuple es =>
      simp only [keyOf, NestedKey.tup.injEq] at q
      simp only [keyable] at h1 h
      rw [keysOf_inj h1 h q]
    | _ => simp_all [keyOf, keyable]
  | .dict _, _, h, _, _ => by simp [keyable] at h
theorem keysOf_inj : ∀ {ds es : List D}, keyables ds = true → keyables es = true → keysOf ds = keysOf es → ds = es
  | [], es, _, _, q => by cases es <;> simp_all [keysOf]
  | d :: ds, es, h1, h2, q => by
    cases es with
    | nil => simp [keysOf] at q
    | cons e es =>
      simp only [keysOf, List.cons.injEq] at q
      simp only [keyables, Bool.and_eq_true] at h1 h2
      rw [keyOf_inj h1.1 h2.1 q.1, keysOf_inj h1.2 h2.2 q.2]
end
section
variable {X : Cx} {pins : List (Addr × Obj)} {σ : L2.St} {H G : Hp} {s : Shared}
mutual
theorem dq_nested (I : Inv X pins σ H s) (gs : Same G H) : ∀ {d : D} {v : V} {u : Value}, keyable d = true → Dq G v d → RelV v u → NestedIs s.heap (keyOf d) u
  | .none, _, _, _, h, r => by cases h; cases r; exact .none
  | .bool _, _, _, k, _, _ => by simp [keyable] at k
  | .int i, _, _, _, h, r => by cases h; obtain ⟨t, rfl⟩ := r; exact .int i t
  | .str x, _, _, _, h, r => by cases h; obtain ⟨t, rfl⟩ := r; exact .text x t
  | .list _, _, _, k, _, _ => by simp [keyable] at k
  | .tuple ds, _, _, k, h, r => by
    cases h with
    | tup h1 h2 =>
      cases r
      obtain ⟨its, rv, ⟨o, ho, hc, n, hd⟩, _⟩ := I.tuple (SqT.of (gs _ _ h1))
      simp only [keyable] at k
      simp only [keyOf]
      exact .tup ho hc hd (dqs_nested I gs k h2 rv)
  | .dict _, _, _, k, _, _ => by simp [keyable] at k
theorem dqs_nested (I : Inv X pins σ H s) (gs : Same G H) : ∀ {ds : List D} {vs : List V} {us : List Value}, keyables ds = true → DqAll G vs ds → Vals vs us → NestedAll s.heap (keysOf ds) us
  | [], _, _, _, h, r => by cases h; cases r; exact .nil
  | d :: ds, _, _, k, h, r => by
    cases h with
    | cons h1 h2 =>
      cases r with
      | cons r1 r2 =>
        simp only [keyables, Bool.and_eq_true] at k
        exact .cons (dq_nested I gs k.1 h1 r1) (dqs_nested I gs k.2 h2 r2)
end
end
/-- keys of one type -/
structure Ky (T : Type) where
  enc : T → D
  tup : ∀ t, ∃ ds, enc t = .tuple ds
  ok : ∀ t, keyable (enc t) = true
  low : ∀ t, (keyOf (enc t)).depth ≤ 8
  inj : ∀ a b, enc a = enc b → a = b
theorem Ky.ix {T : Type} (K : Ky T) {a b : T} (h : keyOf (K.enc a) = keyOf (K.enc b)) : a = b := K.inj a b (keyOf_inj (K.ok a) (K.ok b) h)

section
variable {T W : Type} [DecidableEq T]
/-- an entry: the key, its tuple, the value -/
structure EntR (K : Ky T) (eW : W → D) (G : Hp) (x : NestedKey × Addr × Value) (e : T × W) : Prop where
  key : x.1 = keyOf (K.enc e.1)
  at_ : Dq G (.ref x.2.1) (K.enc e.1)
  val : ∃ v, RelV v x.2.2 ∧ Dq G v (eW e.2)
theorem EntR.up {K : Ky T} {eW : W → D} {G G' : Hp} {x : NestedKey × Addr × Value} {e : T × W} (h : EntR K eW G x e) (s : Same G G') : EntR K eW G' x e := ⟨h.key, dp_up s h.at_, let ⟨v, a, b⟩ := h.val; ⟨v, a, dp_up s b⟩⟩
def putW (kvs : List (T × W)) (k : T) (v : W) : List (T × W) := if kvs.any (fun e => decide (e.1 = k)) then kvs.map (fun e => if e.1 = k then (e.1, v) else e) else kvs ++ [(k, v)]
theorem ent_any {K : Ky T} {eW : W → D} {G : Hp} {k : T} : ∀ {xs : List (NestedKey × Addr × Value)} {kvs : List (T × W)}, EachIs (EntR K eW G) xs kvs → (atKey xs (keyOf (K.enc k))).isSome = kvs.any (fun e => decide (e.1 = k))
  | _, _, .nil => rfl
  | x :: xs, e :: es, .cons h t => by
    have ih := ent_any (k := k) t
    by_cases q : e.1 = k
    · have q' : x.1 = keyOf (K.enc k) := by rw [h.key, q]
      simp [atKey, List.find?, q', q]
    · have q' : ¬ x.1 = keyOf (K.enc k) := fun z => q (K.ix (by rw [← h.key, z]))
      simp only [atKey, List.find?, q', decide_false, List.any_cons, q, Bool.false_or] at ih ⊢
      exact ih
theorem ent_map {K : Ky T} {eW : W → D} {G : Hp} {k : T} {w : W} {u : Value} (hv : ∃ v, RelV v u ∧ Dq G v (eW w)) : ∀ {xs : List (NestedKey × Addr × Value)} {kvs : List (T × W)}, EachIs (EntR K eW G) xs kvs →
    EachIs (EntR K eW G) (xs.map (putAt (keyOf (K.enc k)) u)) (kvs.map fun e => if e.1 = k then (e.1, w) else e)
  | _, _, .nil => .nil
  | x :: xs, e :: es, .cons h t => by
    refine .cons ?_ (ent_map hv t)
    show EntR K eW G (putAt (keyOf (K.enc k)) u x) (if e.1 = k then (e.1, w) else e)
    by_cases q : e.1 = k
    · have q' : x.1 = keyOf (K.enc k) := by rw [h.key, q]
      rw [if_pos q]
      unfold putAt
      rw [if_pos q']
      exact ⟨h.key, h.at_, hv⟩
    · have q' : ¬ x.1 = keyOf (K.enc k) := fun z => q (K.ix (by rw [← h.key, z]))
      rw [if_neg q]
      unfold putAt
      rw [if_neg q']
      exact h
theorem each_snoc2 {α β : Type} {R : α → β → Prop} {a : α} {b : β} (h : R a b) : ∀ {as : List α} {bs : List β}, EachIs R as bs → EachIs R (as ++ [a]) (bs ++ [b])
  | _, _, .nil => .cons h .nil
  | _, _, .cons g t => .cons g (each_snoc2 h t)
theorem ent_put {K : Ky T} {eW : W → D} {G : Hp} {k : T} {w : W} {a : Addr} {u : Value} (ha : Dq G (.ref a) (K.enc k)) (hv : ∃ v, RelV v u ∧ Dq G v (eW w)) {xs : List (NestedKey × Addr × Value)} {kvs : List (T × W)} (h : EachIs (EntR K eW G) xs kvs) :
    EachIs (EntR K eW G) (storedH xs (keyOf (K.enc k)) a u) (putW kvs k w) := by
  unfold storedH putW
  rw [ent_any h]
  split
  · exact ent_map hv h
  · exact each_snoc2 ⟨rfl, ha, hv⟩ h
theorem putW_len (kvs : List (T × W)) (k : T) (v : W) : (putW kvs k v).length ≤ kvs.length + 1 := by
  unfold putW
  split <;> simp
theorem putW_keys {kvs : List (T × W)} (h : (kvs.map (·.1)).Nodup) (k : T) (v : W) : ((putW kvs k v).map (·.1)).Nodup := by
  unfold putW
  split
  · have e : (kvs.map fun e => if e.1 = k then (e.1, v) else e).map (·.1) = kvs.map (·.1) := by
      rw [List.map_map]
      refine List.map_congr_left fun e _ => ?_
      show (if e.1 = k then (e.1, v) else e).1 = e.1
      split <;> rfl
    rw [e]; exact h
  · rename_i q
    rw [List.map_append, List.nodup_append]
    refine ⟨h, by simp, fun a ha b hb => ?_⟩
    simp only [List.map_cons, List.map_nil, List.mem_singleton] at hb
    subst hb
    rintro rfl
    obtain ⟨e, he, rfl⟩ := List.mem_map.mp ha
    exact q (List.any_eq_true.mpr ⟨e, he, by simp⟩)
/-- the dict's object, told by itself -/
def DkO (a : Addr) (o : Obj) : HO := .ext fun h => h.get? a = some o
/-- .. holds kvs -/
structure DkP (P : Program) (w : World) (K : Ky T) (eW : W → D) (kvs : List (T × W)) (G : Hp) (a : Addr) (o : Obj) : Prop where
  ex : ∃ es ep xs, o.ExactDict ∧ o.data = .dict es ep ∧ es.toList = xs.map (entryOfKey (nestedKind P w)) ∧ EachIs (EntR K eW G) xs kvs
  nd : (kvs.map (·.1)).Nodup
  sys : (a == sysModules) = false
  len : kvs.length ≤ sizeLine
theorem DkP.up {P : Program} {w : World} {K : Ky T} {eW : W → D} {kvs : List (T × W)} {G G' : Hp} {a : Addr} {o : Obj} (h : DkP P w K eW kvs G a o) (s : Same G G') : DkP P w K eW kvs G' a o := by
  obtain ⟨⟨es, ep, xs, h1, h2, h3, h4⟩, h5, h6, h7⟩ := h
  exact ⟨⟨es, ep, xs, h1, h2, h3, h4.mono fun _ _ q => q.up s⟩, h5, h6, h7⟩
/-- an owned dict -/
def oDk (P : Program) (w : World) (K : Ky T) (eW : W → D) (kvs : List (T × W)) : Op where
  P := fun G a ob => ∃ o, ob = DkO a o ∧ DkP P w K eW kvs G a o
  up := fun e ⟨o, h1, h2⟩ => ⟨o, h1, h2.up e⟩
/-- a dict that stays -/
def rDk (P : Program) (w : World) (K : Ky T) (eW : W → D) (kvs : List (T × W)) : Rp where
  P := fun G v => ∃ a o, v = .ref a ∧ G a = some (DkO a o) ∧ DkP P w K eW kvs G a o
  up := fun e ⟨a, o, h1, h2, h3⟩ => ⟨a, o, h1, e _ _ h2, h3.up e⟩
end
section
variable {X : Cx} {pins : List (Addr × Obj)} {σ : L2.St} {H G : Hp} {s : Shared} {T W : Type} [DecidableEq T] {K : Ky T} {eW : W → D} {kvs : List (T × W)} {a : Addr} {o : Obj}
theorem dk_raw (I : Inv X pins σ H s) (h : H a = some (DkO a o)) : s.heap.get? a = some o := (I.hok a _ h).1
theorem dk_obj {P : Program} {w : World} {H : Hp} {h : Heap} (e : h.get? a = some o) : ObjOk P w H h a (DkO a o) := ⟨e, ⟨o, e⟩, fun _ _ h1 k => k _ h1⟩
theorem ky_is (I : Inv X pins σ H s) (gs : Same G H) {k : T} {p : Addr} (h : Dq G (.ref p) (K.enc k)) : (nestedKind X.prog X.w).is s.heap (keyOf (K.enc k)) p := ⟨dq_nested I gs (K.ok k) h rfl, K.low k⟩
theorem each_at {α β : Type} {R : α → β → Prop} : ∀ {as : List α} {bs : List β} {x : α}, EachIs R as bs → x ∈ as → ∃ b ∈ bs, R x b
  | _, _, _, .nil, h => by cases h
  | _, _, _, .cons g t, h => by
    rcases List.mem_cons.mp h with rfl | h
    · exact ⟨_, List.mem_cons_self, g⟩
    · obtain ⟨b, h1, h2⟩ := each_at t h
      exact ⟨b, List.mem_cons_of_mem _ h1, h2⟩
theorem ent_nodup {xs : List (NestedKey × Addr × Value)} (h : EachIs (EntR K eW G) xs kvs) (nd : (kvs.map (·.1)).Nodup) : (xs.map (·.1)).Nodup := by
  have e : xs.map (·.1) = (kvs.map (·.1)).map fun t => keyOf (K.enc t) := by
    clear nd
    induction h with
    | nil => rfl
    | cons g t ih => rw [List.map_cons, List.map_cons, List.map_cons, g.key, ih]
  rw [e]
  exact nd.map _ (fun a b hne z => hne (K.ix z))
/-- the library's own telling -/
theorem dk_of (I : Inv X pins σ H s) (gs : Same G H) (h : s.heap.get? a = some o) (d : DkP X.prog X.w K eW kvs G a o) : ∃ xs es ep, s.heap.DictOfH (nestedKind X.prog X.w) a xs ∧ EachIs (EntR K eW G) xs kvs ∧ xs.length = kvs.length ∧ o.data = .dict es ep ∧ es.toList = xs.map (entryOfKey (nestedKind X.prog X.w)) := by
  obtain ⟨⟨es, ep, xs, h1, h2, h3, h4⟩, h5, h6, h7⟩ := d
  refine ⟨xs, es, ep, ⟨o, es, ep, h, h1, h2, h3, fun x hx => ?_, ent_nodup h4 h5⟩, h4, h4.length, h2, h3⟩
  obtain ⟨e, _, r⟩ := each_at h4 hx
  rw [r.key]
  exact ky_is I gs r.at_
/-- a dict told by the library is ours -/
theorem dk_back {h' : Heap} {xs : List (NestedKey × Addr × Value)} {P : Program} {w : World} (d : h'.DictOfH (nestedKind P w) a xs) (e : EachIs (EntR K eW G) xs kvs) (nd : (kvs.map (·.1)).Nodup) (hs : (a == sysModules) = false) (hl : kvs.length ≤ sizeLine) :
    ∃ o', h'.get? a = some o' ∧ DkP P w K eW kvs G a o' := by
  obtain ⟨o', es, ep, h1, h2, h3, h4, _, _⟩ := d
  exact ⟨o', h1, ⟨es, ep, xs, h2, h3, h4, e⟩, nd, hs, hl⟩
end
end Fw
set_option maxHeartbeats 2000000
namespace Fw
open PySem PySem.Spec PySem.Calls PyProof.Rows L2 PySem.W

section
variable {X : Cx} {pins : List (Addr × Obj)} {σ : L2.St} {H G : Hp} {s : Shared} {T W : Type} [DecidableEq T] {K : Ky T} {eW : W → D} {kvs : List (T × W)} {a : Addr} {o : Obj}
def rNotK (X : Cx) (K : Ky T) (eW : W → D) : R2 := fun x y H Q => ∃ p d o kvs k G, x = .ref p ∧ y = .ref d ∧ H d = some (DkO d o) ∧ DkP X.prog X.w K eW kvs G d o ∧ Same G H ∧ Dq G x (K.enc k) ∧ Q (.bl (!kvs.any fun e => decide (e.1 = k))) H
theorem op_notK (hu : X.A.units + 64 < cLine) : OpR X (compareOp .NotIn) (rNotK X K eW) := by
  intro pins s σ H x y v u Q I rx ry h
  obtain ⟨p, d, o, kvs, k, G, rfl, rfl, hd, dp, gs, hk, q⟩ := h
  obtain rfl : v = Value.ref p := rx
  obtain rfl : u = Value.ref d := ry
  obtain ⟨xs, es, ep, m, e, hl, _⟩ := dk_of I gs (dk_raw I hd) dp
  refine notIn_keyed (knd := nestedKind X.prog X.w) (k := keyOf (K.enc k)) (show X.A.units + 1 + 8 < cLine by omega) (ky_is I gs hk) dp.sys ⟨xs, m, rfl⟩ ?_
  rw [valueAt_pairsH, Option.isSome_map, ent_any e]
  exact ⟨.bl _, H, I.tok _, rfl, q⟩
def rSetK (X : Cx) (K : Ky T) (eW : W → D) : TSet := fun x y z H Q => ∃ d o kvs k w G, x = .ref d ∧ H d = some (DkO d o) ∧ DkP X.prog X.w K eW kvs G d o ∧ Same G H ∧ (∃ p, y = .ref p) ∧ Dq G y (K.enc k) ∧ Dq G z (eW w) ∧ kvs.length < sizeLine ∧ ∀ o', DkP X.prog X.w K eW (putW kvs k w) G d o' → Q (upd H d (DkO d o'))
theorem dk_put {P : Program} {w : World} {h' : Heap} {k : T} {p : Addr} {z : W} {u : Value} {v : V} (dp : DkP P w K eW kvs G a o) (hk : Dq G (.ref p) (K.enc k)) (rv : RelV v u) (hz : Dq G v (eW z)) (hl : kvs.length < sizeLine) {xs : List (NestedKey × Addr × Value)} (e : EachIs (EntR K eW G) xs kvs)
    (m : h'.DictOfH (nestedKind P w) a (storedH xs (keyOf (K.enc k)) p u)) : ∃ o', h'.get? a = some o' ∧ DkP P w K eW (putW kvs k z) G a o' :=
  dk_back m (ent_put hk ⟨v, rv, hz⟩ e) (putW_keys dp.nd k z) dp.sys (Nat.le_trans (putW_len _ _ _) hl)
theorem set_nk (hu : X.A.units + 64 < cLine) : PSet X (rSetK X K eW) := by
  intro pins s σ H x y z ov iv u Q I rx ry rz h
  obtain ⟨d, o, kvs, k, w, G, rfl, hd, dp, gs, ⟨p, rfl⟩, hk, hz, hl, q⟩ := h
  obtain rfl : ov = Value.ref d := rx
  obtain rfl : iv = Value.ref p := ry
  obtain ⟨xs, es, ep, m, e, hlen, _⟩ := dk_of I gs (dk_raw I hd) dp
  refine wpAny_setItem_heap (knd := nestedKind X.prog X.w) (k := keyOf (K.enc k)) (hsz := by rw [hlen]; omega) (show X.A.units + 1 + 8 < cLine by omega) (ky_is I gs hk) m fun h' m' hs => ?_
  obtain ⟨o', ho', dp'⟩ := dk_put dp hk rz hz hl e m'
  exact ⟨_, d_write I (by rw [hd]; exact True.intro) hs ⟨_, ho'⟩ (dk_obj ho'), q o' dp'⟩
def rLenK (X : Cx) (K : Ky T) (eW : W → D) : List V → Hp → VK → Prop := fun vs H Q => ∃ d o kvs G, vs = [.ref d] ∧ H d = some (DkO d o) ∧ DkP X.prog X.w K eW kvs G d o ∧ Same G H ∧ Q (.int (kvs.length : Int)) H
theorem call_lenK : CallR X (.builtin "len") (rLenK X K eW) := by
  intro pins s σ H xs us Q I r h
  obtain ⟨d, o, kvs, G, rfl, hd, dp, gs, q⟩ := h
  rw [Vals.ref1 r]
  obtain ⟨xs, es, ep, m, e, hl, _⟩ := dk_of I gs (dk_raw I hd) dp
  refine call_len_dictH dp.sys m (by have := dp.len; rw [sizeLine_eq] at this; omega) ⟨.int (kvs.length : Int), H, I.tok _, ⟨_, by rw [hl]⟩, q⟩
/-- a new dict with one entry -/
theorem dk_new1 {P : Program} {w : World} {H' : Hp} (I : Inv X pins σ H s) (hd : H a = some (.dT [])) : ∃ o, s.heap.get? a = some o ∧ ∀ G, DkP X.prog X.w K eW [] G a o := by
  obtain ⟨_, hsys, xs, pr, o, es, ep, ho, hx, hdt, he, _⟩ := I.hok a _ hd
  cases pr
  exact ⟨o, ho, fun G => ⟨⟨es, ep, [], hx, hdt, by rw [he]; rfl, .nil⟩, List.nodup_nil, hsys, Nat.zero_le _⟩⟩
end

section
variable {X : Cx} {T W : Type} [DecidableEq T] {K : Ky T} {eW : W → D} {kvs : List (T × W)} {δ : List Sl} {e a b : Expr} {pos p : Pos} {E : DE} {k : T} {w : W}
theorem RE.dk {H0 G H : Hp} {σ : L2.St} {i : Nat} (re : RE H0 G H σ δ) (hi : δ[i]? = some (.ow (oDk X.prog X.w K eW kvs))) : ∃ d o, σ[i]? = some (some (.ref d)) ∧ H d = some (DkO d o) ∧ G d = none ∧ H0 d = none ∧ DkP X.prog X.w K eW kvs G d o := by
  obtain ⟨d, ob, e1, e2, e3, e4, o, rfl, e5⟩ := re.ow hi
  exact ⟨d, o, e1, e2, e3, e4, e5⟩
/-- k not in the owned dict -/
theorem ptd_notinK (i : Nat) {x : Str} (hi : δ[i]? = some (.ow (oDk X.prog X.w K eW kvs))) (hu : X.A.units + 64 < cLine) (ha : PD X a δ (.d (K.enc k))) (hN : X.N[i]? = some x := by rfl) (hv : Vis X.env.scope x := by first | exact Or.inl rfl | exact Or.inr (Or.inl rfl) | exact Or.inr (Or.inr rfl))
    (hdb : (x == ("__debug__" : Str)) = false := by decide) (hc : (x == ("__classdict__" : Str)) = false := by decide) (hm : behindInMarks .NotIn (.Name x p) = false := by rfl) : PTD X (.Compare a [.NotIn] [.Name x p] pos) δ (!kvs.any fun e => decide (e.1 = k)) :=
  .of (pt_cmpR (op_notK (K := K) (eW := eW) hu) ha.pe (pe_var hN hv hdb hc) hm) fun σ H0 G H Q gs re q => .in gs re fun v H1 G1 g1 a1 => by
    obtain ⟨d, o, e1, e2, e3, e4, e5⟩ := (re.grow g1).dk hi
    obtain ⟨ds, et⟩ := K.tup k
    have a1' := a1
    simp only [ArR] at a1'
    rw [et] at a1'
    cases a1' with
    | tup h1 h2 => exact ⟨.ref d, e1, _, d, o, kvs, k, G1, rfl, rfl, e2, e5, g1.s, a1, _, rfl, q H1 G1 g1⟩
/-- the owned dict's k becomes w -/
theorem sd_setK (i : Nat) {x : Str} {p2 : Pos} (hi : δ[i]? = some (.ow (oDk X.prog X.w K eW kvs))) (hu : X.A.units + 64 < cLine) (ha : PD X a δ (.d (K.enc k))) (hb : PD X b δ (.d (eW w))) (hl : kvs.length < 100000) (hn : E.nx (δ.set i (.ow (oDk X.prog X.w K eW (putW kvs k w)))))
    (hN : X.N[i]? = some x := by rfl) (hv : Vis X.env.scope x := by first | exact Or.inl rfl | exact Or.inr (Or.inl rfl) | exact Or.inr (Or.inr rfl))
    (hdb : (x == ("__debug__" : Str)) = false := by decide) (hc : (x == ("__classdict__" : Str)) = false := by decide)
    (hs : swapsWithSole [.Subscript (.Name x p) a p2] b pos.line X.env = pure false := by rfl) (hw : swappedStores [.Subscript (.Name x p) a p2] b X.env = pure none := by rfl)
    (h1 : (assignEach [.Subscript (.Name x p) a p2] X.env).map (·.2) = [assign (.Subscript (.Name x p) a p2) X.env] := by rfl)
    (h2 : ∀ v, assign (.Subscript (.Name x p) a p2) X.env v = (do
      let ov ← holding [v] (eval (.Name x p) X.env)
      let iv ← holding [v, ov] (eval a X.env)
      standAt p2
      holding [v, ov, iv] (setItem ov iv v)
      release [v, ov, iv] []) := by intro _; rfl) (ng : noGp δ = true := by rfl) : SD1 X (.Assign [.Subscript (.Name x p) a p2] b pos) δ E :=
  .of (ps_asg hb.pe (pg_sub (pe_var hN hv hdb hc) ha.pe (set_nk (K := K) (eW := eW) hu) h2) hs hw h1) fun σ G0 H0 G H g re => .in g.s re fun v H1 G1 g1 a1 => by
    have re1 := re.grow g1
    obtain ⟨d, o, e1, e2, e3, e4, e5⟩ := re1.dk hi
    refine ⟨.ref d, e1, .in g1.s re1 fun y H2 G2 g2 a2 => ?_⟩
    have re2 := re1.grow g2
    obtain ⟨d', o', f1, f2, f3, f4, f5⟩ := re2.dk hi
    rw [e1] at f1
    cases f1
    have a2' := a2
    obtain ⟨ds, et⟩ := K.tup k
    simp only [ArR] at a2'
    rw [et] at a2'
    cases a2' with
    | tup h1 h2 =>
      refine ⟨d, o', kvs, k, w, G2, rfl, f2, f5, g2.s, ⟨_, rfl⟩, a2, dp_up g2.g a1, Nat.lt_of_lt_of_le hl (by decide), fun o2 dp2 => ?_⟩
      have g02 := (g.trans g1).trans g2
      exact ⟨G2, _, g02.mut f4 f3, re2.mutOw (O' := oDk X.prog X.w K eW (putW kvs k w)) i hi e1 f3 f4 ⟨o2, rfl, dp2⟩ ng, hn⟩
/-- len of the owned dict -/
theorem pd_lenK (i : Nat) {x : Str} {p2 : Pos} (B : Bt X.mg) (hi : δ[i]? = some (.ow (oDk X.prog X.w K eW kvs))) (hN : X.N[i]? = some x := by rfl) (hv : Vis X.env.scope x := by first | exact Or.inl rfl | exact Or.inr (Or.inl rfl) | exact Or.inr (Or.inr rfl))
    (hdb : (x == ("__debug__" : Str)) = false := by decide) (hc : (x == ("__classdict__" : Str)) = false := by decide) (hg : Gl X "len" := by rfl) (he : starEach [.Name x p2] X.env = [(false, eval (.Name x p2) X.env)] := by rfl) :
    PD X (.Call (.Name "len" p) [.Name x p2] [] pos) δ (.d (.int (kvs.length : Int))) :=
  .of (pe_callB (call_lenK (K := K) (eW := eW)) hg B.len PySem.boot_len (pa_cons (pe_var hN hv hdb hc) pa_nil he) (by decide) (by decide) he) fun σ H0 G H Q gs re q => by
    obtain ⟨d, o, e1, e2, e3, e4, e5⟩ := re.dk hi
    exact ⟨.ref d, e1, d, o, kvs, G, rfl, e2, e5, gs, q _ H G (.refl gs) (Dq.int _)⟩
/-- name = {} -/
theorem sd_newK (K : Ky T) (eW : W → D) (i : Nat) {x : Str} {pos' : Pos} (hN : X.N.Nodup) (hn : E.nx (δ.set i (.ow (oDk X.prog X.w K eW [])))) (hi : X.N[i]? = some x := by rfl) (hx : Loc X.env.scope x := by first | exact Or.inl rfl | exact Or.inr rfl)
    (hs : swapsWith (.Dict [] [] p) (some (.Name x pos')) pos.line X.env = pure false := by rfl) (hf : X.fn x = true ∨ X.env.scope.names.lookup x = some .local := by first | exact .inl rfl | exact .inr rfl) : SD1 X (.Assign [.Name x pos'] (.Dict [] [] p) pos) δ E := by
  have pe : PE X (.Dict [] [] p) (fun σ H Q => ∀ d o, H d = none → (∀ G, DkP X.prog X.w K eW [] G d o) → Q (.ref d) (upd H d (DkO d o))) := by
    refine ⟨fun pins s σ H Q I h => thn ((pe_dnewT (X := X) (pos := p)).run pins s σ H (fun v H' => ∃ d, v = .ref d ∧ H d = none ∧ H' = upd H d (.dT [])) I fun d hd => ⟨d, rfl, hd, rfl⟩) fun u s1 ⟨v, H1, I1, rv, d, ev, hd, eH⟩ => ?_⟩
    subst ev
    subst eH
    obtain ⟨o, ho, dp⟩ := dk_new1 (K := K) (eW := eW) (P := X.prog) (w := X.w) (H' := H) I1 (upd_same)
    have I2 := I1.write (x := d) (e := d) (o := DkO d o) (h' := s1.heap) (t' := s1.toks) (by rw [upd_same]; exact True.intro) (.inl rfl) (fun _ _ _ z => z) ⟨o, ho⟩ (dk_obj ho)
    rw [upd_upd] at I2
    exact ⟨.ref d, _, I2, rv, h d o hd dp⟩
  refine .of (ps_set hN hi hx pe hs hf) fun σ G0 H0 G H g re d o hd dp => ?_
  have gr := Gr.own (o := DkO d o) g.s hd
  refine ⟨G, _, g.trans gr, (re.grow gr).setOw (O := oDk X.prog X.w K eW []) i upd_same (g.s.free hd) (g.h.free hd) ⟨o, rfl, dp G⟩ (fun j O' nj ej es => ?_), hn⟩
  obtain ⟨q, ob, e1, e2, _⟩ := re.ow ej
  rw [e1] at es
  cases es
  rw [hd] at e2
  cases e2
/-- an owned thing stays as it is from here -/
theorem sd_frzO {sts : List Stmt} (i : Nat) {O : Op} (R : Rp) (hi : δ[i]? = some (.ow O)) (hR : ∀ (G : Hp) (d : Addr) (ob : HO), G d = none → O.P G d ob → R.P (upd G d ob) (.ref d)) (h : SD X sts (δ.set i (.va (.o R))) E) (ng : noGp δ = true := by rfl) : SD X sts δ E := by
  refine ⟨fun pins s σ G0 H0 G H I g re => ?_⟩
  obtain ⟨d, ob, e1, e2, e3, e4, e5⟩ := re.ow hi
  exact h.run pins s σ G0 H0 _ H I (g.freeze e4 e3 e2) (re.frz i hi e1 e2 e3 (hR G d ob e3 e5) ng)
theorem oDk_frz {P : Program} {w : World} (G : Hp) (d : Addr) (ob : HO) (hd : G d = none) (h : (oDk P w K eW kvs).P G d ob) : (rDk P w K eW kvs).P (upd G d ob) (.ref d) := by
  obtain ⟨o, rfl, dp⟩ := h
  exact ⟨d, o, rfl, upd_same, dp.up fun b u e => by rw [upd_ne (ne_of_none e hd)]; exact e⟩
end

section
variable {X : Cx} {T W : Type} [DecidableEq T] {K : Ky T} {eW : W → D}
def cDk (X : Cx) (K : Ky T) (eW : W → D) : V → Hp → (List V → Hp → Prop) → Prop := fun x H Q => ∃ d o kvs G, x = .ref d ∧ H d = some (DkO d o) ∧ DkP X.prog X.w K eW kvs G d o ∧ Same G H ∧ ∀ vs, DqAll G vs (kvs.map fun e => K.enc e.1) → Q vs H
theorem ent_keys {G : Hp} {es : Array DictEntry} : ∀ {xs : List (NestedKey × Addr × Value)} {kvs : List (T × W)}, EachIs (EntR K eW G) xs kvs → DqAll G (xs.map fun x => V.ref x.2.1) (kvs.map fun e => K.enc e.1) ∧ Vals (xs.map fun x => V.ref x.2.1) (xs.map fun x => Value.ref x.2.1)
  | _, _, .nil => ⟨.nil, .nil⟩
  | _, _, .cons h t => ⟨.cons h.at_ (ent_keys (es := es) t).1, .cons rfl (ent_keys (es := es) t).2⟩
theorem items_refs {es : Array DictEntry} {P : Program} {w : World} {xs : List (NestedKey × Addr × Value)} (he : es.toList = xs.map (entryOfKey (nestedKind P w))) {acc : Array Value} (h : ItemsOf (fun i v => ∃ hi : i < es.size, v = es[i].key) acc es.size) : acc.toList = xs.map fun x => Value.ref x.2.1 := by
  have hn := size_of_entries he
  apply List.ext_getElem?
  intro i
  rw [List.getElem?_map, Array.getElem?_toList]
  by_cases hi : i < es.size
  · obtain ⟨v, hv⟩ : ∃ v, acc[i]? = some v := ⟨acc[i]'(by rw [h.1]; exact hi), Array.getElem?_eq_getElem _⟩
    obtain ⟨_, e⟩ := h.2 i v hv
    rw [hv, e]
    have q := entry_at he i
    rw [Array.getElem?_eq_getElem hi, List.getElem?_eq_getElem (by rw [← hn]; exact hi)] at q
    rw [List.getElem?_eq_getElem (by rw [← hn]; exact hi)]
    have q' := Option.some.inj q
    rw [q']
    rfl
  · rw [Array.getElem?_eq_none (by rw [h.1]; omega), List.getElem?_eq_none (by rw [← hn]; omega)]
    rfl
theorem col_dk (hc : X.calm = true) : ColR X (cDk X K eW) := by
  intro pins s σ H x u Q E I r ⟨d, o, kvs, G, ex, hd, dp, gs, q⟩
  subst ex
  obtain rfl : u = Value.ref d := r
  have ho := dk_raw I hd
  obtain ⟨xs, es, ep, m, e, hl, hdt, he⟩ := dk_of I gs ho dp
  have hraw : s.heap.DictRaw d es ep := by
    obtain ⟨o', es', ep', h1, h2, h3, _⟩ := m
    rw [ho] at h1
    cases h1
    exact ⟨o, ho, h2, hdt⟩
  have hn : es.size = kvs.length := by rw [size_of_entries he, hl]
  refine kdu_collect (KdlSrc.rawDict dp.sys) (I.ok.hd hc) hraw (by rw [hn]; exact dp.len) fun h' tk acc hk hacc => ?_
  obtain ⟨k1, k2⟩ := ent_keys (es := es) e
  refine ⟨_, H, I.kept hk, by rw [items_refs he hacc]; exact k2, by rw [List.length_map, hl]; exact dp.len, q _ k1⟩
/-- list(d) -/
def rListK (X : Cx) (K : Ky T) (eW : W → D) : List V → Hp → VK → Prop := fun vs H Q => ∃ d o kvs G, vs = [.ref d] ∧ H d = some (DkO d o) ∧ DkP X.prog X.w K eW kvs G d o ∧ Same G H ∧ ∀ p ys, H p = none → DqAll G ys (kvs.map fun e => K.enc e.1) → Q (.ref p) (upd H p (.lst ys))
theorem call_listK (hc : X.calm = true) : CallR X (.type "list") (rListK X K eW) := by
  intro pins s σ H xs us Q I r h
  obtain ⟨d, o, kvs, G, rfl, hd, dp, gs, q⟩ := h
  rw [Vals.ref1 r]
  have ho := dk_raw I hd
  obtain ⟨xs, es, ep, m, e, hl, hdt, he⟩ := dk_of I gs ho dp
  have hraw : s.heap.DictRaw d es ep := by
    obtain ⟨o', es', ep', h1, h2, h3, _⟩ := m
    rw [ho] at h1
    cases h1
    exact ⟨o, ho, h2, hdt⟩
  have hn : es.size = kvs.length := by rw [size_of_entries he, hl]
  refine kdl_call (KdlSrc.rawDict dp.sys) (I.ok.hd hc) hraw (by rw [hn]; exact dp.len) fun h' tk acc c' hk hD hacc => ?_
  obtain ⟨k1, k2⟩ := ent_keys (es := es) e
  have hv : Vals (xs.map fun x => V.ref x.2.1) acc.toList := by rw [items_refs he hacc]; exact k2
  exact ⟨.ref s.heap.objs.size, upd H s.heap.objs.size (.lst (xs.map fun x => V.ref x.2.1)), I.laid (t' := tk) hk (Nat.le_refl _) ⟨by rw [List.length_map, hl]; exact dp.len, acc.toList, c', hv, by rw [Array.toArray_toList]; exact hD⟩, rfl, q _ _ (I.hok.fresh (Nat.le_refl _)) k1⟩
end
end Fw
set_option maxHeartbeats 2000000
namespace Fw
open PySem PySem.Spec PySem.Calls PyProof.Rows L2 PySem.W

abbrev Xs := List (NestedKey × Addr × Value)
/-- the pairs of the dict at d, each a new tuple -/
def ItP (d : Addr) (o : Obj) (xs : Xs) (vs : List V) : It :=
  ⟨fun i H => H d = some (DkO d o) ∧ i < xs.length, fun i H y H' => ∃ T x v, xs[i]? = some x ∧ vs[i]? = some v ∧ y = .ref T ∧ H T = none ∧ H' = upd H T (.tup [.ref x.2.1, v]), fun i H => H d = some (DkO d o) ∧ xs.length ≤ i⟩
theorem turn_itP {P : Program} {w : World} {K : PySem.W.Frag} {elts : List Expr} {kk : Nat} {tpos : Pos} {d : Addr} {o : Obj} {xs : Xs} {vs : List V} {es : Array DictEntry} {ep : Nat} (it : Addr) (hx : o.ExactDict) (hod : o.data = .dict es ep) (he : es.toList = xs.map (entryOfKey (nestedKind P w))) (hv : Vals vs (xs.map (·.2.2))) :
    L2.Turn P w K (.Tuple elts kk tpos) (ItP d o xs vs) [it] it (fun i h => ∃ ok ov, IsItemIter h it d i es.size ep ok ov) where
  mem := by simp
  obj := fun i h st b hb => by
    obtain rfl : b = it := by simpa using hb
    obtain ⟨ok, ov, e⟩ := st
    exact ⟨_, e, fun v z => nomatch z⟩
  keep := fun i h h' st k => let ⟨ok, ov, e⟩ := st; ⟨ok, ov, k it (by simp) _ e⟩
  item := by
    intro X hP hw hK hc i pins s σ H E I hf st hg
    subst hP hw hK
    obtain ⟨hd, hi⟩ := hg
    have hsz := size_of_entries he
    have hm : DT.Raw s.heap d es ep := ⟨o, dk_raw I hd, hx, hod⟩
    obtain ⟨ok, ov, hit⟩ := st
    have hlt : it < s.heap.objs.size := Heap.lt_size hit
    have hi' : i < es.size := by rw [hsz]; exact hi
    obtain ⟨x, hxi⟩ : ∃ x, xs[i]? = some x := ⟨_, List.getElem?_eq_getElem hi⟩
    have ent : es[i] = entryOfKey (nestedKind X.prog X.w) x := by
      have q := entry_at he i
      rw [Array.getElem?_eq_getElem hi', hxi] at q
      exact Option.some.inj q
    obtain ⟨v, hvi⟩ : ∃ v, vs[i]? = some v := ⟨_, List.getElem?_eq_getElem (by rw [hv.length, List.length_map]; exact hi)⟩
    obtain ⟨u, hu, rv⟩ := hv.get hvi
    rw [List.getElem?_map, hxi] at hu
    obtain rfl : x.2.2 = u := Option.some.inj hu
    refine DT.nextI hit hm hi' fun h' ho hT hz hk => ?_
    refine ⟨_, rfl, wpAny_letOwnedTupleGo_items (s := { s with heap := h' }) ho fun h'' he' sb => ?_⟩
    have hT2 : h''.get? s.heap.objs.size = some { cls := .type "tuple", data := .seq #[Value.ref x.2.1, x.2.2] } := by
      have q := (sb.2 _ (Nat.ne_of_gt hlt)).trans hT
      rw [ent] at q
      exact q
    have new : ObjOk X.prog X.w (upd H s.heap.objs.size (.tup [.ref x.2.1, v])) h'' s.heap.objs.size (.tup [.ref x.2.1, v]) :=
      ⟨by show 2 ≤ sizeLine; decide, [Value.ref x.2.1, x.2.2], .cons rfl (.cons rv .nil), ⟨_, hT2, rfl, _, rfl⟩⟩
    have I1 : Inv X pins σ (upd H s.heap.objs.size (.tup [.ref x.2.1, v])) { s with heap := h'' } :=
      I.turnedNew (t' := s.toks) (ch := [it]) (fun b ob hb e => (sb.2 b (by simpa using hb)).trans (hk b ob (by simpa using hb) e)) hf (Nat.le_refl _) new
    refine ⟨.ref s.heap.objs.size, _, I1, rfl, ⟨_, x, v, hxi, hvi, rfl, I.hok.fresh (Nat.le_refl _), rfl⟩, ⟨_, _, he'⟩, fun b hb => ?_⟩
    obtain rfl : b = it := by simpa using hb
    rw [upd_ne (Nat.ne_of_lt hlt)]
    exact (hf b (by simp)).1
  done := by
    intro X hP hw hK hc i pins s σ H E I hf st hg
    subst hP hw hK
    obtain ⟨hd, hi⟩ := hg
    obtain ⟨f0, f1, f2, f3, f4, f5⟩ := hf it (by simp)
    have hsz := size_of_entries he
    obtain ⟨ok, ov, hit⟩ := st
    exact DT.endI (I.ok.hd hc) hit ⟨o, dk_raw I hd, hx, hod⟩ (by rw [hsz]; exact hi) fun h' eb => ⟨rfl, I.turned (t' := s.toks) (fun b ob hb e => eb b ob hb e) f0 f1 f3 f4 f5⟩
  self := fun A i s Q E st h => let ⟨_, _, e⟩ := st; PySem.W.kcp_self e h
section
variable {X : Cx} {T W : Type} [DecidableEq T] {K : Ky T} {eW : W → D} {kvs : List (T × W)} {δ : List Sl} {e a b : Expr} {pos p : Pos} {E : DE} {k : T} {w : W}
def iItP (X : Cx) (K : Ky T) (eW : W → D) (td : TE) : TI := fun σ H R => td σ H fun x H1 => ∃ d o kvs G, x = .ref d ∧ H1 d = some (DkO d o) ∧ DkP X.prog X.w K eW kvs G d o ∧ Same G H1 ∧ ∀ xs vs, EachIs (EntR K eW G) xs kvs → DqAll G vs (kvs.map fun e => eW e.2) → xs.length = kvs.length → R (ItP d o xs vs) H1
theorem ent_vals {G : Hp} : ∀ {xs : Xs} {kvs : List (T × W)}, EachIs (EntR K eW G) xs kvs → ∃ vs, DqAll G vs (kvs.map fun e => eW e.2) ∧ Vals vs (xs.map (·.2.2))
  | _, _, .nil => ⟨[], .nil, .nil⟩
  | _, _, .cons h t => by
    obtain ⟨v, h1, h2⟩ := h.val
    obtain ⟨vs, h3, h4⟩ := ent_vals t
    exact ⟨v :: vs, .cons h2 h3, .cons h1 h4⟩
theorem pi_itP {td : TE} {elts : List Expr} {kk : Nat} {tpos apos cpos : Pos} (he : PE X e td) (hbase : attributeBase e "items" X.env (eval e X.env) = eval e X.env := by rfl) (hline : (apos.endLine == cpos.line) = true := by rfl) :
    PI X (.Tuple elts kk tpos) (.Call (.Attribute e "items" apos) [] [] cpos) (iItP X K eW td) := by
  refine ⟨fun pins s σ H R I h => ?_⟩
  refine wpAny_Call_method (T := "dict") (id := "dict.items") hbase rfl hline F.plainAttrs_dict F.slot_dict_items F.type_dict_items (thn (he.run pins s σ H _ I h) fun u s1 ⟨x, H1, I1, rx, d, o, kvs, G, ex, hd, dp, gs, q⟩ => ?_)
  subst ex
  obtain rfl : u = Value.ref d := rx
  have ho := dk_raw I1 hd
  obtain ⟨xs, es, ep, m, en, hl, hdt, hes⟩ := dk_of I1 gs ho dp
  have hx : o.ExactDict := dp.ex.choose_spec.choose_spec.choose_spec.1
  obtain ⟨vs, k1, k2⟩ := ent_vals en
  have hraw : DT.Raw s1.heap d es ep := ⟨o, ho, hx, hdt⟩
  refine ⟨hraw.typeIs, fun b z => (by cases z; exact ⟨o, ho, hx.2.1⟩), ?_⟩
  have I2 : Inv X pins σ H1 { s1 with heap := s1.heap.push { cls := .type "dict_items", data := .fields #[.ref d] } } := I1.kept (t' := s1.toks) fun b ob q => Heap.get?_push_of_some _ q
  have fin : wpAny (model X.prog X.w) X.A (pyIter (.ref s1.heap.objs.size)) (PIE X pins σ (.Tuple elts kk tpos) R) X.xe { s1 with heap := s1.heap.push { cls := .type "dict_items", data := .fields #[.ref d] } } := by
    refine DT.iterI (d := d) (es := es) (ep := ep) ⟨_, Heap.get?_push_size _ rfl, rfl, rfl⟩ (hraw.push _) (pi_one (tk := s1.toks) I2 _ (turn_itP _ hx hdt hes k2) ⟨.none, .none, ?_⟩ (q xs vs en k1 hl))
    exact Heap.get?_push_size _ rfl
  show wpAny _ _ (callWith cpos (.builtin "dict.items") [.ref d] [] []) _ X.xe s1
  exact method_meetsIn F.slot_dict_items F.entry_dict_items rfl (PySem.evalArgs_none ⟨rfl, hraw.typeIs, F.args_dict_items_1 _, _, DT.meetsItems (es := es) (ep := ep) dp.sys, hraw, fin⟩)
/-- for a, b in d.items(): d a dict that stays -/
theorem sd_items {elts : List Expr} {kk : Nat} {tpos apos cpos : Pos} {body : List Stmt} (Iv : Nat → List Sl → Prop) (hi : PD X e δ (.o (rDk X.prog X.w K eW kvs))) (h0 : Iv 0 δ)
    (hs : ∀ (i : Nat) (x : T × W) (δ1 : List Sl), kvs[i]? = some x → Iv i δ1 → ∃ δ2 js, GD X (.Tuple elts kk tpos) (.d (.tuple [K.enc x.1, eW x.2])) δ1 δ2 js ∧ SD X body δ2 { nx := Iv (i + 1), rt := E.rt, rs := E.rs, bk := E.nx, ct := Iv (i + 1) }) (hd : ∀ δ1, Iv kvs.length δ1 → E.nx δ1)
    (hp : PassesOwn (model X.prog X.w) X.A X.env X.xe) (hc : X.calm = true) (hbase : attributeBase e "items" X.env (eval e X.env) = eval e X.env := by rfl) (hline : (apos.endLine == cpos.line) = true := by rfl)
    (hf : ∀ y, foldedSetIterable (.Call (.Attribute e "items" apos) [] [] cpos) X.env y = pure y := by intro _; rfl) : SD1 X (.For (.Tuple elts kk tpos) (.Call (.Attribute e "items" apos) [] [] cpos) body [] pos) δ E := by
  refine .of (ps_for hp hc (pi_itP (K := K) (eW := eW) hi.pe hbase hline) pg_u pss_u hf) fun σ G0 H0 G H g re => .in g.s re fun v H1 G1 g1 a1 => ?_
  obtain ⟨d, o, rfl, hdo, dp⟩ := a1
  refine ⟨d, o, kvs, G1, rfl, g1.s _ _ hdo, dp, g1.s, fun xs vs en k1 hl => ?_⟩
  have stay : ∀ {i : Nat} {σ2 : L2.St} {H2 : Hp}, (∃ G2 δ2, Gr G0 H0 G2 H2 ∧ Same G1 G2 ∧ RE H0 G2 H2 σ2 δ2 ∧ Iv i δ2) → H2 d = some (DkO d o) := fun ⟨G2, _, g2, s2, _⟩ => g2.s _ _ (s2 _ _ hdo)
  refine ⟨fun i m σ2 H2 => m = xs.length - i ∧ i ≤ xs.length ∧ ∃ G2 δ2, Gr G0 H0 G2 H2 ∧ Same G1 G2 ∧ RE H0 G2 H2 σ2 δ2 ∧ Iv i δ2, ⟨xs.length, rfl, Nat.zero_le _, G1, δ, g.trans g1, .refl _, re.grow g1, h0⟩, ?_⟩
  rintro i m σ2 H2 ⟨rfl, hle, z⟩
  have hdH := stay z
  by_cases hlt : i < xs.length
  · refine .inr ⟨⟨hdH, hlt⟩, fun σ3 H3 => ∃ G2 δ2, Gr G0 H0 G2 H3 ∧ Same G1 G2 ∧ RE H0 G2 H3 σ3 δ2 ∧ Iv (i + 1) δ2, fun σ' H' p' => ⟨xs.length - (i + 1), by omega, rfl, hlt, p'⟩, fun y H' hy => ?_⟩
    obtain ⟨T0, x, v, hxi, hvi, rfl, hT, rfl⟩ := hy
    obtain ⟨G2, δ2, g2, s2, re2, iv⟩ := z
    obtain ⟨kv, hkv⟩ : ∃ kv, kvs[i]? = some kv := ⟨_, List.getElem?_eq_getElem (by rw [← hl]; exact hlt)⟩
    obtain ⟨δ3, js, hg, hb⟩ := hs i kv δ2 hkv iv
    have hz : (x, kv) ∈ xs.zip kvs := List.mem_of_getElem? (i := i) (by rw [List.getElem?_zip_eq_some]; exact ⟨hxi, hkv⟩)
    have er := en.zip _ hz
    obtain ⟨dv, hdv, dqv⟩ := dpa_back k1 hvi
    rw [List.getElem?_map, hkv] at hdv
    obtain rfl : eW kv.2 = dv := Option.some.inj hdv
    have gn := Gr.new (o := .tup [.ref x.2.1, v]) g2.s hT
    have hq : Dq (upd G2 T0 (.tup [.ref x.2.1, v])) (.ref T0) (.tuple [K.enc kv.1, eW kv.2]) := dp_newt (.cons (dp_up s2 er.at_) (.cons (dp_up s2 dqv) .nil)) (g2.s.free hT)
    refine ⟨.d (.tuple [K.enc kv.1, eW kv.2]), δ2, δ3, js, H0, _, hg, gn.s, re2.grow gn, hq, fun σ3 H3 G3 g3 re3 _ => ?_⟩
    have g03 := (g2.trans gn).trans g3
    have s13 := (s2.trans gn.g).trans g3.g
    refine ⟨δ3, _, G3, H0, G3, hb, .self g03.h g03.s, re3, fun σ4 H4 z => ?_, fun v4 H4 z => ?_, fun σ4 H4 z => ?_, fun σ4 H4 z => ?_⟩
    · obtain ⟨G4, δ4, g4, re4, q4⟩ := z
      exact ⟨G4, δ4, g03.comp0 g4, s13.trans g4.g, re4, q4⟩
    · obtain ⟨G4, q, g4, a4, q4⟩ := z
      exact ⟨G4, q, g03.comp0 g4, a4, q4⟩
    · obtain ⟨G4, δ4, g4, re4, q4⟩ := z
      exact ⟨G4, δ4, g03.comp0 g4, re4, q4⟩
    · obtain ⟨G4, δ4, g4, re4, q4⟩ := z
      exact ⟨G4, δ4, g03.comp0 g4, s13.trans g4.g, re4, q4⟩
  · have e : i = xs.length := by omega
    subst e
    obtain ⟨G2, δ2, g2, s2, re2, iv⟩ := z
    exact .inl ⟨⟨hdH, Nat.le_refl _⟩, G2, δ2, g2, re2, hd δ2 (by rw [← hl]; exact iv)⟩

theorem pf_listKo (i : Nat) {x : Str} {p2 : Pos} (B : Bt X.mg) (hc : X.calm = true) (hi : δ[i]? = some (.ow (oDk X.prog X.w K eW kvs))) (hN : X.N[i]? = some x := by rfl) (hv : Vis X.env.scope x := by first | exact Or.inl rfl | exact Or.inr (Or.inl rfl) | exact Or.inr (Or.inr rfl))
    (hdb : (x == ("__debug__" : Str)) = false := by decide) (hcd : (x == ("__classdict__" : Str)) = false := by decide) (hg : Gl X "list" := by rfl) (he : starEach [.Name x p2] X.env = [(false, eval (.Name x p2) X.env)] := by rfl) :
    PF X (.Call (.Name "list" p) [.Name x p2] [] pos) δ (kvs.map fun e => K.enc e.1) :=
  .of (pe_callTy (call_listK (K := K) (eW := eW) hc) hg B.list (by decide +kernel) (pa_cons (pe_var hN hv hdb hcd) pa_nil he) (by decide) (by decide) he) fun σ H0 G H Q gs re q => by
    obtain ⟨d, o, e1, e2, e3, e4, e5⟩ := re.dk hi
    exact ⟨.ref d, e1, d, o, kvs, G, rfl, e2, e5, gs, fun l ys hl hy => q l ys _ _ (.own gs hl) hl (gs.free hl) upd_same hy⟩
/-- the module's def as a value -/
theorem pe_fn {x : Str} {f : Addr} (hg : Gl X x) (hm : X.mg x = some (.ref f)) (hk : PySem.W.keepIn X.K (.ref f) = true) (hdb : (x == ("__debug__" : Str)) = false := by decide) : PE X (.Name x p) (tC (.ref f)) :=
  ⟨fun pins s σ H Q I h => ld_glob I hg hm ⟨.ref f, H, I, rfl, h⟩ hdb⟩
theorem rSortK_pd {rd : V → Hp → (List V → Hp → Prop) → Prop} {S : Type} {ts : List S} {enc key : S → D} {k : Nat} {f z : Str} {C : List Ar → Ar → Prop} {r : Ar} {p2 p3 : Pos} (B : Bt X.mg) (hc : ColR X rd) (O : Okd X.prog X.w X.K X.mg X.base k f [z] C) (hr : Room (k + 2) X.A) (ha : PD X a δ r)
    (hrd : ∀ (v : V) (H G : Hp) (Q : List V → Hp → Prop), Same G H → ArR G v r → (∀ vs G', Same G G' → Gr G H G' H → DqAll G' vs (ts.map enc) → Q vs H) → rd v H Q) (al : AllAlike (ts.map key)) (sb : Sortable (ts.map key)) (hk : ∀ t, t ∈ ts → (key t).depth ≤ 50 ∧ C [.d (enc t)] (.d (key t)))
    (hg : Gl X "sorted" := by rfl) (hgf : Gl X f := by rfl) (hdb : (f == ("__debug__" : Str)) = false := by decide)
    (he : backTo pos (starEach [a] X.env) = [(false, eval a X.env)] := by rfl) (hs1 : starEach [a] X.env = [(false, eval a X.env)] := by rfl) (hpl : (backTo pos (starEach [a] X.env)).any (·.1) = false := by rfl)
    (hall : (backToKw pos (keywordEach [⟨some "key", .Name f p2, p3⟩] X.env)).all (·.1.isSome) = true := by rfl) (hnone : (backToKw pos (keywordEach [⟨some "key", .Name f p2, p3⟩] X.env)).any (·.1.isNone) = false := by rfl) (hks : (backToKw pos (keywordEach [⟨some "key", .Name f p2, p3⟩] X.env)).filterMap (·.1) = [Str.ofString "key"] := by rfl) :
    PF X (.Call (.Name "sorted" p) [a] [⟨some "key", .Name f p2, p3⟩] pos) δ ((ts.mergeSort (dataLe false key)).map enc) := by
  obtain ⟨fa, fd, F, b, kp, m⟩ := O.ex
  refine .of (pe_callBK (cr_sortK hc F b hr enc key) hg B.sorted (by decide +kernel) (pa_cons ha.pe pa_nil hs1) (pk_cons (pe_fn hgf m kp hdb) pk_nil) (by decide) (by decide) he hpl hall hnone hks) fun σ H0 G H Q gs re q => .in gs re fun v H1 G1 g1 a1 => ?_
  refine ⟨v, rfl, rfl, hrd v H1 G1 _ g1.s a1 fun vs G2 s2 g2 dv => ⟨ts, G2, g2.s, dv, al, sb, hk, fun l ys H3 G3 g3 hl hG hy => ?_⟩⟩
  have gg := (g1.trans g2).trans g3
  exact q l ys _ _ (gg.trans (.own gg.s hl)) (gg.h.free hl) hG upd_same hy
end
end Fw
set_option maxHeartbeats 2000000
namespace Fw
open PySem PySem.Spec PySem.Calls PyProof.Rows L2 PySem.W

def dObj : Obj := { cls := .type "dict", data := .dict #[] }
section
variable {X : Cx} {T W : Type} [DecidableEq T] {K : Ky T} {eW : W → D}
theorem dk_nil {P : Program} {w : World} {G : Hp} {a : Addr} (h : (a == sysModules) = false) : DkP P w K eW [] G a dObj := ⟨⟨#[], 0, [], ⟨rfl, rfl, rfl⟩, rfl, rfl, .nil⟩, List.nodup_nil, h, Nat.zero_le _⟩
/-- the dict at d takes y: z -/
def rPutK (X : Cx) (K : Ky T) (eW : W → D) (d : Addr) (y z : V) (H : Hp) (Q : Hp → Prop) : Prop := ∃ o kvs k w G, H d = some (DkO d o) ∧ DkP X.prog X.w K eW kvs G d o ∧ Same G H ∧ (∃ p, y = .ref p) ∧ Dq G y (K.enc k) ∧ Dq G z (eW w) ∧ kvs.length < sizeLine ∧ ∀ o', DkP X.prog X.w K eW (putW kvs k w) G d o' → Q (upd H d (DkO d o'))
theorem put_nk {pins : List (Addr × Obj)} {σ : L2.St} {H : Hp} {s : Shared} {E : Value → Shared → Prop} {d : Addr} {y z : V} {u r : Value} {Q : Hp → Prop} (hu : X.A.units + 64 < cLine) (I : Inv X pins σ H s) (ry : RelV y u) (rz : RelV z r) (h : rPutK X K eW d y z H Q) :
    wpAny (model X.prog X.w) X.A (dictSet d u r) (fun _ s' => ∃ H', Inv X pins σ H' s' ∧ Q H') E s := by
  obtain ⟨o, kvs, k, w, G, hd, dp, gs, ⟨p, rfl⟩, hk, hz, hl, q⟩ := h
  obtain rfl : u = Value.ref p := ry
  obtain ⟨xs, es, ep, m, e, hlen, _⟩ := dk_of I gs (dk_raw I hd) dp
  refine wpAny_dictSet_heap (knd := nestedKind X.prog X.w) (k := keyOf (K.enc k)) (hsz := by rw [hlen]; omega) (show X.A.units + 8 < cLine by omega) (ky_is I gs hk) m fun h' m' hs => ?_
  obtain ⟨o', ho', dp'⟩ := dk_put dp hk rz hz hl e m'
  exact ⟨_, d_write I (by rw [hd]; exact True.intro) hs ⟨_, ho'⟩ (dk_obj ho'), q o' dp'⟩
/-- {k: v for tg in it}: D the new dict -/
def tDcK (X : Cx) (K : Ky T) (eW : W → D) (wi : TI) (g : TG) (tk tv : TE) (vs : List Nat) : TE := fun σ H Q => wi σ H fun J H1 => ∀ d, H1 d = none → (d == sysModules) = false → ∃ Wn : Nat → Nat → Hp → Prop, (∃ m, Wn 0 m (upd H1 d (DkO d dObj))) ∧ ∀ i m H, Wn i m H →
  (J.stop i H ∧ Q (.ref d) H) ∨ (J.go i H ∧ ∃ Nx : Hp → Prop, (∀ H', Nx H' → ∃ m', m' < m ∧ Wn (i + 1) m' H') ∧ ∀ x H', J.yld i H x H' → g x (L2.wipe σ vs) H' fun σ2 H2 => L2.wipe σ2 vs = L2.wipe σ vs ∧ tk σ2 H2 fun y H4 => tv σ2 H4 fun z H5 => rPutK X K eW d y z H5 Nx)
theorem pe_dcK {kx vx tg iter : Expr} {scope : Scope} {own : List (Str × Nat)} {pos : Pos} {wi : TI} {g : TG} {tk tv : TE} (hc : X.calm = true) (hN : X.N.Nodup) (hu : X.A.units + 64 < cLine) (hi : PI X tg iter wi) (ok : BlkOk X.N X.env.scope scope own)
    (hg : ∀ (s : Shared) (H : Hp) (C : Addr) (cl : List (Str × Addr)) (fp : List Addr), PG (X.blk s H scope (compEnvC scope cl C X.env) fp) tg g) (hk : ∀ (s : Shared) (H : Hp) (C : Addr) (cl : List (Str × Addr)) (fp : List Addr), PE (X.blk s H scope (compEnvC scope cl C X.env) fp) kx tk)
    (he : ∀ (s : Shared) (H : Hp) (C : Addr) (cl : List (Str × Addr)) (fp : List Addr), PE (X.blk s H scope (compEnvC scope cl C X.env) fp) vx tv) (hs : ∀ x, foldedSetIterable iter X.env x = pure x := by intro _; rfl) :
    PE X (.DictComp kx vx [⟨tg, iter, [], 0⟩] scope pos) (tDcK X K eW wi g tk tv (own.map (·.2))) := by
  refine ⟨fun pins s σ H Q I h => ?_⟩
  rw [arm_eval_DictComp]
  have hfree : ∀ y ∈ scope.names, y.2 = .free → ∃ c, X.env.cells.lookup y.1 = some c := fun y hy e => (ok.free y hy e).elim (fun k => I.ok.has _ (.inl k)) fun k => I.ok.has _ (.inr k)
  refine wpAny_comprehension_free rfl hs (closure_ok hfree) ok.kind (fun y hy e => by rw [ok.uniq y hy, e]) (thn (hi.run pins s σ H _ I h) fun xv s1 hx => thn hx fun itv s2 h2 => ?_)
  obtain ⟨it, fp, tn, J, H2, e, I2, T0, st2, f2, q⟩ := h2
  subst e
  refine wpAny_newObj_type (newEnv_comp ?_)
  generalize hD : s2.heap.objs.size = d
  have hDn : H2 d = none := I2.hok.fresh (Nat.le_of_eq hD)
  have hsys : (d == sysModules) = false := beq_eq_false_iff_ne.mpr (by rw [← hD]; exact Nat.ne_of_gt I2.big)
  obtain ⟨Wn, ⟨m0, w0⟩, turn⟩ := q d hDn hsys
  generalize hs3 : ({ s2 with heap := s2.heap.push { cls := .type "dict", data := .dict #[] } } : Shared) = s3
  have h3 : s3.heap = s2.heap.push { cls := .type "dict", data := .dict #[] } := by rw [← hs3]
  have I3 : Inv X pins σ (upd H2 d (DkO d dObj)) s3 := by
    rw [← hs3]
    exact I2.laid (t' := s2.toks) (fun b o e => Heap.get?_push_of_some _ e) (Nat.le_of_eq hD) (dk_obj (by rw [← hD]; exact Heap.get?_push_size _ rfl))
  have sz : ∀ b ∈ fp, b < s2.heap.objs.size := fun b hb => let ⟨o, e, _⟩ := T0.obj _ _ st2 b hb; Heap.lt_size e
  have f3 : ∀ b ∈ fp, FpOk X pins (upd H2 d (DkO d dObj)) b ∧ b < s3.heap.objs.size := fun b hb => by
    have hlt := sz b hb
    refine ⟨⟨?_, (f2 b hb).2⟩, by rw [h3, Heap.size_push]; exact Nat.lt_succ_of_lt hlt⟩
    rw [upd_ne (by rw [← hD]; exact Nat.ne_of_lt hlt)]
    exact (f2 b hb).1
  have st3 : tn 0 s3.heap := T0.keep _ _ _ st2 fun b _ o e => by rw [h3]; exact Heap.get?_push_of_some _ e
  have I4 := block_start I3 ok hN f3
  have pg := hg s3 (upd H2 d (DkO d dObj)) s3.heap.objs.size (cellsFrom (s3.heap.objs.size + 1) scope.names (cloFrom X.env.cells scope.names [])) fp
  have pk := hk s3 (upd H2 d (DkO d dObj)) s3.heap.objs.size (cellsFrom (s3.heap.objs.size + 1) scope.names (cloFrom X.env.cells scope.names [])) fp
  have pe := he s3 (upd H2 d (DkO d dObj)) s3.heap.objs.size (cellsFrom (s3.heap.objs.size + 1) scope.names (cloFrom X.env.cells scope.names [])) fp
  show codeAny _ _ (.compStart (.DictComp kx vx [⟨tg, iter, [], 0⟩] scope pos) 0 (.ref it) (.ref d) (compEnvC scope (cellsFrom (s3.heap.objs.size + 1) scope.names (cloFrom X.env.cells scope.names [])) s3.heap.objs.size X.env)) (compPost (model X.prog X.w) X.A X.xe none _ (.ref d) s3.heap.objs.size) { s3 with heap := pushCells (s3.heap.push { cls := .type "dict", data := .dict #[] }) scope.names }
  have nfp : ∀ b ∈ fp, (upd H2 d (DkO d dObj)) b = none := fun b hb => (f3 b hb).1.1
  generalize hce : compEnvC scope (cellsFrom (s3.heap.objs.size + 1) scope.names (cloFrom X.env.cells scope.names [])) s3.heap.objs.size X.env = ce at I4 pg pk pe ⊢
  have cL : ce.locals = s3.heap.objs.size := by subst hce; rfl
  generalize hH3 : upd H2 d (DkO d dObj) = H3 at I3 I4 pg pk pe w0 nfp f3
  generalize hs4 : ({ s3 with heap := pushCells (s3.heap.push { cls := .type "dict", data := .dict #[] }) scope.names } : Shared) = s4 at I4 ⊢
  have st4 : tn 0 s4.heap := T0.keep _ _ _ st3 fun b _ o e => by rw [← hs4]; exact pushCells_keeps _ _ _ _ (Heap.get?_push_of_some _ e)
  have stat : ∀ {σ' : L2.St} {H' : Hp} {s' : Shared}, Inv (X.blk s3 H3 scope ce fp) [] σ' H' s' → (∀ b ∈ fp, H' b = none) → ∀ b ∈ fp, FpOk (X.blk s3 H3 scope ce fp) [] H' b := fun {σ' H' s'} I' hn b hb =>
    ⟨hn b hb, (I'.ok.exf b hb).1, I'.ok.exfs b hb, .inl hb, fun x c e => (I'.ok.exf b hb).2 x c e, fun p hp => absurd (show p ∈ ([] : List (Addr × Obj)) ++ [] from hp) (by simp)⟩
  have loop : codeAny (model X.prog X.w) X.A (.compLoop (.DictComp kx vx [⟨tg, iter, [], 0⟩] scope pos) 0 (.ref it) (.ref d) ce) (compPost (model X.prog X.w) X.A X.xe none (EP X pins σ Q) (.ref d) s3.heap.objs.size) s4 := by
    refine compLoop_anyD (fun n s' => ∃ i H', Inv (X.blk s3 H3 scope ce fp) [] (L2.wipe σ (own.map (·.2))) H' s' ∧ tn i s'.heap ∧ (∀ b ∈ fp, H' b = none) ∧ Wn i n H') ?_ m0 ⟨0, H3, I4, st4, nfp, w0⟩
    rintro n s5 ⟨i, H5, I5, st5, n5, w5⟩
    rcases turn i n H5 w5 with ⟨stop, qq⟩ | ⟨go, Nx, hNx, step⟩
    · refine thnF (T0.done (X.blk s3 H3 scope ce fp) rfl rfl rfl hc i [] s5 _ H5 (fun _ _ => False) I5 (stat I5 n5) st5 stop) fun r s6 ⟨hr, I6⟩ => ?_
      subst hr
      have I7 : Inv X pins σ H5 s6 := I3.call' (ch := fp) I6.os I6.base I6.hok I6.bare fun b hb => ⟨(f3 b hb).1.2.2.2.1, (f3 b hb).1.2.1, (f3 b hb).1.2.2.2.2.1, (f3 b hb).1.2.2.2.2.2⟩
      have nC : H5 s3.heap.objs.size = none := by
        have z : H5 ce.locals = none := I6.free
        rwa [cL] at z
      obtain ⟨m, hn, _⟩ := I6.loc
      have hn : s6.heap.Ns ce.locals m := hn
      rw [cL] at hn
      obtain ⟨g0, g1, g2, g3, g4, g5⟩ := I3.fpOk (Nat.le_refl _) nC
      exact ⟨m, hn, fun h'' sb => ⟨.ref d, H5, I7.turned (t' := s6.toks) (fun b o hb e => (sb.2 b hb).trans e) g0 g1 g3 g4 g5, rfl, qq⟩⟩
    · refine thnF (T0.item (X.blk s3 H3 scope ce fp) rfl rfl rfl hc i [] s5 _ H5 (fun _ _ => False) I5 (stat I5 n5) st5 go) fun r s6 ⟨u, hr, h6⟩ => ?_
      subst hr
      refine thnF h6 fun _ s7 ⟨x, H7, I7, r7, y7, st7, n7⟩ => ?_
      have I7' := I7.pinned (stat I7 n7) (T0.obj _ _ st7)
      refine thnF (pg.run _ s7 _ H7 x u _ I7' r7 (step x H7 y7)) fun _ s8 ⟨σ8, H8, I8, hw8, q8⟩ => ?_
      rw [List.forIn_nil]
      refine wpAny_pure ?_
      simp only [if_true]
      have fin : ∀ {s' : Shared} {H' : Hp}, Inv (X.blk s3 H3 scope ce fp) ([] ++ pinsAt fp s7.heap) σ8 H' s' → Nx H' → ∃ m, m < n ∧ ∃ i H', Inv (X.blk s3 H3 scope ce fp) [] (L2.wipe σ (own.map (·.2))) H' s' ∧ tn i s'.heap ∧ (∀ b ∈ fp, H' b = none) ∧ Wn i m H' := fun {s' H'} I' nx => by
        obtain ⟨m', hm, w'⟩ := hNx H' nx
        have pin' : ∀ b ∈ fp, ∀ o, s7.heap.get? b = some o → s'.heap.get? b = some o ∧ H' b = none := fun b hb o e =>
          let z := I'.pin (b, o) (List.mem_append_right _ (List.mem_append_right _ (mem_pinsAt hb e)))
          ⟨z.1, z.2.1⟩
        have hl : (L2.wipe σ (own.map (·.2))).length = σ8.length := by rw [← hw8, wipe_length]
        refine ⟨m', hm, i + 1, H', (I'.unpinned (pins := [])).weak hl (fun j v e => ?_), T0.keep _ _ _ st7 fun b hb o e => (pin' b hb o e).1, fun b hb => ?_, w'⟩
        · rw [← hw8] at e
          exact (wipe_some e).1
        · obtain ⟨o, e, _⟩ := T0.obj _ _ st7 b hb
          exact (pin' b hb o e).2
      refine thnF (pk.run _ s8 σ8 H8 _ I8 q8) fun z s10 ⟨yk, H10, I10, r10, q10⟩ => ?_
      refine thnF (pe.run _ s10 σ8 H10 _ I10 q10) fun z2 s11 ⟨yv, H11, I11, r11, q11⟩ => ?_
      exact thnF (put_nk (X := X.blk s3 H3 scope ce fp) (E := fun _ _ => False) hu I11 r10 r11 q11) fun _ s12 ⟨H12, I12, nx⟩ => fin I12 nx
  exact codeAny_compStart_dict loop (T0.self X.A 0 _ _ _ st4 loop)
end
end Fw
set_option maxHeartbeats 2000000
namespace Fw
open PySem PySem.Spec PySem.Calls PyProof.Rows L2 PySem.W

section
variable {X : Cx} {T W : Type} [DecidableEq T] {K : Ky T} {eW : W → D} {kvs : List (T × W)} {δ : List Sl} {e a b : Expr} {pos p : Pos} {E : DE} {k : T} {w : W} {S : Type}
def putAll (kf : S → T) (vf : S → W) (xs : List S) : List (T × W) := xs.foldl (fun acc x => putW acc (kf x) (vf x)) []
theorem putAll_take {kf : S → T} {vf : S → W} {xs : List S} {i : Nat} {x : S} (h : xs[i]? = some x) : putAll kf vf (xs.take (i + 1)) = putW (putAll kf vf (xs.take i)) (kf x) (vf x) := by
  unfold putAll
  rw [List.take_add_one, h]
  show List.foldl _ _ (xs.take i ++ [x]) = _
  rw [List.foldl_append]
  rfl
theorem putAll_len {kf : S → T} {vf : S → W} {xs : List S} : (putAll kf vf xs).length ≤ xs.length := by
  have h : ∀ (xs : List S) (acc : List (T × W)), (xs.foldl (fun acc x => putW acc (kf x) (vf x)) acc).length ≤ acc.length + xs.length := by
    intro xs
    induction xs with
    | nil => intro acc; simp
    | cons x xs ih =>
      intro acc
      rw [List.foldl_cons, List.length_cons]
      have h1 := ih (putW acc (kf x) (vf x))
      have h2 := putW_len acc (kf x) (vf x)
      omega
  have := h xs []
  simpa [putAll] using this
theorem dk_up {P : Program} {w : World} {G G' : Hp} {a : Addr} {o : Obj} {kvs : List (T × W)} (h : DkP P w K eW kvs G a o) (s : Same G G') : DkP P w K eW kvs G' a o := h.up s
/-- {k: v for tg in it}, it a list or a tuple of data -/
theorem pd_dcK {kx vx tg it : Expr} {scope : Scope} {own : List (Str × Nat)} {d : D} {xs : List S} {enc : S → D} {kf : S → T} {vf : S → W} (hc : X.calm = true) (hN : X.N.Nodup) (hu : X.A.units + 64 < cLine) (hi : PD X it δ (.d d)) (hx : seqD d = some (xs.map enc)) (ok : BlkOk X.N X.env.scope scope own)
    (ht : ∀ x ∈ xs, ∃ δ' js, GB X scope tg (.d (enc x)) (wipeD δ (own.map (·.2))) δ' js ∧ (∀ j ∈ js, j ∈ own.map (·.2)) ∧ PB X scope kx δ' (.d (K.enc (kf x))) ∧ PB X scope vx δ' (.d (eW (vf x))))
    (hs : ∀ y, foldedSetIterable it X.env y = pure y := by intro _; rfl) : PD X (.DictComp kx vx [⟨tg, it, [], 0⟩] scope pos) δ (.o (rDk X.prog X.w K eW (putAll kf vf xs))) := by
  refine .of (pe_dcK (K := K) (eW := eW) hc hN hu (pi_seqB hi.pe) ok (fun s H C cl fp => pg_ub s H C cl fp) (fun s H C cl fp => pe_ub s H C cl fp) (fun s H C cl fp => pe_ub s H C cl fp) hs) fun σ H0 G H Q gs re k => .in gs re fun v H1 G1 g1 a1 => ?_
  obtain ⟨q, vs, rfl, hq, hv⟩ := seq_at a1 hx
  have hlen : vs.length = xs.length := by rw [dpa_len hv, List.length_map]
  have re1 := re.grow g1
  have body : vs.length ≤ sizeLine → ∀ (dd : Addr), H1 dd = none → ∀ i x H', vs[i]? = some x → (∃ G' o, Gr G1 H1 G' H' ∧ G' dd = none ∧ H' dd = some (DkO dd o) ∧ DkP X.prog X.w K eW (putAll kf vf (xs.take i)) G' dd o) →
      uGB X scope tg x (L2.wipe σ (own.map (·.2))) H' fun σ2 H2 => L2.wipe σ2 (own.map (·.2)) = L2.wipe σ (own.map (·.2)) ∧ uEB X scope kx σ2 H2 fun y H4 => uEB X scope vx σ2 H4 fun z H5 => rPutK X K eW dd y z H5 (fun H6 => ∃ G' o, Gr G1 H1 G' H6 ∧ G' dd = none ∧ H6 dd = some (DkO dd o) ∧ DkP X.prog X.w K eW (putAll kf vf (xs.take (i + 1))) G' dd o) := by
    rintro hz dd hdd i x H' ex ⟨G', o, g', h1, h2, h3⟩
    obtain ⟨y0, ey0, hy⟩ := dpa_back hv ex
    rw [List.getElem?_map] at ey0
    obtain ⟨y, ey, rfl⟩ := Option.map_eq_some_iff.mp ey0
    obtain ⟨δ2, js, hg, hj, hk, he⟩ := ht y (List.mem_of_getElem? ey)
    refine ⟨.d (enc y), _, δ2, js, H0, G', hg, g'.s, (re1.grow g').wipe _, dp_up g'.g hy, fun σ2 H2 G2 g2 re2 ag => ⟨?_, ?_⟩⟩
    · rw [ag.wipe hj, wipe_twice]
    · have hd2 := gone h1 h2 g2
      refine ⟨δ2, _, H0, G2, hk, g2.s, re2, fun yk H3 G3 g3 a3 => ?_⟩
      have hd3 := gone hd2 (g2.h _ _ h2) g3
      refine ⟨δ2, _, H0, G3, he, g3.s, re2.grow g3, fun yv H4 G4 g4 a4 => ?_⟩
      have hd4 := gone hd3 (g3.h _ _ (g2.h _ _ h2)) g4
      have g24 := (g2.trans g3).trans g4
      have hdH := g24.h _ _ h2
      have hl : (putAll kf vf (xs.take i)).length < sizeLine := by
        have e1 : (putAll kf vf (xs.take i)).length ≤ (xs.take i).length := putAll_len
        rw [List.length_take] at e1
        have e3 : i < vs.length := (List.getElem?_eq_some_iff.mp ex).1
        omega
      obtain ⟨ds, et⟩ := K.tup (kf y)
      have a3' := a3
      simp only [ArR] at a3'
      rw [et] at a3'
      cases a3' with
      | tup t1 t2 =>
        refine ⟨o, _, kf y, vf y, G4, hdH, dk_up h3 g24.g, g4.s, ⟨_, rfl⟩, dp_up g4.g a3, a4, hl, fun o' dp' => ?_⟩
        rw [putAll_take ey]
        exact ⟨G4, o', (g'.trans g24).mut hdd hd4, hd4, upd_same, dp'⟩
  have fin : ∀ dd, H1 dd = none → ∀ H', (∃ G' o, Gr G1 H1 G' H' ∧ G' dd = none ∧ H' dd = some (DkO dd o) ∧ DkP X.prog X.w K eW (putAll kf vf (xs.take vs.length)) G' dd o) → Q (.ref dd) H' := by
    rintro dd hdd H' ⟨G', o, g', h1, h2, h3⟩
    rw [hlen, List.take_length] at h3
    have gf := g'.freeze hdd h1 h2
    exact k _ H' _ (g1.trans gf) ⟨dd, o, rfl, upd_same, dk_up h3 fun b u e => by rw [upd_ne (ne_of_none e h1)]; exact e⟩
  have stay : ∀ {dd : Addr} {i : Nat} {H2 : Hp}, (∃ G' o, Gr G1 H1 G' H2 ∧ G' dd = none ∧ H2 dd = some (DkO dd o) ∧ DkP X.prog X.w K eW (putAll kf vf (xs.take i)) G' dd o) → ∀ o, G1 q = some o → H2 q = some o := fun ⟨G2, _, g2, _⟩ o h => g2.s _ _ (g2.g _ _ h)
  have first : ∀ dd, H1 dd = none → (dd == sysModules) = false → ∃ G' o, Gr G1 H1 G' (upd H1 dd (DkO dd dObj)) ∧ G' dd = none ∧ (upd H1 dd (DkO dd dObj)) dd = some (DkO dd o) ∧ DkP X.prog X.w K eW (putAll kf vf (xs.take 0)) G' dd o := fun dd hdd hsys =>
    ⟨G1, dObj, .own g1.s hdd, g1.s.free hdd, upd_same, dk_nil hsys⟩
  refine ⟨q, vs, rfl, ?_⟩
  rcases hq with hq | hq
  · refine .inl ⟨g1.s _ _ hq, fun hz dd hdd hsys => ⟨fun i m H2 => m = vs.length - i ∧ i ≤ vs.length ∧ ∃ G' o, Gr G1 H1 G' H2 ∧ G' dd = none ∧ H2 dd = some (DkO dd o) ∧ DkP X.prog X.w K eW (putAll kf vf (xs.take i)) G' dd o, ⟨vs.length, by simp, Nat.zero_le _, first dd hdd hsys⟩, ?_⟩⟩
    rintro i m H2 ⟨rfl, hle, z⟩
    by_cases hlt : i < vs.length
    · refine .inr ⟨⟨vs, vs[i], SqL.of (stay z _ hq), by simp [hlt]⟩, fun H' => ∃ G' o, Gr G1 H1 G' H' ∧ G' dd = none ∧ H' dd = some (DkO dd o) ∧ DkP X.prog X.w K eW (putAll kf vf (xs.take (i + 1))) G' dd o, fun H' p' => ⟨vs.length - (i + 1), by omega, rfl, hlt, p'⟩, fun x H' y => ?_⟩
      obtain ⟨rfl, y⟩ := y
      exact body hz dd hdd i x _ (y vs (SqL.of (stay z _ hq))) z
    · obtain rfl : i = vs.length := by omega
      exact .inl ⟨⟨vs, SqL.of (stay z _ hq), Nat.le_refl _⟩, fin dd hdd H2 z⟩
  · refine .inr ⟨g1.s _ _ hq, fun hz dd hdd hsys => ⟨fun i m H2 => m = vs.length - i ∧ i ≤ vs.length ∧ ∃ G' o, Gr G1 H1 G' H2 ∧ G' dd = none ∧ H2 dd = some (DkO dd o) ∧ DkP X.prog X.w K eW (putAll kf vf (xs.take i)) G' dd o, ⟨vs.length, by simp, Nat.zero_le _, first dd hdd hsys⟩, ?_⟩⟩
    rintro i m H2 ⟨rfl, hle, z⟩
    by_cases hlt : i < vs.length
    · refine .inr ⟨⟨vs, vs[i], SqT.of (stay z _ hq), by simp [hlt]⟩, fun H' => ∃ G' o, Gr G1 H1 G' H' ∧ G' dd = none ∧ H' dd = some (DkO dd o) ∧ DkP X.prog X.w K eW (putAll kf vf (xs.take (i + 1))) G' dd o, fun H' p' => ⟨vs.length - (i + 1), by omega, rfl, hlt, p'⟩, fun x H' y => ?_⟩
      obtain ⟨rfl, y⟩ := y
      exact body hz dd hdd i x _ (y vs (SqT.of (stay z _ hq))) z
    · obtain rfl : i = vs.length := by omega
      exact .inl ⟨⟨vs, SqT.of (stay z _ hq), Nat.le_refl _⟩, fin dd hdd H2 z⟩

theorem disp1 {prog : Program} {w : World} {A : Around} {env : Env} {E : Value → Shared → Prop} {s : Shared} {kx vx : Expr} {pos : Pos} {Q : Value → Shared → Prop} (hu : (nestedKind prog w).room A)
    (h : wpAny (model prog w) A (evalPairs (pairTrees [some kx] [vx] env pos)) (fun vs s₁ => ∃ ps, CarriesH (nestedKind prog w) s₁.heap vs ps ∧ s₁.heap.DictOfH (nestedKind prog w) s.heap.objs.size [] ∧
      ∀ h' tk, h'.DictOfH (nestedKind prog w) s.heap.objs.size (storedAllH [] ps) → Heap.SameBut s.heap.objs.size s₁.heap h' → Q (.ref s.heap.objs.size) { s₁ with heap := h', toks := tk }) E
      { s with heap := s.heap.push { cls := .type "dict", data := .dict #[] } }) : wpAny (model prog w) A (eval (.Dict [some kx] [vx] pos) env) Q E s := by
  have hn := pairTrees_length [some kx] [vx] env pos rfl rfl
  have h0 : pairTrees [some kx] [vx] env pos ≠ [] := by
    intro he
    rw [he] at hn
    cases hn
  have hl : (pairTrees [some kx] [vx] env pos).length ≤ 15 := by rw [hn]; show 1 ≤ 15; omega
  rw [arm_eval_Dict, zip_pairTrees [some kx] [vx] env pos rfl rfl, dictDisplay_pairs _ h0 (by omega)]
  exact wpAny_bind (wpAny_standAt (wpAny_bind (wpAny_subDictH (knd := nestedKind prog w) (Q := fun d s' => wpAny (model prog w) A (pure (Value.ref d)) Q E s') hu hl (wpAny_mono h (fun vs s₁ ⟨ps, hc, hm, hq⟩ => ⟨ps, hc, hm, fun h' tk a b => wpAny_pure (hq h' tk a b)⟩) fun _ _ e => e))))
theorem pd_dispK {kx vx : Expr} (hu : X.A.units + 64 < cLine) (hk : PD X kx δ (.d (K.enc k))) (hv : PD X vx δ (.d (eW w))) : PD X (.Dict [some kx] [vx] pos) δ (.o (rDk X.prog X.w K eW [(k, w)])) := by
  refine ⟨fun pins s σ H0 G H I gs re => ?_⟩
  have hn := I.hok.fresh (Nat.le_refl s.heap.objs.size)
  have hsys : (s.heap.objs.size == sysModules) = false := beq_eq_false_iff_ne.mpr (Nat.ne_of_gt I.big)
  have I1 := I.laid (a := s.heap.objs.size) (o := DkO s.heap.objs.size dObj) (h' := s.heap.push { cls := .type "dict", data := .dict #[] }) (t' := s.toks) (fun _ _ q => Heap.get?_push_of_some _ q) (Nat.le_refl _) (dk_obj (Heap.get?_push_size _ rfl))
  have gr := Gr.own (o := DkO s.heap.objs.size dObj) gs hn
  refine disp1 (show X.A.units + 8 < cLine by omega) (pairTrees_cons_walk (thn (hk.run pins _ σ H0 G _ I1 gr.s (re.grow gr)) fun u s2 ⟨x, H2, G2, I2, rx, g2, a2⟩ => thn (hv.run pins s2 σ H0 G2 H2 I2 g2.s ((re.grow gr).grow g2)) fun u' s3 ⟨y, H3, G3, I3, ry, g3, a3⟩ => pairTrees_nil_walk ?_))
  have g23 := g2.trans g3
  have hd : H3 s.heap.objs.size = some (DkO s.heap.objs.size dObj) := g23.h _ _ upd_same
  have hG : G3 s.heap.objs.size = none := by
    have q1 := gone (gs.free hn) upd_same g2
    exact gone q1 (g2.h _ _ upd_same) g3
  obtain ⟨ds, et⟩ := K.tup k
  have a2' := a2
  simp only [ArR] at a2'
  rw [et] at a2'
  cases a2' with
  | @tup q vs _ t1 t2 =>
    obtain rfl : u = Value.ref q := rx
    have kd := ky_is (K := K) I3 g3.s (dp_up g3.g a2)
    obtain ⟨xs, es, ep, m, en, hl, _⟩ := dk_of (K := K) (eW := eW) (kvs := []) I3 g3.s (dk_raw I3 hd) (dk_nil hsys)
    cases en
    refine ⟨[(keyOf (K.enc k), q, u')], ⟨rfl, rfl, kd, trivial⟩, m, fun h' tk m' hs => ?_⟩
    have e1 : EachIs (EntR K eW G3) (storedAllH [] [(keyOf (K.enc k), q, u')]) [(k, w)] := .cons ⟨rfl, dp_up g3.g a2, y, ry, a3⟩ .nil
    obtain ⟨o', ho', dp'⟩ := dk_back m' e1 (by simp) hsys (by show 1 ≤ sizeLine; decide)
    have g := gr.trans g23
    refine ⟨.ref s.heap.objs.size, _, upd G3 s.heap.objs.size (DkO s.heap.objs.size o'), d_write (t' := tk) I3 (by rw [hd]; exact True.intro) hs ⟨_, ho'⟩ (dk_obj ho'), rfl, ?_, ?_⟩
    · exact (g.mut (o := DkO s.heap.objs.size o') hn hG).freeze hn hG upd_same
    · exact ⟨_, o', rfl, upd_same, dk_up dp' fun b u e => by rw [upd_ne (ne_of_none e hG)]; exact e⟩
theorem call_dict1 {prog : Program} {w : World} {A : Around} {E : Value → Shared → Prop} {s : Shared} {o : Addr} {x : NestedKey × Addr × Value} {Q : Value → Shared → Prop} (hu : A.units + 64 < cLine) (hoS : (o == sysModules) = false) (ho : s.heap.DictOfH (nestedKind prog w) o [x])
    (h : ∀ h', h'.DictOfH (nestedKind prog w) s.heap.objs.size [x] → Heap.SameBut s.heap.objs.size (s.heap.push { cls := .type "dict", data := .dict #[] }) h' → Q (.ref s.heap.objs.size) { s with heap := h' }) : wpAny (model prog w) A (call (.type "dict") [.ref o]) Q E s := by
  have hlt : o < s.heap.objs.size := by
    obtain ⟨_, _, _, hg, _⟩ := ho
    exact Heap.lt_size hg
  have ho2 : (s.heap.push { cls := .type "dict", data := .dict #[] }).DictOfH (nestedKind prog w) o [x] := by
    obtain ⟨ob, es, ep, h1, h2, h3, h4, h5, h6⟩ := ho
    exact ⟨ob, es, ep, Heap.get?_push_of_some _ h1, h2, h3, h4, fun y hy => nestedKind_stays.stays (fun b ob' _ _ e _ => Heap.get?_push_of_some _ e) (h5 y hy), h6⟩
  have hnew : (s.heap.push { cls := .type "dict", data := .dict #[] }).DictOfH (nestedKind prog w) s.heap.objs.size [] := Heap.DictOfH.new s.heap
  refine callType_codes (Q₁ := fun obj s₁ => obj = .ref s.heap.objs.size ∧ s₁ = { s with heap := s.heap.push { cls := .type "dict", data := .dict #[] } }) F.kt_called_dict (F.kt_typeCall_dict_1 _) F.entry_dict_init (kt_code_dict_new _ ⟨rfl, rfl⟩) ?_
  rintro obj s₁ ⟨rfl, rfl⟩
  refine ⟨hnew.typeIs, F.args_dict_init_2 _ _, ?_⟩
  unfold Builtin.«dict.__init__»
  refine wpAny_bind ?_
  unfold Builtin.Dict.selfAndRest
  refine wpAny_bind (wpAny_notOrdered_dict hnew.typeIs ?_)
  show wpAny _ _ (pure (s.heap.objs.size, [Value.ref o])) _ _ _
  refine wpAny_pure ?_
  show wpAny _ _ (Builtin.Dict.updateFrom "dict.__init__" s.heap.objs.size (.ref o) [] .none) _ _ _
  unfold Builtin.Dict.updateFrom
  refine wpAny_bind (wpAny_typeOf ho2.typeIs ?_)
  rw [if_neg (by decide)]
  refine wpAny_bind ?_
  unfold Builtin.Dict.merge
  refine wpAny_bind ?_
  unfold Builtin.Dict.readDirectly
  refine wpAny_bind (wpAny_isInstance ho2.typeIs isSubtype_dict_dict ?_)
  simp only [Bool.not_true, Bool.false_eq_true, if_false]
  refine wpAny_bind (wpAny_specialOf ho2.typeIs F.slot_dict_iter.lookup (wpAny_pure ?_))
  simp only [beq_self_eq_true, if_true]
  refine wpAny_bind (wpAny_pure ?_)
  refine wpAny_mergeDict_heap (hsz := by show 0 + 1 ≤ sizeLine; decide) (knd := nestedKind prog w) (by unfold nestedKind; simp only; omega) (Ne.symm (Nat.ne_of_lt hlt)) hoS hnew ho2 (.inr ⟨keyed_apart nestedKind_stays ho2, by simp⟩) fun h' hd' _ hs' => ?_
  show wpAny _ _ (Builtin.Dict.addKeywords s.heap.objs.size [] >>= _) _ _ _
  exact wpAny_bind (wpAny_pure (wpAny_pure ⟨rfl, h h' hd' hs'⟩))
theorem sd_copyK (i : Nat) {x y : Str} {pos' p2 pos3 : Pos} (B : Bt X.mg) (hu : X.A.units + 64 < cLine) (hN : X.N.Nodup) (hy : PD X (.Name y p2) δ (.o (rDk X.prog X.w K eW [(k, w)]))) (hn : E.nx (δ.set i (.ow (oDk X.prog X.w K eW [(k, w)])))) (hi : X.N[i]? = some x := by rfl) (hx : Loc X.env.scope x := by first | exact Or.inl rfl | exact Or.inr rfl)
    (hg : Gl X "dict" := by rfl) (he : starEach [.Name y p2] X.env = [(false, eval (.Name y p2) X.env)] := by rfl)
    (hs : swapsWith (.Call (.Name "dict" p) [.Name y p2] [] pos) (some (.Name x pos')) pos3.line X.env = pure false := by rfl) (hf : X.fn x = true ∨ X.env.scope.names.lookup x = some .local := by first | exact .inl rfl | exact .inr rfl) :
    SD1 X (.Assign [.Name x pos'] (.Call (.Name "dict" p) [.Name y p2] [] pos) pos3) δ E := by
  have hcr : CallR X (.type "dict") (fun vs H Q => ∃ d o G, vs = [.ref d] ∧ H d = some (DkO d o) ∧ DkP X.prog X.w K eW [(k, w)] G d o ∧ Same G H ∧ ∀ q o', H q = none → DkP X.prog X.w K eW [(k, w)] G q o' → Q (.ref q) (upd H q (DkO q o'))) := by
    intro pins s σ H xs us Q I r h
    obtain ⟨d, o, G, rfl, hd, dp, gs, q⟩ := h
    rw [Vals.ref1 r]
    obtain ⟨xs, es, ep, m, en, hl, _⟩ := dk_of I gs (dk_raw I hd) dp
    cases en with
    | @cons x0 _ _ _ e0 e1 =>
      cases e1
      refine call_dict1 hu dp.sys m fun h' m' hs' => ?_
      have hsys : (s.heap.objs.size == sysModules) = false := beq_eq_false_iff_ne.mpr (Nat.ne_of_gt I.big)
      obtain ⟨o', ho', dp'⟩ := dk_back (K := K) (eW := eW) (G := G) m' (.cons e0 .nil) (by simp) hsys (by show 1 ≤ sizeLine; decide)
      exact ⟨.ref s.heap.objs.size, _, I.laid (t' := s.toks) (fun b u e => (hs'.2 b (Nat.ne_of_lt (Heap.lt_size e))).trans (Heap.get?_push_of_some _ e)) (Nat.le_refl _) (dk_obj ho'), rfl, q _ o' (I.hok.fresh (Nat.le_refl _)) dp'⟩
  refine .of (ps_set hN hi hx (pe_callTy hcr hg B.dict (by decide +kernel) (pa_cons hy.pe pa_nil he) (by decide) (by decide) he) hs hf) fun σ G0 H0 G H g re => .in g.s re fun v H1 G1 g1 a1 => ?_
  obtain ⟨d, o, rfl, hd, dp⟩ := a1
  refine ⟨d, o, G1, rfl, g1.s _ _ hd, dp, g1.s, fun q o' hq dp' => ?_⟩
  have re1 := re.grow g1
  have gr := Gr.own (o := DkO q o') g1.s hq
  have g01 := g.trans g1
  refine ⟨G1, _, g01.trans gr, (re1.grow gr).setOw (O := oDk X.prog X.w K eW [(k, w)]) i upd_same (g1.s.free hq) (g01.h.free hq) ⟨o', rfl, dp'⟩ (fun j O' nj ej es => ?_), hn⟩
  obtain ⟨q', ob, e1, e2, _⟩ := re1.ow ej
  rw [e1] at es
  cases es
  rw [hq] at e2
  cases e2
end
end Fw
set_option maxHeartbeats 1000000
namespace Fw
open PySem PySem.Spec PyProof.Rows L2 PySem.W

/-- a field: what stands there, or a list of our own of n things at most -/
inductive Fd where
  | a (r : Ar)
  | l (n : Nat)
abbrev Fds := List (Str × Fd)
def FdR (H0 G H : Hp) (x : Str × V) (e : Str × Fd) : Prop := x.1 = e.1 ∧ match e.2 with
  | .a r => ArR G x.2 r
  | .l n => ∃ l vs, x.2 = .ref l ∧ H l = some (.lst vs) ∧ vs.length ≤ n ∧ G l = none ∧ H0 l = none
theorem FdR.up {H0 H0' G H G' H' : Hp} {x : Str × V} {e : Str × Fd} (h1 : ∀ a o, H0 a = none → H a = some o → H' a = some o) (hl : ∀ a o, H a = some o → H0 a = none → H0' a = none) (h2 : Same G G') (h3 : ∀ a o, G' a = some o → (∃ u, G a = some u) ∨ H a = none) (h : FdR H0 G H x e) : FdR H0' G' H' x e := by
  obtain ⟨f, d⟩ := e
  cases d with
  | a r => exact ⟨h.1, ar_up h2 h.2⟩
  | l n =>
    obtain ⟨k, l, vs, e1, e2, e3, e4, e5⟩ := h
    refine ⟨k, l, vs, e1, h1 _ _ e5 e2, e3, ?_, hl _ _ e2 e5⟩
    cases q : G' l with
    | none => rfl
    | some u =>
      rcases h3 l u q with ⟨u', z⟩ | z
      · rw [e4] at z; cases z
      · rw [e2] at z; cases z
def isL : Fd → Bool
  | .l _ => true
  | _ => false
/-- the lists are apart -/
def Dis (fs : List (Str × V)) (fds : Fds) : Prop := ∀ (i j : Nat) (d d' : Str × Fd) (f g : Str) (l : Addr), fds[i]? = some d → fds[j]? = some d' → isL d.2 = true → isL d'.2 = true → fs[i]? = some (f, .ref l) → fs[j]? = some (g, .ref l) → i = j
structure ObP (C a : Addr) (fds : Fds) (H0 G H : Hp) (v : V) : Prop where
  at_ : v = .ref a
  ex : ∃ dx fs, H a = some (.ins C dx fs) ∧ H dx = some (.own a) ∧ G a = none ∧ G dx = none ∧ H0 a = none ∧ H0 dx = none ∧ EachIs (FdR H0 G H) fs fds ∧ Dis fs fds
theorem gone_at {H G G' : Hp} {a : Addr} {o : HO} (h : G a = none) (e : H a = some o) (h3 : ∀ a o, G' a = some o → (∃ u, G a = some u) ∨ H a = none) : G' a = none := by
  cases q : G' a with
  | none => rfl
  | some u =>
    rcases h3 a u q with ⟨u', z⟩ | z
    · rw [h] at z; cases z
    · rw [e] at z; cases z
/-- an object of ours at a -/
def gpO (C a : Addr) (fds : Fds) : Gp where
  P := ObP C a fds
  up := fun {H0 H0' G H G' H' v} h1 hl h2 h3 h => by
    obtain ⟨e, dx, fs, k1, k2, k3, k4, k5, k6, k7, k8⟩ := h
    exact ⟨e, dx, fs, h1 _ _ k5 k1, h1 _ _ k6 k2, gone_at k3 k1 h3, gone_at k4 k2 h3, hl _ _ k1 k5, hl _ _ k2 k6, k7.mono fun x d q => q.up h1 hl h2 h3, k8⟩
/-- an object that stays -/
def rObj (C : Addr) (fds : List (Str × Ar)) : Rp where
  P := fun G v => ∃ a dx fs, v = .ref a ∧ G a = some (.ins C dx fs) ∧ EachIs (fun x e => x.1 = e.1 ∧ ArR G x.2 e.2) fs fds
  up := fun e ⟨a, dx, fs, h1, h2, h3⟩ => ⟨a, dx, fs, h1, e _ _ h2, h3.mono fun _ _ q => ⟨q.1, ar_up e q.2⟩⟩
/-- some list -/
def rLst (n : Nat) : Rp where
  P := fun G v => ∃ l vs, v = .ref l ∧ G l = some (.lst vs) ∧ vs.length ≤ n
  up := fun e ⟨l, vs, h1, h2, h3⟩ => ⟨l, vs, h1, e _ _ h2, h3⟩
/-- data of which p is told -/
def exR (p : D → Prop) : Rp where
  P := fun G v => ∃ d, Dq G v d ∧ p d
  up := fun e ⟨d, h1, h2⟩ => ⟨d, dp_up e h1, h2⟩
theorem look_fd {α β : Type} {R : Str × α → Str × β → Prop} (hR : ∀ x e, R x e → x.1 = e.1) {f : Str} {b : β} : ∀ {fs : List (Str × α)} {es : List (Str × β)}, EachIs R fs es → es.lookup f = some b → ∃ a g, fs.lookup f = some a ∧ R (g, a) (g, b)
  | _, _, .nil, h => by cases h
  | (g, x) :: fs, (g', e) :: es, .cons r t, h => by
    obtain rfl : g = g' := hR _ _ r
    by_cases q : f == g
    · rw [List.lookup_cons, q] at h ⊢
      obtain rfl : e = b := Option.some.inj h
      exact ⟨x, g, rfl, r⟩
    · rw [List.lookup_cons, Bool.not_eq_true _ |>.mp q] at h ⊢
      exact look_fd hR t h
theorem look_none {α β : Type} {R : Str × α → Str × β → Prop} (hR : ∀ x e, R x e → x.1 = e.1) {f : Str} : ∀ {fs : List (Str × α)} {es : List (Str × β)}, EachIs R fs es → es.lookup f = none → fs.lookup f = none
  | _, _, .nil, h => rfl
  | (g, x) :: fs, (g', e) :: es, .cons r t, h => by
    obtain rfl : g = g' := hR _ _ r
    by_cases q : f == g
    · rw [List.lookup_cons, q] at h; cases h
    · rw [List.lookup_cons, Bool.not_eq_true _ |>.mp q] at h ⊢
      exact look_none hR t h
def putA {α : Type} (f : Str) (d : α) : List (Str × α) → List (Str × α)
  | [] => [(f, d)]
  | (g, x) :: r => if g = f then (g, d) :: r else (g, x) :: putA f d r
theorem put_fd {R : Str × V → Str × Fd → Prop} (hR : ∀ x e, R x e → x.1 = e.1) {f : Str} {v : V} {d : Fd} (h : R (f, v) (f, d)) : ∀ {fs : List (Str × V)} {es : Fds}, EachIs R fs es → EachIs R (putF f v fs) (putA f d es)
  | _, _, .nil => .cons h .nil
  | (g, x) :: fs, (g', e) :: es, .cons r t => by
    obtain rfl : g = g' := hR _ _ r
    unfold putF putA
    by_cases q : g = f
    · subst q
      rw [if_pos rfl, if_pos rfl]
      exact .cons h t
    · rw [if_neg q, if_neg q]
      exact .cons r (put_fd hR h t)
/-- a field stored that is no list of ours: the lists stay apart -/
theorem dis_put {f : Str} {v : V} {r : Ar} : ∀ {fs : List (Str × V)} {fds : Fds}, EachIs (fun x e => x.1 = e.1) fs fds → Dis fs fds → Dis (putF f v fs) (putA f (.a r) fds)
  | _, _, .nil, _ => fun i j d d' g g' l h1 h2 h3 => by
    cases i with
    | zero => cases h1; cases h3
    | succ i => cases h1
  | (g, x) :: fs, (g', e) :: es, .cons q t, h => by
    obtain rfl : g = g' := q
    have hd : Dis fs es := fun i j d d' f1 f2 l h1 h2 h3 h4 h5 h6 => by
      have := h (i + 1) (j + 1) d d' f1 f2 l h1 h2 h3 h4 h5 h6
      omega
    unfold putF putA
    by_cases c : g = f
    · subst c
      rw [if_pos rfl, if_pos rfl]
      intro i j d d' f1 f2 l h1 h2 h3 h4 h5 h6
      cases i with
      | zero => cases h1; cases h3
      | succ i =>
        cases j with
        | zero => cases h2; cases h4
        | succ j => rw [hd i j d d' f1 f2 l h1 h2 h3 h4 h5 h6]
    · rw [if_neg c, if_neg c]
      have ih := dis_put (f := f) (v := v) (r := r) t hd
      intro i j d d' f1 f2 l h1 h2 h3 h4 h5 h6
      have back : ∀ {fs : List (Str × V)} {es : Fds} {j : Nat} {d' : Str × Fd} {f2 : Str}, EachIs (fun x e => x.1 = e.1) fs es → (putA f (.a r) es)[j]? = some d' → isL d'.2 = true → (putF f v fs)[j]? = some (f2, .ref l) → es[j]? = some d' ∧ fs[j]? = some (f2, .ref l) := by
        intro fs es j d' f2 t
        induction t generalizing j with
        | nil =>
          intro a1 a2 a3
          cases j with
          | zero => cases a1; cases a2
          | succ j => cases a1
        | @cons x e fs es q t ih =>
          intro a1 a2 a3
          obtain ⟨g1, x⟩ := x
          obtain ⟨g2, e⟩ := e
          obtain rfl : g1 = g2 := q
          unfold putA at a1
          unfold putF at a3
          by_cases c : g1 = f
          · rw [if_pos c] at a1 a3
            cases j with
            | zero => cases a1; cases a2
            | succ j => exact ⟨a1, a3⟩
          · rw [if_neg c] at a1 a3
            cases j with
            | zero => exact ⟨a1, a3⟩
            | succ j => exact ih a1 a2 a3
      cases i with
      | zero =>
        cases j with
        | zero => rfl
        | succ j =>
          obtain ⟨b1, b2⟩ := back t h2 h4 h6
          exact h 0 (j + 1) d d' f1 f2 l h1 b1 h3 h4 h5 b2
      | succ i =>
        cases j with
        | zero =>
          obtain ⟨b1, b2⟩ := back t h1 h3 h5
          exact h (i + 1) 0 d d' f1 f2 l b1 h2 h3 h4 b2 h6
        | succ j => rw [ih i j d d' f1 f2 l h1 h2 h3 h4 h5 h6]
end Fw
set_option maxHeartbeats 1000000
namespace Fw
open PySem PySem.Spec PyProof.Rows L2 PySem.W

/-- the class at C: plain, and these names are no attributes of it -/
structure CF (K : PySem.W.Frag) (C : Addr) (fs : List Str) : Prop where
  cls : Cls K C
  na : ∀ f, f ∈ fs → NoAttr K C f
section
variable {X : Cx} {e a b : Expr} {es : List Expr} {δ δ' : List Sl} {r : Ar} {pos p1 p2 p3 : Pos} {E : DE} {f x : Str} {C aa : Addr} {fds : Fds} {L : List Str}
theorem ent1 {G : Hp} : ∀ x e, (fun (x : Str × V) (e : Str × Ar) => x.1 = e.1 ∧ ArR G x.2 e.2) x e → x.1 = e.1 := fun _ _ h => h.1
theorem fd1 {H0 G H : Hp} : ∀ x e, FdR H0 G H x e → x.1 = e.1 := fun _ _ h => h.1
/-- e.f of an object that stays -/
theorem pd_fld {fd : List (Str × Ar)} (c : CF X.K C L) (he : PD X e δ (.o (rObj C fd))) (hl : fd.lookup f = some r) (hf : f ∈ L := by decide) (hb : attributeBase e f X.env (eval e X.env) = eval e X.env := by rfl) : PD X (.Attribute e f pos) δ r :=
  .of (pe_fld he.pe hb) fun σ H0 G H Q gs re k => .in gs re fun v H1 G1 g1 a1 => by
    obtain ⟨o, dx, fs, rfl, h2, h3⟩ := a1
    obtain ⟨y, g, h4, h5⟩ := look_fd ent1 h3 hl
    exact ⟨o, C, dx, fs, y, rfl, g1.s _ _ h2, c.cls, c.na f hf, h4, k y H1 G1 g1 h5.2⟩
/-- self.f -/
theorem pd_self (i : Nat) (c : CF X.K C L) (hi : δ[i]? = some (.gp (gpO C aa fds))) (hl : fds.lookup f = some (.a r)) (hf : f ∈ L := by decide) (hN : X.N[i]? = some x := by rfl) (hv : Vis X.env.scope x := by first | exact Or.inl rfl | exact Or.inr (Or.inl rfl) | exact Or.inr (Or.inr rfl))
    (hdb : (x == ("__debug__" : Str)) = false := by decide) (hc : (x == ("__classdict__" : Str)) = false := by decide) (hb : attributeBase (.Name x p1) f X.env (eval (.Name x p1) X.env) = eval (.Name x p1) X.env := by rfl) : PD X (.Attribute (.Name x p1) f pos) δ r :=
  .of (pe_fld (pe_var hN hv hdb hc) hb) fun σ H0 G H Q gs re k => by
    obtain ⟨v, e1, h⟩ := re.gp hi
    obtain ⟨ev, dx, fs, k1, k2, k3, k4, k5, k6, k7, k8⟩ := h
    subst ev
    obtain ⟨y, g, h4, h5⟩ := look_fd fd1 k7 hl
    exact ⟨.ref aa, e1, aa, C, dx, fs, y, rfl, k1, c.cls, c.na f hf, h4, k y H G (.refl gs) h5.2⟩
/-- the object's own record is written: what is known of it after -/
theorem ob_put {H0 G H : Hp} {v y : V} (h : ObP C aa fds H0 G H v) (hy : ArR G y r) : ∃ dx fs, H aa = some (.ins C dx fs) ∧ G aa = none ∧ H0 aa = none ∧ fs.length = fds.length ∧ ObP C aa (putA f (.a r) fds) H0 G (upd H aa (.ins C dx (putF f y fs))) v := by
  obtain ⟨ev, dx, fs, k1, k2, k3, k4, k5, k6, k7, k8⟩ := h
  refine ⟨dx, fs, k1, k3, k5, k7.length, ev, dx, _, upd_same, ?_, k3, k4, k5, k6, ?_, dis_put (k7.mono fun _ _ q => q.1) k8⟩
  · rw [upd_ne (fun z => by rw [z, k1] at k2; cases k2)]
    exact k2
  · refine put_fd fd1 ⟨rfl, hy⟩ (k7.mono fun x d q => ?_)
    obtain ⟨g, d⟩ := d
    cases d with
    | a r' => exact q
    | l n =>
      obtain ⟨q1, l, vs, q2, q3, q4, q5, q6⟩ := q
      exact ⟨q1, l, vs, q2, by rw [upd_ne (fun z => by rw [z, k1] at q3; cases q3)]; exact q3, q4, q5, q6⟩
/-- self.f = e -/
theorem sd_sfld (i : Nat) (c : CF X.K C L) (hi : δ[i]? = some (.gp (gpO C aa fds))) (he : PD X e δ r) (hn : E.nx (δ.set i (.gp (gpO C aa (putA f (.a r) fds))))) (hl : fds.length < 900 := by exact Nat.le_of_ble_eq_true rfl) (hf : f ∈ L := by decide) (nw : noOw δ = true := by rfl) (ng : noGp (δ.set i .no) = true := by rfl)
    (hN : X.N[i]? = some x := by rfl) (hv : Vis X.env.scope x := by first | exact Or.inl rfl | exact Or.inr (Or.inl rfl) | exact Or.inr (Or.inr rfl))
    (hdb : (x == ("__debug__" : Str)) = false := by decide) (hc : (x == ("__classdict__" : Str)) = false := by decide) (hs : swapsWith e (some (.Attribute (.Name x p1) f p2)) pos.line X.env = pure false := by rfl) : SD1 X (.Assign [.Attribute (.Name x p1) f p2] e pos) δ E :=
  .of (ps_fld (pe_var hN hv hdb hc) he.pe hs) fun σ G0 H0 G H g re => .in g.s re fun y H1 G1 g1 a1 => by
    have re1 := re.grow g1
    obtain ⟨v, e1, h⟩ := re1.gp hi
    obtain ⟨dx, fs, k1, k2, k3, k4, k5⟩ := ob_put (f := f) h a1
    have ev := h.at_
    subst ev
    refine ⟨.ref aa, e1, aa, C, dx, fs, rfl, k1, c.cls, c.na f hf, by omega, G1, _, (g.trans g1).mut k3 k2, re1.jump i hi e1 (.refl _) k5 nw ng, hn⟩
/-- self.f += e, self.f -= e -/
theorem sd_saug (i : Nat) (c : CF X.K C L) {op : Operator} {g : Int → Int → Int} {m n : Int} (hop : InOp X op (rI0 fun i j => .int (g i j))) (hi : δ[i]? = some (.gp (gpO C aa fds))) (hlk : fds.lookup f = some (.a (.d (.int m)))) (he : PD X e δ (.d (.int n))) (hn : E.nx (δ.set i (.gp (gpO C aa (putA f (.a (.d (.int (g m n)))) fds)))))
    (hl : fds.length < 900 := by exact Nat.le_of_ble_eq_true rfl) (hf : f ∈ L := by decide) (nw : noOw δ = true := by rfl) (ng : noGp (δ.set i .no) = true := by rfl)
    (hN : X.N[i]? = some x := by rfl) (hv : Vis X.env.scope x := by first | exact Or.inl rfl | exact Or.inr (Or.inl rfl) | exact Or.inr (Or.inr rfl))
    (hdb : (x == ("__debug__" : Str)) = false := by decide) (hc : (x == ("__classdict__" : Str)) = false := by decide) : SD1 X (.AugAssign (.Attribute (.Name x p1) f p2) op e pos) δ E :=
  .of (ps_fldaug (pe_var hN hv hdb hc) he.pe hop) fun σ G0 H0 G H g0 re => by
    obtain ⟨v, e1, h⟩ := re.gp hi
    have ev := h.at_
    subst ev
    obtain ⟨_, dx, fs, k1, k2, k3, k4, k5, k6, k7, k8⟩ := id h
    obtain ⟨y, nm, h4, h5⟩ := look_fd fd1 k7 hlk
    have hy : Dq G y (.int m) := h5.2
    cases hy
    refine ⟨.ref aa, e1, aa, C, dx, fs, .int m, rfl, k1, c.cls, c.na f hf, h4, .in g0.s re fun z H1 G1 g1 a1 => ?_⟩
    cases a1
    have re1 := re.grow g1
    obtain ⟨v2, e2, h2⟩ := re1.gp hi
    rw [e1] at e2
    cases e2
    obtain ⟨dx', fs', j1, j2, j3, j4, j5⟩ := ob_put (f := f) (r := .d (.int (g m n))) h2 (Dq.int _)
    exact ⟨m, n, rfl, rfl, dx', fs', j1, by omega, G1, _, (g0.trans g1).mut j3 j2, re1.jump i hi e1 (.refl _) j5 nw ng, hn⟩
end
end Fw
set_option maxHeartbeats 1000000
namespace Fw
open PySem PySem.Spec PyProof.Rows L2 PySem.W

def kx {α : Type} (f : Str) : List (Str × α) → Nat
  | [] => 0
  | (g, _) :: r => if g = f then 0 else kx f r + 1
theorem putA_get {α : Type} {f : Str} {d : α} : ∀ {es : List (Str × α)} {i : Nat}, (putA f d es)[i]? = if i = kx f es then some (f, d) else es[i]?
  | [], i => by
    unfold putA kx
    cases i <;> simp
  | (g, x) :: es, i => by
    unfold putA kx
    by_cases c : g = f
    · subst c
      rw [if_pos rfl, if_pos rfl]
      cases i <;> simp
    · rw [if_neg c, if_neg c]
      cases i with
      | zero => simp
      | succ i =>
        rw [List.getElem?_cons_succ, putA_get]
        by_cases h : i = kx f es
        · rw [if_pos h, if_pos (by omega)]
        · rw [if_neg h, if_neg (by omega), List.getElem?_cons_succ]
theorem putF_eq (f : Str) (v : V) : ∀ fs : List (Str × V), putF f v fs = putA f v fs
  | [] => rfl
  | (g, x) :: r => by unfold putF putA; rw [putF_eq f v r]
theorem kx_eq {fs : List (Str × V)} {fds : Fds} {f : Str} (h : EachIs (fun x e => x.1 = e.1) fs fds) : kx f fs = kx f fds := by
  induction h with
  | nil => rfl
  | @cons x e _ _ q t ih =>
    obtain ⟨g, x⟩ := x
    obtain ⟨g', e⟩ := e
    obtain rfl : g = g' := q
    unfold kx
    rw [ih]
/-- a field takes a list of ours that no field has -/
theorem dis_putL {f : Str} {p : Addr} {n : Nat} {fs : List (Str × V)} {fds : Fds} (e : EachIs (fun x e => x.1 = e.1) fs fds) (h : Dis fs fds) (hp : ∀ (i : Nat) (g : Str) (d : Str × Fd), fds[i]? = some d → isL d.2 = true → fs[i]? ≠ some (g, V.ref p)) : Dis (putF f (.ref p) fs) (putA f (.l n) fds) := by
  intro i j d d' f1 f2 l h1 h2 h3 h4 h5 h6
  rw [putF_eq, putA_get] at h5 h6
  rw [putA_get] at h1 h2
  rw [kx_eq e] at h5 h6
  by_cases ci : i = kx f fds
  · rw [if_pos ci] at h1 h5
    cases h5
    by_cases cj : j = kx f fds
    · rw [ci, cj]
    · rw [if_neg cj] at h2 h6
      exact absurd h6 (hp j f2 d' h2 h4)
  · rw [if_neg ci] at h1 h5
    by_cases cj : j = kx f fds
    · rw [if_pos cj] at h2 h6
      cases h6
      exact absurd h5 (hp i f1 d h1 h3)
    · rw [if_neg cj] at h2 h6
      exact h i j d d' f1 f2 l h1 h2 h3 h4 h5 h6
section
variable {X : Cx} {e a b : Expr} {es : List Expr} {δ δ' : List Sl} {r : Ar} {pos p1 p2 p3 : Pos} {E : DE} {f x : Str} {C aa : Addr} {fds : Fds} {L : List Str}
theorem fds_at {H0 G H : Hp} : ∀ {fs : List (Str × V)} {fds : Fds} {i : Nat} {d : Str × Fd}, EachIs (FdR H0 G H) fs fds → fds[i]? = some d → ∃ x, fs[i]? = some x ∧ FdR H0 G H x d
  | _, _, _, _, .nil, h => by simp at h
  | _, _, 0, _, .cons q t, h => by simp at h; subst h; exact ⟨_, rfl, q⟩
  | _, _, i + 1, _, .cons q t, h => by
    obtain ⟨x, h1, h2⟩ := fds_at (i := i) t (by simpa using h)
    exact ⟨x, by simpa using h1, h2⟩
/-- self.f = [] -/
theorem sd_slst (i : Nat) (c : CF X.K C L) (hi : δ[i]? = some (.gp (gpO C aa fds))) (hn : E.nx (δ.set i (.gp (gpO C aa (putA f (.l 0) fds))))) (hl : fds.length < 900 := by exact Nat.le_of_ble_eq_true rfl) (hf : f ∈ L := by decide) (nw : noOw δ = true := by rfl) (ng : noGp (δ.set i .no) = true := by rfl)
    (hN : X.N[i]? = some x := by rfl) (hv : Vis X.env.scope x := by first | exact Or.inl rfl | exact Or.inr (Or.inl rfl) | exact Or.inr (Or.inr rfl))
    (hdb : (x == ("__debug__" : Str)) = false := by decide) (hc : (x == ("__classdict__" : Str)) = false := by decide) (hs : swapsWith (.List [] p3) (some (.Attribute (.Name x p1) f p2)) pos.line X.env = pure false := by rfl) : SD1 X (.Assign [.Attribute (.Name x p1) f p2] (.List [] p3) pos) δ E :=
  .of (ps_fld (pe_var hN hv hdb hc) (PF.pe (pf_lst (δ := δ) (ds := []) pds_nil)) hs) fun σ G0 H0 G H g re => ⟨H0, G, g.s, re, fun p vs H1 G1 g1 hp1 hp2 hp3 hp4 => by
    cases hp4
    have re1 := re.grow g1
    obtain ⟨v, e1, h⟩ := re1.gp hi
    obtain ⟨ev, dx, fs, k1, k2, k3, k4, k5, k6, k7, k8⟩ := h
    subst ev
    have hpH0 : H0 p = none := g.h.free hp1
    have na : p ≠ aa := fun z => by rw [z, k1] at hp3; cases hp3
    refine ⟨.ref aa, e1, aa, C, dx, fs, rfl, k1, c.cls, c.na f hf, by rw [k7.length]; omega, G1, _, (g.trans g1).mut k5 k3, re1.jump i hi e1 (.refl _) ?_ nw ng, hn⟩
    refine ⟨rfl, dx, _, upd_same, by rw [upd_ne (fun z => by rw [z, k1] at k2; cases k2)]; exact k2, k3, k4, k5, k6, ?_, dis_putL (k7.mono fun _ _ q => q.1) k8 fun j g2 d hd hL z => ?_⟩
    · refine put_fd (d := .l 0) fd1 ⟨rfl, p, [], rfl, by rw [upd_ne na]; exact hp3, Nat.le_refl _, hp2, hpH0⟩ (k7.mono fun x d q => ?_)
      obtain ⟨g, d⟩ := d
      cases d with
      | a r' => exact q
      | l n =>
        obtain ⟨q1, l, vs, q2, q3, q4, q5, q6⟩ := q
        exact ⟨q1, l, vs, q2, by rw [upd_ne (fun z => by rw [z, k1] at q3; cases q3)]; exact q3, q4, q5, q6⟩
    · obtain ⟨x2, hx2, q⟩ := fds_at k7 hd
      obtain ⟨g3, d⟩ := d
      cases d with
      | a r' => cases hL
      | l n =>
        obtain ⟨q1, l, vs, q2, q3, q4, q5, q6⟩ := q
        rw [hx2] at z
        cases z
        cases q2
        rcases hpp : H p with _ | u
        · -- p was new at this turn, and no field has had it
          have hH := re.gp hi
          obtain ⟨v', e1', h'⟩ := hH
          rw [e1] at e1'
          cases e1'
          obtain ⟨_, dx', fs', j1, j2, j3, j4, j5, j6, j7, j8⟩ := h'
          have hfs : fs' = fs := by
            have := g1.h _ _ j1
            rw [k1] at this
            injection this with this
            injection this with _ _ this
            exact this.symm
          subst hfs
          obtain ⟨x3, hx3, q'⟩ := fds_at j7 hd
          rw [hx2] at hx3
          cases hx3
          obtain ⟨_, l', vs', r2, r3, _⟩ := q'
          cases r2
          rw [hpp] at r3
          cases r3
        · rw [hp1] at hpp; cases hpp⟩
/-- what is known of the object when one of its lists has grown -/
theorem ob_app {H0 G H : Hp} {v y : V} {l : Addr} {vs : List V} {n i : Nat} {nm : Str} (h : ObP C aa fds H0 G H v) {dx : Addr} {fs : List (Str × V)} (k1 : H aa = some (.ins C dx fs)) (hd : fds[i]? = some (nm, .l n)) (hx : fs[i]? = some (nm, .ref l)) (hl : H l = some (.lst vs)) :
    ObP C aa (fds.set i (nm, .l (n + 1))) H0 G (upd H l (.lst (vs ++ [y]))) v := by
  obtain ⟨ev, dx', fs', j1, k2, k3, k4, k5, k6, k7, k8⟩ := h
  rw [k1] at j1
  cases j1
  have na : aa ≠ l := fun z => by rw [← z, k1] at hl; cases hl
  have nd : dx ≠ l := fun z => by rw [← z, k2] at hl; cases hl
  have hil : i < fds.length := (List.getElem?_eq_some_iff.mp hd).1
  refine ⟨ev, dx, fs, by rw [upd_ne na]; exact k1, by rw [upd_ne nd]; exact k2, k3, k4, k5, k6, ?_, fun j k d d' f1 f2 l' h1 h2 h3 h4 h5 h6 => ?_⟩
  · have each : ∀ (fs : List (Str × V)) (fds : Fds) (i : Nat), EachIs (FdR H0 G H) fs fds → fds[i]? = some (nm, .l n) → fs[i]? = some (nm, .ref l) → (∀ (j : Nat) (d : Str × Fd) (g : Str), j ≠ i → fds[j]? = some d → isL d.2 = true → fs[j]? ≠ some (g, V.ref l)) → EachIs (FdR H0 G (upd H l (.lst (vs ++ [y])))) fs (fds.set i (nm, .l (n + 1))) := by
      intro fs fds i t
      induction t generalizing i with
      | nil => intro h; cases h
      | @cons x d fs fds q t ih =>
        intro h1 h2 h3
        have other : ∀ {x : Str × V} {d : Str × Fd}, FdR H0 G H x d → (isL d.2 = true → ∀ g : Str, x ≠ (g, V.ref l)) → FdR H0 G (upd H l (.lst (vs ++ [y]))) x d := fun {x d} q hne => by
          obtain ⟨g, d⟩ := d
          cases d with
          | a r' => exact q
          | l m =>
            obtain ⟨q1, l2, ws, q2, q3, q4, q5, q6⟩ := q
            exact ⟨q1, l2, ws, q2, by
              rw [upd_ne (fun z => hne rfl x.1 (by rw [z] at q2; rw [← q2]))]
              exact q3, q4, q5, q6⟩
        cases i with
        | zero =>
          cases h1
          cases h2
          rw [List.set_cons_zero]
          obtain ⟨q1, l2, ws, q2, q3, q4, q5, q6⟩ := q
          cases q2
          rw [hl] at q3
          cases q3
          refine .cons ⟨rfl, l, _, rfl, upd_same, by rw [List.length_append]; simp; omega, q5, q6⟩ ?_
          have rest : ∀ (fs : List (Str × V)) (fds : Fds), EachIs (FdR H0 G H) fs fds → (∀ (j : Nat) (d : Str × Fd) (g : Str), fds[j]? = some d → isL d.2 = true → fs[j]? ≠ some (g, V.ref l)) → EachIs (FdR H0 G (upd H l (.lst (vs ++ [y])))) fs fds := by
            intro fs fds t
            induction t with
            | nil => intro _; exact .nil
            | @cons x d fs fds q t ih =>
              intro h
              exact .cons (other q fun hL g z => h 0 d g rfl hL (by rw [z]; rfl)) (ih fun j d g h1 h2 => h (j + 1) d g h1 h2)
          exact rest _ _ t fun j d g e1 e2 => h3 (j + 1) d g (by omega) e1 e2
        | succ i =>
          rw [List.set_cons_succ]
          exact .cons (other q fun hL g z => h3 0 d g (by omega) rfl hL (by rw [z]; rfl)) (ih i h1 h2 fun j d g e0 e1 e2 => h3 (j + 1) d g (by omega) e1 e2)
    refine each fs fds i k7 hd hx fun j d g hj e1 e2 e3 => hj ?_
    exact k8 j i d (nm, .l n) g nm l e1 hd e2 rfl e3 hx
  · have back : ∀ {j : Nat} {d : Str × Fd}, (fds.set i (nm, .l (n + 1)))[j]? = some d → isL d.2 = true → ∃ d0, fds[j]? = some d0 ∧ isL d0.2 = true := fun {j d} e hL => by
      by_cases z : i = j
      · subst z; exact ⟨_, hd, rfl⟩
      · rw [List.getElem?_set_ne z] at e; exact ⟨d, e, hL⟩
    obtain ⟨d0, z1, z2⟩ := back h1 h3
    obtain ⟨d1, z3, z4⟩ := back h2 h4
    exact k8 j k d0 d1 f1 f2 l' z1 z3 z2 z4 h5 h6
theorem look_ix {α : Type} {f : Str} {d : α} : ∀ {es : List (Str × α)}, es.lookup f = some d → es[kx f es]? = some (f, d)
  | [], h => by cases h
  | (g, x) :: es, h => by
    unfold kx
    by_cases c : g = f
    · subst c
      rw [List.lookup_cons, beq_self_eq_true] at h
      rw [if_pos rfl]
      cases h
      rfl
    · have c' : (f == g) = false := by simpa using fun z => c z.symm
      rw [List.lookup_cons, c'] at h
      rw [if_neg c, List.getElem?_cons_succ]
      exact look_ix h
/-- self.f.append(e) -/
theorem sd_sapp (i : Nat) {n : Nat} {p4 p5 : Pos} (c : CF X.K C L) (hi : δ[i]? = some (.gp (gpO C aa fds))) (hlk : fds.lookup f = some (.l n)) (he : PD X e δ r) (hn : E.nx (δ.set i (.gp (gpO C aa (fds.set (kx f fds) (f, .l (n + 1))))))) (hnn : n < 1000000 := by decide) (hf : f ∈ L := by decide) (nw : noOw δ = true := by rfl) (ng : noGp (δ.set i .no) = true := by rfl)
    (hN : X.N[i]? = some x := by rfl) (hv : Vis X.env.scope x := by first | exact Or.inl rfl | exact Or.inr (Or.inl rfl) | exact Or.inr (Or.inr rfl))
    (hdb : (x == ("__debug__" : Str)) = false := by decide) (hc : (x == ("__classdict__" : Str)) = false := by decide) (hb : attributeBase (.Name x p1) f X.env (eval (.Name x p1) X.env) = eval (.Name x p1) X.env := by rfl)
    (hps : ∀ t t', PE X e t → PE X (.Attribute (.Name x p1) f p2) t' → PS X (.Expr (.Call (.Attribute (.Attribute (.Name x p1) f p2) "append" p3) [e] [] p4) pos) (tDrop (tBM X.K "list" rAppend t' (tCons t tNil)))) : SD1 X (.Expr (.Call (.Attribute (.Attribute (.Name x p1) f p2) "append" p3) [e] [] p4) pos) δ E := by
  refine .of (hps _ _ he.pe (pe_fld (pe_var hN hv hdb hc) hb)) fun σ G0 H0 G H g re => ?_
  obtain ⟨v, e1, h⟩ := re.gp hi
  have ev := h.at_
  subst ev
  obtain ⟨_, dx, fs, k1, k2, k3, k4, k5, k6, k7, k8⟩ := id h
  obtain ⟨y, nm, h4, h5⟩ := look_fd fd1 k7 hlk
  obtain ⟨_, l, vs, q2, q3, q4, q5, q6⟩ := id h5
  have q2 : y = .ref l := q2
  subst q2
  refine ⟨.ref aa, e1, aa, C, dx, fs, .ref l, rfl, k1, c.cls, c.na f hf, h4, .inl ⟨rfl, _, SqL.of q3⟩, .in g.s re fun z H1 G1 g1 a1 => ?_⟩
  have re1 := re.grow g1
  obtain ⟨v2, e2, h2⟩ := re1.gp hi
  rw [e1] at e2
  cases e2
  have hd := look_ix hlk
  have hx : fs[kx f fds]? = some (f, .ref l) := by
    have := look_ix h4
    rwa [kx_eq (k7.mono fun _ _ q => q.1)] at this
  have hlH := g1.h _ _ q3
  have hG1 : G1 l = none := gone_at q5 q3 g1.f
  refine ⟨l, vs, z, rfl, rfl, hlH, Nat.lt_of_le_of_lt q4 (Nat.lt_of_lt_of_le hnn (by decide)), G1, _, (g.trans g1).mut q6 hG1, re1.jump i hi e1 (.refl _) (ob_app h2 (g1.h _ _ k1) hd hx hlH) nw ng, hn⟩
end
end Fw
set_option maxHeartbeats 1000000
namespace Fw
open PySem PySem.Spec PyProof.Rows L2 PySem.W

/-- a method's contract: the fields, the arguments, the fields after, what is given -/
abbrev Mc := Fds → List Ar → Fds → Ar → Prop
def spM (C : Addr) (M : Mc) : Sp := fun vs H Q _ => ∃ a vs' G H0 fds ars fds' q, vs = .ref a :: vs' ∧ Same G H ∧ Same H0 H ∧ ObP C a fds H0 G H (.ref a) ∧ ArAll G vs' ars ∧ M fds ars fds' q ∧ ∀ u H' G', Gr G H0 G' H' → ObP C a fds' H0 G' H' (.ref a) → ArR G' u q → Q u H'
structure OkM (P : Program) (w : World) (K : PySem.W.Frag) (mg : Str → Option Value) (base : Heap) (k : Nat) (C : Addr) (m : Str) (ps : List Str) (M : Mc) : Prop where
  ex : ∃ f fd, FnOk P w K mg base CX0 k f fd ps (spM C M) ∧ Binds K fd ps [] ∧ Meth K C m f ∧ Cls K C
theorem OkM.lift {P : Program} {w : World} {K : PySem.W.Frag} {mg : Str → Option Value} {base : Heap} {k k' : Nat} {C : Addr} {m : Str} {ps : List Str} {M : Mc} (O : OkM P w K mg base k C m ps M) (h : k ≤ k') : OkM P w K mg base k' C m ps M := by
  obtain ⟨f, fd, F, b⟩ := O.ex
  exact ⟨f, fd, F.mono h, b⟩
/-- an __init__ -/
structure OkI (P : Program) (w : World) (K : PySem.W.Frag) (mg : Str → Option Value) (base : Heap) (k : Nat) (C : Addr) (x : Str) (ps : List Str) (M : Mc) : Prop where
  ex : ∃ f fd, FnOk P w K mg base CX0 k f fd ps (spM C M) ∧ Binds K fd ps [] ∧ Mk K C f ∧ mg x = some (.ref C)
/-- an expression that may change what is ours -/
structure PM (X : Cx) (e : Expr) (δ δ' : List Sl) (r : Ar) : Prop where
  run : ∀ (pins : List (Addr × Obj)) (s : Shared) (σ : L2.St) (G0 H0 G H : Hp), Inv X pins σ H s → Gr G0 H0 G H → RE H0 G H σ δ →
    wpAny (model X.prog X.w) X.A (eval e X.env) (fun u s' => ∃ v H' G', Inv X pins σ H' s' ∧ RelV v u ∧ Gr G0 H0 G' H' ∧ RE H0 G' H' σ δ' ∧ ArR G' v r) X.xe s
def tPM (δ δ' : List Sl) (r : Ar) : TE := fun σ H Q => ∃ G0 H0 G, Gr G0 H0 G H ∧ RE H0 G H σ δ ∧ ∀ v H' G', Gr G0 H0 G' H' → RE H0 G' H' σ δ' → ArR G' v r → Q v H'
section
variable {X : Cx} {e a b : Expr} {es : List Expr} {δ δ' : List Sl} {r q : Ar} {rs : List Ar} {pos p1 p2 p3 apos : Pos} {E : DE} {f x m : Str} {C aa : Addr} {fds fds' : Fds} {M : Mc} {k : Nat} {ps : List Str}
theorem PM.pe (h : PM X e δ δ' r) : PE X e (tPM δ δ' r) := ⟨fun pins s σ H Q I ⟨G0, H0, G, g, re, k⟩ =>
  thn (h.run pins s σ G0 H0 G H I g re) fun u s' ⟨v, H', G', I', rv, g', re', ar⟩ => ⟨v, H', I', rv, k v H' G' g' re' ar⟩⟩
theorem PM.of {t : TE} (h : PE X e t) (k : ∀ (σ : L2.St) (G0 H0 G H : Hp) (Q : VK), Gr G0 H0 G H → RE H0 G H σ δ → (∀ v H' G', Gr G0 H0 G' H' → RE H0 G' H' σ δ' → ArR G' v r → Q v H') → t σ H Q) : PM X e δ δ' r :=
  ⟨fun pins s σ G0 H0 G H I g re => thn (h.run pins s σ H (fun v H' => ∃ G', Gr G0 H0 G' H' ∧ RE H0 G' H' σ δ' ∧ ArR G' v r) I (k σ G0 H0 G H _ g re fun v H' G' g re ar => ⟨G', g, re, ar⟩)) fun u s' ⟨v, H', I', rv, G', g, re', ar⟩ => ⟨v, H', G', I', rv, g, re', ar⟩⟩
theorem PD.pm (h : PD X e δ r) : PM X e δ δ r := .of h.pe fun σ G0 H0 G H Q g re k => .in g.s re fun v H1 G1 g1 a1 => k v H1 G1 (g.trans g1) (re.grow g1) a1
theorem ob_meth {H0 G H : Hp} {v : V} (h : ObP C aa fds H0 G H v) (hm : fds.lookup m = none) : ∃ dx fs, v = .ref aa ∧ H aa = some (.ins C dx fs) ∧ fs.lookup m = none := by
  obtain ⟨ev, dx, fs, k1, k2, k3, k4, k5, k6, k7, k8⟩ := h
  exact ⟨dx, fs, ev, k1, look_none fd1 k7 hm⟩
/-- name.m(..), the name an object of ours -/
theorem pm_meth (i : Nat) {pl : Sem Bool} (O : OkM X.prog X.w X.K X.mg X.base k C m ps M) (hr : Room k X.A) (hi : δ[i]? = some (.gp (gpO C aa fds))) (hm : fds.lookup m = none) (ha : PAD X (e :: es) δ rs) (hM : M fds rs fds' q) (nw : noOw δ = true := by rfl) (ng : noGp (δ.set i .no) = true := by rfl)
    (hN : X.N[i]? = some x := by rfl) (hv : Vis X.env.scope x := by first | exact Or.inl rfl | exact Or.inr (Or.inl rfl) | exact Or.inr (Or.inr rfl))
    (hdb : (x == ("__debug__" : Str)) = false := by decide) (hc : (x == ("__classdict__" : Str)) = false := by decide)
    (hst : starEach (e :: es) X.env = (false, eval e X.env) :: starEach es X.env := by rfl) (hpl : (backTo pos (starEach es X.env)).any (·.1) = false := by rfl)
    (ht : eval (.Call (.Attribute (.Name x p1) m apos) (e :: es) [] pos) X.env = (do
      let ov ← eval (.Name x p1) X.env
      standAt apos.atName
      let (f, first) ← holding [ov] (getMethod ov m pl)
      callWith pos f first (backTo pos (starEach (e :: es) X.env)) (backToKw pos (keywordEach [] X.env))) := by rfl) : PM X (.Call (.Attribute (.Name x p1) m apos) (e :: es) [] pos) δ (δ.set i (.gp (gpO C aa fds'))) q := by
  obtain ⟨f, fd, F, bb, mm, cc⟩ := O.ex
  obtain ⟨t, ht', kt⟩ := ha
  refine .of (pe_meth (pe_var hN hv hdb hc) cc mm F hr bb .nil pass0 ht' hst hpl ht) fun σ G0 H0 G H Q g re kk => ?_
  obtain ⟨v, e1, h⟩ := re.gp hi
  obtain ⟨dx, fs, ev, k1, k2⟩ := ob_meth h hm
  subst ev
  refine ⟨.ref aa, e1, aa, dx, fs, rfl, k1, k2, kt σ H0 G H _ g.s re fun vs H1 G1 g1 a1 => ?_⟩
  have re1 := re.grow g1
  have g01 := g.trans g1
  obtain ⟨v2, e2, h2⟩ := re1.gp hi
  rw [e1] at e2
  cases e2
  rw [List.append_nil]
  exact ⟨aa, vs, G1, H0, fds, rs, fds', q, rfl, g1.s, g01.h, h2, a1, hM, fun u H2 G2 g2 o2 a2 => kk u H2 G2 (g01.comp0 g2) (re1.jump i hi e1 g2.g o2 nw ng) a2⟩
/-- name.m() -/
theorem pm_meth0 (i : Nat) {pl : Sem Bool} (O : OkM X.prog X.w X.K X.mg X.base k C m ps M) (hr : Room k X.A) (hi : δ[i]? = some (.gp (gpO C aa fds))) (hm : fds.lookup m = none) (hM : M fds [] fds' q) (nw : noOw δ = true := by rfl) (ng : noGp (δ.set i .no) = true := by rfl)
    (hN : X.N[i]? = some x := by rfl) (hv : Vis X.env.scope x := by first | exact Or.inl rfl | exact Or.inr (Or.inl rfl) | exact Or.inr (Or.inr rfl))
    (hdb : (x == ("__debug__" : Str)) = false := by decide) (hc : (x == ("__classdict__" : Str)) = false := by decide)
    (ht : eval (.Call (.Attribute (.Name x p1) m apos) [] [] pos) X.env = (do
      let ov ← eval (.Name x p1) X.env
      standAt apos.atName
      let (f, first) ← holding [ov] (getMethod ov m pl)
      callWith pos f first (backTo pos (starEach [] X.env)) (backToKw pos (keywordEach [] X.env))) := by rfl) : PM X (.Call (.Attribute (.Name x p1) m apos) [] [] pos) δ (δ.set i (.gp (gpO C aa fds'))) q := by
  obtain ⟨f, fd, F, bb, mm, cc⟩ := O.ex
  refine .of (pe_meth0 (pe_var hN hv hdb hc) cc mm F hr bb .nil pass0 ht) fun σ G0 H0 G H Q g re kk => ?_
  obtain ⟨v, e1, h⟩ := re.gp hi
  obtain ⟨dx, fs, ev, k1, k2⟩ := ob_meth h hm
  subst ev
  exact ⟨.ref aa, e1, aa, dx, fs, rfl, k1, k2, aa, [], G, H0, fds, [], fds', q, rfl, g.s, g.h, h, .nil, hM, fun u H2 G2 g2 o2 a2 => kk u H2 G2 (g.comp0 g2) (re.jump i hi e1 g2.g o2 nw ng) a2⟩
theorem sd_exprM {e : Expr} (h : PM X e δ δ' r) (hn : E.nx δ') (hs : swapsWith e none pos.line X.env = pure false := by rfl) : SD1 X (.Expr e pos) δ E :=
  .of (ps_expr h.pe hs) fun σ G0 H0 G H g re => ⟨G0, H0, G, g, re, fun v H1 G1 g1 re1 a1 => ⟨G1, δ', g1, re1, hn⟩⟩
theorem sd_setM (j : Nat) {y : Str} {e : Expr} {pos' : Pos} (hN : X.N.Nodup) (h : PM X e δ δ' r) (hn : E.nx (δ'.set j (.va r))) (hi : X.N[j]? = some y := by rfl) (hx : Loc X.env.scope y := by first | exact Or.inl rfl | exact Or.inr rfl)
    (hs : swapsWith e (some (.Name y pos')) pos.line X.env = pure false := by rfl) (hf : X.fn y = true ∨ X.env.scope.names.lookup y = some .local := by first | exact .inl rfl | exact .inr rfl) : SD1 X (.Assign [.Name y pos'] e pos) δ E :=
  .of (ps_set hN hi hx h.pe hs hf) fun σ G0 H0 G H g re => ⟨G0, H0, G, g, re, fun v H1 G1 g1 re1 a1 => ⟨G1, _, g1, re1.set j a1, hn⟩⟩
theorem sd_retM {e : Expr} (h : PM X e δ δ' r) (hr : E.rt r) (hs : E.rs δ' := by exact True.intro) : SD1 X (.Return (some e) pos) δ E := .of (ps_ret h.pe) fun σ G0 H0 G H g re => ⟨G0, H0, G, g, re, fun v H1 G1 g1 re1 a1 => ⟨G1, r, g1, a1, hr, σ, δ', re1, hs⟩⟩
/-- if a and (not m): m may change what is ours -/
theorem sd_ifAM {th : List Stmt} {c : Bool} {d : Bool} {p4 p5 : Pos} (ha : PTD X a δ c) (hm : c = true → PM X b δ δ' (.d (.bool d))) (h1 : c = true → d = false → SD X th δ' E) (h2 : c = true → d = true → E.nx δ') (h3 : c = false → E.nx δ)
    (he : ∀ whole, isTrue b X.env whole = (do let v ← whole; standAt b.pos; holding [v] (truthy v)) := by intro _; rfl) : SD1 X (.If (.BoolOp .And [a, .UnaryOp .Not b p4] p5) th [] pos) δ E := by
  cases c with
  | false =>
    refine .of (ps_if (pw_and ha.pt pw_false).pt pss_u pss_nil) fun σ G0 H0 G H g re => ?_
    unfold tIfS tAnd
    refine .in g.s re fun H1 G1 g1 => ?_
    refine iteF ?_
    exact iteF ⟨G1, δ, g.trans g1, re.grow g1, h3 rfl⟩
  | true =>
    refine .of (ps_if (pw_and ha.pt (pw_and1 (pt_not (pt_val (hm rfl).pe he)))).pt pss_u pss_nil) fun σ G0 H0 G H g re => ?_
    unfold tIfS tAnd tNot tB
    refine .in g.s re fun H1 G1 g1 => ?_
    refine iteT ?_
    refine ⟨G0, H0, G1, g.trans g1, re.grow g1, fun v H2 G2 g2 re2 a2 => ?_⟩
    cases a2
    refine ⟨d, rfl, ?_⟩
    cases d with
    | true => exact iteF ⟨G2, δ', g2, re2, h2 rfl rfl⟩
    | false => exact iteT ⟨δ', E, G0, H0, G2, h1 rfl rfl, g2, re2, imps.id⟩
theorem ob_new {G H : Hp} {xx dx : Addr} (gs : Same G H) (h1 : H xx = none) (h2 : H dx = none) (hne : dx ≠ xx) : ObP C xx [] H G (upd (upd H dx (.own xx)) xx (.ins C dx [])) (.ref xx) ∧ Same H (upd (upd H dx (.own xx)) xx (.ins C dx [])) :=
  ⟨⟨rfl, dx, [], upd_same, by rw [upd_ne hne, upd_same], gs.free h1, gs.free h2, h1, h2, .nil, fun i j d d' f g l e => by simp at e⟩, fun b u e => by rw [upd_ne (ne_of_none e h1), upd_ne (ne_of_none e h2)]; exact e⟩
theorem ob_low {H0 H1 G H : Hp} {v : V} (h : ObP C aa fds H1 G H v) (s : Same H0 H1) : ObP C aa fds H0 G H v := by
  obtain ⟨ev, dx, fs, k1, k2, k3, k4, k5, k6, k7, k8⟩ := h
  refine ⟨ev, dx, fs, k1, k2, k3, k4, s.free k5, s.free k6, k7.mono fun x d q => ?_, k8⟩
  obtain ⟨g, d⟩ := d
  cases d with
  | a r => exact q
  | l n =>
    obtain ⟨q1, l, vs, q2, q3, q4, q5, q6⟩ := q
    exact ⟨q1, l, vs, q2, q3, q4, q5, s.free q6⟩
def fdA (fd : List (Str × Ar)) : Fds := fd.map fun e => (e.1, .a e.2)
theorem fdA_each {H0 G H : Hp} : ∀ {fs : List (Str × V)} {fd : List (Str × Ar)}, EachIs (FdR H0 G H) fs (fdA fd) → EachIs (fun x e => x.1 = e.1 ∧ ArR G x.2 e.2) fs fd
  | _, [], h => by cases h; exact .nil
  | _, e :: fd, h => by
    cases h with
    | cons q t => exact .cons ⟨q.1, q.2⟩ (fdA_each t)
/-- C(..), an object that stays as it is made -/
theorem pd_make {fd : List (Str × Ar)} (O : OkI X.prog X.w X.K X.mg X.base k C x ps M) (hr : Room (k + 1) X.A) (ha : PAD X (e :: es) δ rs) (hM : M [] rs (fdA fd) (.d .none)) (hg : Gl X x := by rfl) (hdb : (x == ("__debug__" : Str)) = false := by decide)
    (he : starEach (e :: es) X.env = (false, eval e X.env) :: starEach es X.env := by rfl) (hpl : (backTo pos (starEach es X.env)).any (·.1) = false := by rfl) : PD X (.Call (.Name x p1) (e :: es) [] pos) δ (.o (rObj C fd)) := by
  obtain ⟨f, fdd, F, b, mk, m⟩ := O.ex
  obtain ⟨t, ht, kt⟩ := ha
  refine .of (pe_make mk F hr hg m b .nil pass0 ht hdb he hpl) fun σ H0 G H Q gs re kk => kt σ H0 G H _ gs re fun vs H1 G1 g1 a1 => fun xx dx h1 h2 hne => ?_
  obtain ⟨o1, s1⟩ := ob_new (C := C) g1.s h1 h2 hne
  rw [List.append_nil]
  refine ⟨xx, vs, G1, H1, [], rs, fdA fd, .d .none, rfl, g1.s.trans s1, s1, o1, a1, hM, fun u H2 G2 g2 o2 a2 => ⟨?_, ?_⟩⟩
  · cases a2; rfl
  · obtain ⟨_, dx', fs, k1, k2, k3, k4, k5, k6, k7, k8⟩ := o2
    have gf := g2.freeze k5 k3 k1
    exact kk _ H2 _ (g1.trans gf) ⟨xx, dx', fs, rfl, upd_same, (fdA_each k7).mono fun _ _ q => ⟨q.1, ar_up (fun b u e => by rw [upd_ne (ne_of_none e k3)]; exact e) q.2⟩⟩
/-- name = C(..), an object of ours -/
theorem sd_make (j : Nat) {y : Str} {pos' : Pos} (hN : X.N.Nodup) (O : OkI X.prog X.w X.K X.mg X.base k C x ps M) (hr : Room (k + 1) X.A) (ha : PAD X (e :: es) δ rs) (hM : M [] rs fds' (.d .none)) (hn : ∀ aa, E.nx (δ.set j (.gp (gpO C aa fds')))) (hi : X.N[j]? = some y := by rfl) (hx : Loc X.env.scope y := by first | exact Or.inl rfl | exact Or.inr rfl)
    (hs : swapsWith (.Call (.Name x p1) (e :: es) [] p2) (some (.Name y pos')) pos.line X.env = pure false := by rfl) (hf : X.fn y = true ∨ X.env.scope.names.lookup y = some .local := by first | exact .inl rfl | exact .inr rfl)
    (hg : Gl X x := by rfl) (hdb : (x == ("__debug__" : Str)) = false := by decide)
    (he : starEach (e :: es) X.env = (false, eval e X.env) :: starEach es X.env := by rfl) (hpl : (backTo p2 (starEach es X.env)).any (·.1) = false := by rfl) : SD1 X (.Assign [.Name y pos'] (.Call (.Name x p1) (e :: es) [] p2) pos) δ E := by
  obtain ⟨f, fdd, F, b, mk, m⟩ := O.ex
  obtain ⟨t, ht, kt⟩ := ha
  refine .of (ps_set hN hi hx (pe_make mk F hr hg m b .nil pass0 ht hdb he hpl) hs hf) fun σ G0 H0 G H g re => kt σ H0 G H _ g.s re fun vs H1 G1 g1 a1 => fun xx dx h1 h2 hne => ?_
  obtain ⟨o1, s1⟩ := ob_new (C := C) g1.s h1 h2 hne
  rw [List.append_nil]
  refine ⟨xx, vs, G1, H1, [], rs, fds', .d .none, rfl, g1.s.trans s1, s1, o1, a1, hM, fun u H2 G2 g2 o2 a2 => ⟨?_, ?_⟩⟩
  · cases a2; rfl
  · have g01 := g.trans g1
    exact ⟨G2, _, g01.trans g2, ((re.grow g1).grow g2).setGp j (ob_low o2 g01.h), hn xx⟩
end
def startM (N : List Str) (P : Gp) (ars : List Ar) : List Sl := .gp P :: (ars.map .va ++ List.replicate (N.length - 1 - ars.length) .no)
theorem re_startM {H0 G H : Hp} {N : List Str} {a : Addr} {P : Gp} {vs : List V} {ars : List Ar} (h0 : P.P H0 G H (.ref a)) (gs : Same G H) (h : ArAll G vs ars) (hl : ars.length + 1 ≤ N.length) : RE H0 G H (L2.start N (.ref a :: vs)) (startM N P ars) := by
  have el := h.len
  refine ⟨by simp [L2.start, startM, el]; omega, fun i s e => ?_, fun i j O O' p e1 => ?_⟩
  · cases i with
    | zero =>
      cases e
      exact ⟨_, rfl, _, rfl, h0⟩
    | succ i =>
      unfold startM at e
      rw [List.getElem?_cons_succ] at e
      show ∃ o, (L2.start N (.ref a :: vs))[i + 1]? = some o ∧ _
      have es : (L2.start N (.ref a :: vs))[i + 1]? = (vs.map some ++ List.replicate (N.length - (vs.length + 1)) none)[i]? := by
        unfold L2.start
        rfl
      rw [es]
      by_cases hi : i < ars.length
      · rw [List.getElem?_append_left (by simpa using hi), List.getElem?_map] at e
        cases q : ars[i]? with
        | none => rw [q] at e; cases e
        | some x =>
          rw [q] at e
          cases e
          obtain ⟨v, e1, e2⟩ := h.get q
          exact ⟨some v, by rw [List.getElem?_append_left (by rw [List.length_map, el]; exact hi), List.getElem?_map, e1]; rfl, v, rfl, e2⟩
      · rw [List.getElem?_append_right (by simpa using hi), List.getElem?_replicate] at e
        split at e
        · cases e
          rename_i hlt
          exact ⟨none, by rw [List.getElem?_append_right (by rw [List.length_map, el]; omega), List.getElem?_replicate, if_pos (by rw [List.length_map] at hlt ⊢; omega)], trivial⟩
        · cases e
  · unfold startM at e1
    cases i with
    | zero => cases e1
    | succ i =>
      rw [List.getElem?_cons_succ] at e1
      by_cases hi : i < ars.length
      · rw [List.getElem?_append_left (by simpa using hi), List.getElem?_map] at e1
        cases q : ars[i]? with
        | none => rw [q] at e1; cases e1
        | some x => rw [q] at e1; cases e1
      · rw [List.getElem?_append_right (by simpa using hi), List.getElem?_replicate] at e1
        split at e1 <;> cases e1
theorem fn_M {P : Program} {w : World} {K : PySem.W.Frag} {mg : Str → Option Value} {base : Heap} {x qual : Str} {st : Stmt} {f C : Addr} {fd : FuncData} {N ps : List Str} {k : Nat} {M : Mc} (F : Fun K x qual st f fd) (S : FnScope N ps (defScope st))
    (hlen : ∀ fds ars fds' q, M fds ars fds' q → ars.length + 1 = ps.length) (hpl : ps.length ≤ N.length)
    (hb : ∀ aa fds ars fds' q, M fds ars fds' q → ∀ (cdv : Value) (A : Around) (outer : List Env) (s : Shared) (H : Hp) (E : XK), Room k (A.deeper (envOfC qual (defScope st) s.heap.objs.size f cdv)) →
      SD (Fx P w K mg base N qual st f cdv A outer s H E) (defBody st) (startM N (gpO C aa fds) ars) { nx := fun δ => q = .d .none ∧ δ[0]? = some (.gp (gpO C aa fds')), rt := fun q' => q' = q, rs := fun δ => δ[0]? = some (.gp (gpO C aa fds')) }) : FnOk P w K mg base CX0 (k + 1) f fd ps (spM C M) := by
  refine F.ok S (fun vs H Q E h => ?_) (fun cdv A outer s H vs Q E hr h => ?_)
  · obtain ⟨a, vs', G, H0, fds, ars, fds', q, rfl, _, _, _, al, m, _⟩ := h
    rw [List.length_cons, al.len, hlen _ _ _ _ m]
  · obtain ⟨a, vs', G, H0, fds, ars, fds', q, rfl, gs, hs, ob, al, m, k⟩ := h
    refine ⟨_, pss_u, startM N (gpO C a fds) ars, _, G, H0, G, hb a fds ars fds' q m cdv A outer s H E hr, ⟨hs, .refl _, gs, fun b o e => .inl ⟨o, e⟩⟩, re_startM ob gs al (by rw [hlen _ _ _ _ m]; exact hpl), fun σ' H' z => ?_, fun v H' z => ?_, fun σ' H' z => ?_, fun σ' H' z => ?_⟩
    · obtain ⟨G', δ', g', re', e, e2⟩ := z
      obtain ⟨v, _, o2⟩ := re'.gp e2
      have ev := ObP.at_ o2
      subst ev
      exact k .non H' G' g' o2 (by rw [e]; exact Dq.non)
    · obtain ⟨G', q', g', a', e, σ', δ', re', e2⟩ := z
      have e' : q' = q := e
      subst e'
      obtain ⟨v2, _, o2⟩ := re'.gp e2
      have ev := ObP.at_ o2
      subst ev
      exact k v H' G' g' o2 a'
    · obtain ⟨_, _, _, _, e⟩ := z
      exact False.elim e
    · obtain ⟨_, _, _, _, e⟩ := z
      exact False.elim e
end Fw
set_option maxHeartbeats 1000000
namespace Fw
open PySem PySem.Spec PyProof.Rows L2 PySem.W

def SkR (G : Hp) (x : L2.Key × V) (e : Str × D) : Prop := x.1 = Sum.inr e.1 ∧ Dq G x.2 e.2
/-- a dict by texts that stays -/
def rSk (kvs : List (Str × D)) : Rp where
  P := fun G v => ∃ a ks, v = .ref a ∧ G a = some (.dK ks) ∧ EachIs (SkR G) ks kvs
  up := fun e ⟨a, ks, h1, h2, h3⟩ => ⟨a, ks, h1, e _ _ h2, h3.mono fun _ _ q => ⟨q.1, dp_up e q.2⟩⟩
theorem sk_up {G G' : Hp} (s : Same G G') {ks : List (L2.Key × V)} {kvs : List (Str × D)} (h : EachIs (SkR G) ks kvs) : EachIs (SkR G') ks kvs := h.mono fun _ _ q => ⟨q.1, dp_up s q.2⟩
theorem sk_any {G : Hp} {k : Str} : ∀ {ks : List (L2.Key × V)} {kvs : List (Str × D)}, EachIs (SkR G) ks kvs → (ks.any fun kv => decide (kv.1 = Sum.inr k)) = kvs.any fun e => decide (e.1 = k)
  | _, _, .nil => rfl
  | x :: ks, e :: kvs, .cons h t => by
    rw [List.any_cons, List.any_cons, sk_any t, h.1]
    congr 1
    by_cases q : e.1 = k
    · simp [q]
    · have : ¬ (Sum.inr e.1 : L2.Key) = Sum.inr k := fun z => q (Sum.inr.inj z)
      simp [q, this]
theorem sk_map {G : Hp} {k : Str} {v : V} {d : D} (hv : Dq G v d) : ∀ {ks : List (L2.Key × V)} {kvs : List (Str × D)}, EachIs (SkR G) ks kvs → EachIs (SkR G) (ks.map fun kv => if kv.1 = Sum.inr k then (kv.1, v) else kv) (kvs.map fun e => if e.1 = k then (e.1, d) else e)
  | _, _, .nil => .nil
  | x :: ks, e :: kvs, .cons q t => by
    refine .cons ?_ (sk_map hv t)
    show SkR G (if x.1 = Sum.inr k then (x.1, v) else x) (if e.1 = k then (e.1, d) else e)
    by_cases z : e.1 = k
    · rw [if_pos z, if_pos (by rw [q.1, z])]
      exact ⟨q.1, hv⟩
    · rw [if_neg z, if_neg (by rw [q.1]; exact fun y => z (Sum.inr.inj y))]
      exact q
theorem sk_put {G : Hp} {k : Str} {v : V} {d : D} (hv : Dq G v d) {ks : List (L2.Key × V)} {kvs : List (Str × D)} (h : EachIs (SkR G) ks kvs) : EachIs (SkR G) (putK ks (Sum.inr k) v) (putW kvs k d) := by
  unfold putK putW
  rw [sk_any h]
  split
  · exact sk_map hv h
  · exact each_snoc2 ⟨rfl, hv⟩ h
theorem sk_look {G : Hp} {k : Str} {d : D} : ∀ {ks : List (L2.Key × V)} {kvs : List (Str × D)}, EachIs (SkR G) ks kvs → kvs.lookup k = some d → ∃ v, valV ks (Sum.inr k) = some v ∧ Dq G v d
  | _, _, .nil, h => by cases h
  | x :: ks, e :: kvs, .cons q t, h => by
    obtain ⟨g, e⟩ := e
    by_cases c : k = g
    · subst c
      rw [List.lookup_cons, beq_self_eq_true] at h
      obtain rfl : e = d := Option.some.inj h
      exact ⟨x.2, valV_pos q.1, q.2⟩
    · have c' : (k == g) = false := by simpa using c
      rw [List.lookup_cons, c'] at h
      obtain ⟨v, h1, h2⟩ := sk_look t h
      refine ⟨v, ?_, h2⟩
      unfold valV at h1 ⊢
      rw [List.find?_cons]
      have : decide (x.1 = Sum.inr k) = false := by rw [q.1]; simpa using fun z : g = k => c z.symm
      rw [this]
      exact h1
theorem sk_miss {G : Hp} {k : Str} : ∀ {ks : List (L2.Key × V)} {kvs : List (Str × D)}, EachIs (SkR G) ks kvs → kvs.lookup k = none → valV ks (Sum.inr k) = none
  | _, _, .nil, h => rfl
  | x :: ks, e :: kvs, .cons q t, h => by
    obtain ⟨g, e⟩ := e
    by_cases c : k = g
    · subst c
      rw [List.lookup_cons, beq_self_eq_true] at h
      cases h
    · have c' : (k == g) = false := by simpa using c
      rw [List.lookup_cons, c'] at h
      have h1 := sk_miss t h
      unfold valV at h1 ⊢
      rw [List.find?_cons]
      have : decide (x.1 = Sum.inr k) = false := by rw [q.1]; simpa using fun z : g = k => c z.symm
      rw [this]
      exact h1
section
variable {X : Cx} {e a b c : Expr} {es : List Expr} {δ δ' : List Sl} {r : Ar} {pos p p1 p2 p3 apos cpos : Pos} {E : DE} {f x : Str} {kvs : List (Str × D)} {k : Str} {d : D}
/-- d[k] -/
theorem pd_ixk (hu : X.A.units + 64 < cLine) (ha : PD X a δ (.o (rSk kvs))) (hb : PD X b δ (.d (.str k))) (hl : kvs.lookup k = some d) (hs : NoSl b := by intro _ _; rfl) : PD X (.Subscript a b pos) δ (.d d) :=
  .of (pe_dget (by omega) ha.pe hb.pe hs) fun σ H0 G H Q gs re q => .in gs re fun v H1 G1 g1 a1 => .in g1.s (re.grow g1) fun y H2 G2 g2 a2 => by
    obtain ⟨o, ks, rfl, h1, h2⟩ := a1
    cases a2
    obtain ⟨v, e1, e2⟩ := sk_look (sk_up g2.g h2) hl
    exact ⟨o, v, rfl, .inl ⟨ks, Sum.inr k, .inl ((g1.s.trans g2.h) _ _ h1), rfl, e1.symm⟩, q v H2 G2 (g1.trans g2) e2⟩
/-- d.get(k, z) -/
theorem pd_getk {d0 : D} (hu : X.A.units + 64 < cLine) (ha : PD X a δ (.o (rSk kvs))) (hb : PD X b δ (.d (.str k))) (hc : PD X c δ (.d d0)) (m : M2 X a "get" apos b c cpos) : PD X (.Call (.Attribute a "get" apos) [b, c] [] cpos) δ (.d ((kvs.lookup k).getD d0)) :=
  .of (pe_dget2 (by omega) ha.pe hb.pe hc.pe m) fun σ H0 G H Q gs re q => .in gs re fun v H1 G1 g1 a1 => by
    obtain ⟨o, ks, rfl, h1, h2⟩ := a1
    refine ⟨o, rfl, .inl ⟨ks, .inl (g1.s _ _ h1)⟩, .in g1.s (re.grow g1) fun y H2 G2 g2 a2 => .in g2.s ((re.grow g1).grow g2) fun z H3 G3 g3 a3 => ?_⟩
    cases a2
    have g123 := (g1.trans g2).trans g3
    have hH : H3 o = some (.dK ks) := (g1.s.trans (g2.h.trans g3.h)) _ _ h1
    have h2' := sk_up (g2.g.trans g3.g) h2
    cases hl : kvs.lookup k with
    | none =>
      rw [hl] at q
      exact ⟨none, .inl ⟨ks, Sum.inr k, .inl hH, rfl, (sk_miss h2' hl).symm⟩, q z H3 G3 g123 a3⟩
    | some d1 =>
      rw [hl] at q
      obtain ⟨v, e1, e2⟩ := sk_look h2' hl
      exact ⟨some v, .inl ⟨ks, Sum.inr k, .inl hH, rfl, e1.symm⟩, q v H3 G3 g123 e2⟩
/-- {k: v for tg in it}, by texts -/
theorem pd_dcS {S : Type} {kx vx tg it : Expr} {scope : Scope} {own : List (Str × Nat)} {dd : D} {xs : List S} {enc : S → D} {kf : S → Str} {vf : S → D} (hc : X.calm = true) (hN : X.N.Nodup) (hi : PD X it δ (.d dd)) (hx : dd = .list (xs.map enc)) (hz : xs.length ≤ 1000) (ok : BlkOk X.N X.env.scope scope own)
    (ht : ∀ x ∈ xs, ∃ δ' js, GB X scope tg (.d (enc x)) (wipeD δ (own.map (·.2))) δ' js ∧ (∀ j ∈ js, j ∈ own.map (·.2)) ∧ PB X scope kx δ' (.d (.str (kf x))) ∧ PB X scope vx δ' (.d (vf x)))
    (hs : ∀ y, foldedSetIterable it X.env y = pure y := by intro _; rfl) : PD X (.DictComp kx vx [⟨tg, it, [], 0⟩] scope pos) δ (.o (rSk (putAll kf vf xs))) := by
  refine .of (pe_dc (tt := tYes) hc hN (pi_seqB hi.pe) ok (fun s H C cl fp => pg_ub s H C cl fp) (fun s H C cl fp => pts_nil) (fun s H C cl fp => pe_ub s H C cl fp) (fun s H C cl fp => pe_ub s H C cl fp) hs) fun σ H0 G H Q gs re k => .in gs re fun v H1 G1 g1 a1 => ?_
  subst hx
  obtain ⟨q, vs, rfl, hq, hv⟩ := seq_at a1 rfl
  have hlen : vs.length = xs.length := by rw [dpa_len hv, List.length_map]
  have re1 := re.grow g1
  have hq : G1 q = some (.lst vs) := by
    cases a1 with
    | @lst _ ws _ t1 t2 =>
      rcases hq with hq | hq
      · exact hq
      · rw [t1] at hq; cases hq
  refine ⟨q, vs, rfl, .inl ⟨g1.s _ _ hq, fun _ dd hdd => ?_⟩⟩
  refine ⟨fun i m H2 => m = vs.length - i ∧ i ≤ vs.length ∧ ∃ G' ks, Gr G1 H1 G' H2 ∧ G' dd = none ∧ H2 dd = some (.dK ks) ∧ EachIs (SkR G') ks (putAll kf vf (xs.take i)), ⟨vs.length, by simp, Nat.zero_le _, G1, [], .own g1.s hdd, g1.s.free hdd, upd_same, .nil⟩, ?_⟩
  rintro i m H2 ⟨rfl, hle, G', ks, g', h1, h2, h3⟩
  have hqH : H2 q = some (.lst vs) := g'.s _ _ (g'.g _ _ hq)
  by_cases hlt : i < vs.length
  · refine .inr ⟨⟨vs, vs[i], SqL.of hqH, by simp [hlt]⟩, fun H' => ∃ G' ks, Gr G1 H1 G' H' ∧ G' dd = none ∧ H' dd = some (.dK ks) ∧ EachIs (SkR G') ks (putAll kf vf (xs.take (i + 1))), fun H' p' => ⟨vs.length - (i + 1), by omega, rfl, hlt, p'⟩, fun x H' y => ?_⟩
    obtain ⟨rfl, y⟩ := y
    obtain ⟨y0, ey0, hy⟩ := dpa_back hv (y vs (SqL.of hqH))
    rw [List.getElem?_map] at ey0
    obtain ⟨z, ez, rfl⟩ := Option.map_eq_some_iff.mp ey0
    obtain ⟨δ2, js, hg, hj, hk, he⟩ := ht z (List.mem_of_getElem? ez)
    refine ⟨.d (enc z), _, δ2, js, H0, G', hg, g'.s, (re1.grow g').wipe _, dp_up g'.g hy, fun σ2 H2 G2 g2 re2 ag => ⟨?_, ?_⟩⟩
    · rw [ag.wipe hj, wipe_twice]
    · have hd2 := gone h1 h2 g2
      refine tyes_in (ite2 (fun _ => ?_) (fun z => absurd rfl z))
      refine ⟨δ2, _, H0, G2, hk, g2.s, re2, fun yk H3 G3 g3 a3 => ?_⟩
      have hd3 := gone hd2 (g2.h _ _ h2) g3
      refine ⟨δ2, _, H0, G3, he, g3.s, re2.grow g3, fun yv H4 G4 g4 a4 => ?_⟩
      have hd4 := gone hd3 (g3.h _ _ (g2.h _ _ h2)) g4
      have g24 := (g2.trans g3).trans g4
      cases a3
      have hl : ks.length < sizeLine := by
        have e1 : (putAll kf vf (xs.take i)).length ≤ (xs.take i).length := putAll_len
        have e2 := h3.length
        rw [List.length_take] at e1
        rw [sizeLine_eq]
        omega
      refine ⟨ks, Sum.inr (kf z), rfl, g24.h _ _ h2, hl, G4, _, (g'.trans g24).mut hdd hd4, hd4, upd_same, ?_⟩
      rw [putAll_take ez]
      exact sk_put a4 (sk_up g24.g h3)
  · obtain rfl : i = vs.length := by omega
    refine .inl ⟨⟨vs, SqL.of hqH, Nat.le_refl _⟩, ?_⟩
    rw [hlen, List.take_length] at h3
    exact k _ H2 _ (g1.trans (g'.freeze hdd h1 h2)) ⟨dd, ks, rfl, upd_same, sk_up (fun b u e => by rw [upd_ne (ne_of_none e h1)]; exact e) h3⟩
/-- the pairs of a display -/
inductive PDp (X : Cx) (pos : Pos) (δ : List Sl) : List (Option Expr) → List Expr → List (TE × TE) → List (Str × D) → Prop
  | nil : PDp X pos δ [] [] [] []
  | cons {k v : Expr} {ks : List (Option Expr)} {vs : List Expr} {ts : List (TE × TE)} {kv : List (Str × D)} {x : Str} {d : D} : PD X k δ (.d (.str x)) → PD X v δ (.d d) → PDp X pos δ ks vs ts kv → PDp X pos δ (some k :: ks) (v :: vs) ((tPD δ (.d (.str x)), tPD δ (.d d)) :: ts) ((x, d) :: kv)
theorem PDp.pps {ks : List (Option Expr)} {vs : List Expr} {ts : List (TE × TE)} {kv : List (Str × D)} (h : PDp X pos δ ks vs ts kv) : PPs X pos ks vs ts := by
  induction h with
  | nil => exact pps_nil
  | cons h1 h2 _ ih => exact pps_cons h1.pe h2.pe ih
theorem PDp.go {ks : List (Option Expr)} {vs : List Expr} {ts : List (TE × TE)} {kv : List (Str × D)} (h : PDp X pos δ ks vs ts kv) : ∀ (σ : L2.St) (H0 G H : Hp) (Q : List (V × V) → Hp → Prop), Same G H → RE H0 G H σ δ → (∀ ps H' G', Gr G H G' H' → EachIs (fun (q : V × V) (e : Str × D) => q.1 = .str e.1 ∧ Dq G' q.2 e.2) ps kv → Q ps H') → tPairs ts σ H Q := by
  induction h with
  | nil => exact fun σ H0 G H Q gs re k => k [] H G (.refl gs) .nil
  | cons h1 h2 _ ih =>
    intro σ H0 G H Q gs re k
    refine .in gs re fun x H1 G1 g1 a1 => .in g1.s (re.grow g1) fun y H2 G2 g2 a2 => ih σ H0 G2 H2 _ g2.s ((re.grow g1).grow g2) fun ps H3 G3 g3 e3 => k _ H3 G3 ((g1.trans g2).trans g3) (.cons ⟨?_, dp_up g3.g a2⟩ e3)
    cases a1
    rfl
def putKs (kv : List (Str × D)) : List (Str × D) := kv.foldl (fun acc e => putW acc e.1 e.2) []
theorem pd_disp {ks : List (Option Expr)} {vs : List Expr} {ts : List (TE × TE)} {kv : List (Str × D)} (h : PDp X pos δ ks vs ts kv) (hall : ks.all (·.isSome) = true := by rfl) (hl : ks.length = vs.length := by rfl) (h0 : ks ≠ [] := by simp) (h15 : ks.length ≤ 15 := by decide) (h15' : kv.length ≤ 15 := by decide) : PD X (.Dict ks vs pos) δ (.o (rSk (putKs kv))) :=
  .of (pe_disp h.pps hall hl h0 h15) fun σ H0 G H Q gs re k => fun q hq => by
    have g0 := Gr.own (o := .dK []) gs hq
    refine h.go σ H0 G _ _ g0.s (re.grow g0) fun ps H2 G2 g2 e2 => ⟨g2.h _ _ upd_same, ?_⟩
    have hG : G2 q = none := gone (gs.free hq) upd_same g2
    have build : ∀ {ps : List (V × V)} {kv : List (Str × D)}, EachIs (fun (q : V × V) (e : Str × D) => q.1 = .str e.1 ∧ Dq G2 q.2 e.2) ps kv → ∃ kvs : List (L2.Key × V), ps = kvs.map (fun kv => (kV kv.1, kv.2)) ∧ kvs.length = kv.length ∧ ∀ {acc : List (L2.Key × V)} {acc' : List (Str × D)}, EachIs (SkR G2) acc acc' → EachIs (SkR G2) (mergeK acc kvs) (kv.foldl (fun acc e => putW acc e.1 e.2) acc') := by
      intro ps kv h
      induction h with
      | nil => exact ⟨[], rfl, rfl, fun h => h⟩
      | @cons q e _ _ z t ih =>
        obtain ⟨kvs, e1, e2, e3⟩ := ih
        obtain ⟨q1, q2⟩ := q
        obtain ⟨rfl, z2⟩ := z
        exact ⟨(Sum.inr e.1, q2) :: kvs, by rw [List.map_cons, e1]; rfl, by rw [List.length_cons, List.length_cons, e2], fun h => e3 (sk_put z2 h)⟩
    obtain ⟨kvs, b1, b2, b3⟩ := build e2
    have g02 := g0.trans g2
    refine ⟨kvs, b1, by omega, k _ _ (upd G2 q (.dK (mergeK [] kvs))) ?_ ⟨q, _, rfl, upd_same, sk_up (fun b u e => by rw [upd_ne (ne_of_none e hG)]; exact e) (b3 .nil)⟩⟩
    exact (g02.mut (o := .dK (mergeK [] kvs)) hq hG).freeze hq hG upd_same
/-- sorted(d): its keys -/
def cSk (P : Program) (w : World) : V → Hp → (List V → Hp → Prop) → Prop := fun x H Q => ∃ (a : Addr) (ks : List (L2.Key × V)) (xs : List Str), x = .ref a ∧ H a = some (.dK ks) ∧ ks.map (·.1) = xs.map Sum.inr ∧ Q (xs.map V.str) H
theorem col_sk (hc : X.calm = true) : ColR X (cSk X.prog X.w) := by
  intro pins s σ H x u Q E I r ⟨a, ks, xs, ex, ha, hk, q⟩
  subst ex
  obtain rfl : u = Value.ref a := r
  obtain ⟨z, lo, vs, rel, dd⟩ := L2.dk_of I.hok ha
  obtain ⟨ep, hat⟩ := dd.dictAt
  have hkeys : vs.map (·.1) = xs.map Sum.inr := rel.keys.symm.trans hk
  have hl : vs.length = xs.length := by
    have e := congrArg List.length hkeys
    rwa [List.length_map, List.length_map] at e
  have hz : vs.length ≤ sizeLine := by rw [← rel.length]; exact z
  refine kdu_collect (A := X.A.in1) (kdl_dict (knd := mixKind X.prog X.w) (kvs := vs) (ep := ep) lo) (I.ok.hd hc) hat hz fun h' tk acc hk' hacc => ?_
  have hal : acc.toList.length = xs.length := by rw [Array.length_toList, hacc.1, hl]
  have hS : StrsAre acc.toList xs := strs_at hal fun j v e => by
    obtain ⟨k, x, e1, e2⟩ := hacc.2 j v (by rw [← Array.getElem?_toList]; exact e)
    have e3 : (vs.map (·.1))[j]? = some k := by rw [List.getElem?_map, e1]; all_goals rfl
    rw [hkeys, List.getElem?_map] at e3
    cases e4 : xs[j]? with
    | none => rw [e4] at e3; cases e3
    | some y =>
      rw [e4] at e3
      have e5 : Sum.inr y = k := Option.some.inj e3
      subst e5
      obtain ⟨t, ev⟩ := Value.isStrOf_shape (x := y) (v := v) e2
      exact ⟨y, t, rfl, ev⟩
  exact ⟨xs.map V.str, H, I.kept hk', vals_of_strs hS, by rw [List.length_map, ← hl]; exact hz, q⟩
theorem sk_keys {G : Hp} : ∀ {ks : List (L2.Key × V)} {kvs : List (Str × D)}, EachIs (SkR G) ks kvs → ks.map (·.1) = (kvs.map (·.1)).map Sum.inr
  | _, _, .nil => rfl
  | x :: ks, e :: kvs, .cons q t => by rw [List.map_cons, List.map_cons, List.map_cons, q.1, sk_keys t]
theorem pf_sortedk (B : Bt X.mg) (hc : X.calm = true) (hu : X.A.units + 64 < cLine) (ha : PD X a δ (.o (rSk kvs))) (hg : Gl X "sorted" := by rfl) (he : starEach [a] X.env = [(false, eval a X.env)] := by rfl) :
    PF X (.Call (.Name "sorted" p) [a] [] pos) δ (((kvs.map (·.1)).mergeSort leS).map .str) := by
  obtain ⟨t, ht, kt⟩ := pad_cons ha pad_nil he
  refine .of (pe_callB (cr_sortC (col_sk hc) PyData.str hu) hg B.sorted (by decide +kernel) ht (by decide) (by decide) he) fun σ H0 G H Q gs re k => kt σ H0 G H _ gs re fun vs H1 G1 g1 a1 => ?_
  obtain ⟨v, rfl, hv⟩ := arall1 a1
  obtain ⟨o, ks, rfl, h1, h2⟩ := hv
  refine ⟨.ref o, rfl, o, ks, kvs.map (·.1), rfl, g1.s _ _ h1, sk_keys h2, kvs.map (·.1), G1, g1.s, dpa_of_strs _, strs_alike _, strs_sortable _, fun _ _ => by simp [PyData.depth], fun l ys hl hy => ?_⟩
  rw [show (kvs.map (·.1)).mergeSort (dataLe false PyData.str) = (kvs.map (·.1)).mergeSort leS from sortS_eq _] at hy
  exact k l ys _ _ (g1.trans (.own g1.s hl)) (g1.h.free hl) (g1.s.free hl) upd_same hy
end
end Fw
set_option maxHeartbeats 1000000
namespace Fw
open PySem PySem.Spec PyProof.Rows L2 PySem.W

/-- a walk over a list that stays, by what each turn is asked -/
theorem walk_l {K : PySem.W.Frag} {q : Addr} {vs : List V} {Hs : Hp} {B : V → Hp → (Hp → Prop) → Prop} {Qd : Hp → Prop} (Pv : Nat → Hp → Prop) (h0 : Pv 0 Hs) (st : ∀ i H, Pv i H → H q = some (.lst vs)) (hs : ∀ i x H, vs[i]? = some x → Pv i H → B x H (Pv (i + 1))) (hd : ∀ H, Pv vs.length H → Qd H) :
    ∃ Wn : Nat → Nat → Hp → Prop, (∃ m, Wn 0 m Hs) ∧ ∀ i m H, Wn i m H → ((Itl K q).stop i H ∧ Qd H) ∨ ((Itl K q).go i H ∧ ∃ Nx : Hp → Prop, (∀ H', Nx H' → ∃ m', m' < m ∧ Wn (i + 1) m' H') ∧ ∀ x H', (Itl K q).yld i H x H' → B x H' Nx) := by
  refine ⟨fun i m H => m = vs.length - i ∧ i ≤ vs.length ∧ Pv i H, ⟨vs.length, by simp, Nat.zero_le _, h0⟩, ?_⟩
  rintro i m H ⟨rfl, hi, p⟩
  have sq : SqL K H q vs := SqL.of (st i H p)
  by_cases hlt : i < vs.length
  · refine .inr ⟨⟨vs, vs[i], sq, by simp [hlt]⟩, Pv (i + 1), fun H' p' => ⟨vs.length - (i + 1), by omega, rfl, hlt, p'⟩, fun x H' y => ?_⟩
    obtain ⟨rfl, y⟩ := y
    exact hs i x _ (y vs sq) p
  · obtain rfl : i = vs.length := by omega
    exact .inl ⟨⟨vs, sq, Nat.le_refl _⟩, hd H p⟩
theorem walk_t {K : PySem.W.Frag} {q : Addr} {vs : List V} {Hs : Hp} {B : V → Hp → (Hp → Prop) → Prop} {Qd : Hp → Prop} (Pv : Nat → Hp → Prop) (h0 : Pv 0 Hs) (st : ∀ i H, Pv i H → H q = some (.tup vs)) (hs : ∀ i x H, vs[i]? = some x → Pv i H → B x H (Pv (i + 1))) (hd : ∀ H, Pv vs.length H → Qd H) :
    ∃ Wn : Nat → Nat → Hp → Prop, (∃ m, Wn 0 m Hs) ∧ ∀ i m H, Wn i m H → ((Itt K q).stop i H ∧ Qd H) ∨ ((Itt K q).go i H ∧ ∃ Nx : Hp → Prop, (∀ H', Nx H' → ∃ m', m' < m ∧ Wn (i + 1) m' H') ∧ ∀ x H', (Itt K q).yld i H x H' → B x H' Nx) := by
  refine ⟨fun i m H => m = vs.length - i ∧ i ≤ vs.length ∧ Pv i H, ⟨vs.length, by simp, Nat.zero_le _, h0⟩, ?_⟩
  rintro i m H ⟨rfl, hi, p⟩
  have sq : SqT K H q vs := SqT.of (st i H p)
  by_cases hlt : i < vs.length
  · refine .inr ⟨⟨vs, vs[i], sq, by simp [hlt]⟩, Pv (i + 1), fun H' p' => ⟨vs.length - (i + 1), by omega, rfl, hlt, p'⟩, fun x H' y => ?_⟩
    obtain ⟨rfl, y⟩ := y
    exact hs i x _ (y vs sq) p
  · obtain rfl : i = vs.length := by omega
    exact .inl ⟨⟨vs, sq, Nat.le_refl _⟩, hd H p⟩
section
variable {T T1 : Type} {X : Cx} {e elt tg it tg1 it1 c : Expr} {δ : List Sl} {pos p1 p2 p3 : Pos} {scope : Scope} {own : List (Str × Nat)} {E : DE}
def flat2 (ys : T → List T1) (f : T → T1 → D) (xs : List T) : List D := xs.flatMap fun x => (ys x).map (f x)
theorem flat2_len {ys : T → List T1} {f : T → T1 → D} : ∀ {xs : List T}, (∀ x ∈ xs, (ys x).length ≤ 1000) → (flat2 ys f xs).length ≤ 1000 * xs.length
  | [], _ => by simp [flat2]
  | x :: xs, h => by
    have ih := flat2_len (ys := ys) (f := f) (xs := xs) fun y hy => h y (List.mem_cons_of_mem _ hy)
    have h1 := h x List.mem_cons_self
    unfold flat2 at ih ⊢
    rw [List.flatMap_cons, List.length_append, List.length_map, List.length_cons]
    omega
theorem flat2_take {ys : T → List T1} {f : T → T1 → D} {xs : List T} {i : Nat} {x : T} (h : xs[i]? = some x) : flat2 ys f (xs.take (i + 1)) = flat2 ys f (xs.take i) ++ (ys x).map (f x) := by
  unfold flat2
  rw [List.take_add_one, h]
  simp
theorem pf_lc2 {d : D} {xs : List T} {enc : T → D} {d1 : T → D} {ys : T → List T1} {enc1 : T1 → D} {f : T → T1 → D} {vs1 : List Nat} (hc : X.calm = true) (hN : X.N.Nodup) (hi : PD X it δ (.d d)) (hx : seqD d = some (xs.map enc)) (ok : BlkOk X.N X.env.scope scope own) (hv1 : ∀ i ∈ vs1, i ∈ own.map (·.2))
    (hz : xs.length ≤ 1000) (hz1 : ∀ x ∈ xs, (ys x).length ≤ 1000)
    (ht : ∀ x ∈ xs, ∃ δ' js, GB X scope tg (.d (enc x)) (wipeD δ (own.map (·.2))) δ' js ∧ (∀ j ∈ js, j ∈ own.map (·.2)) ∧ PB X scope it1 δ' (.d (d1 x)) ∧ seqD (d1 x) = some ((ys x).map enc1) ∧
      ∀ y ∈ ys x, ∃ δ'' js', GB X scope tg1 (.d (enc1 y)) (wipeD δ' vs1) δ'' js' ∧ (∀ j ∈ js', j ∈ vs1) ∧ PB X scope elt δ'' (.d (f x y)))
    (hs : ∀ y, foldedSetIterable it X.env y = pure y := by intro _; rfl) (hs1 : ∀ env y, foldedSetIterable it1 env y = pure y := by intro _ _; rfl) : PF X (.ListComp elt [⟨tg, it, [], 0⟩, ⟨tg1, it1, [], 0⟩] scope pos) δ (flat2 ys f xs) := by
  refine .of (pe_lc2 (wi1 := iSeqB X.K (uEB X scope it1)) (tt := tYes) (tt1 := tYes) hc hN (pi_seqB hi.pe) ok hv1 (fun s H C cl fp => pg_ub s H C cl fp) (fun s H C cl fp => pts_nil) (fun s H C cl fp => pi_seqB (X := Bk X scope s H C cl fp) (pe_ub s H C cl fp)) (fun s H C cl fp => pg_ub s H C cl fp) (fun s H C cl fp => pts_nil) (fun s H C cl fp => pe_ub s H C cl fp) hs hs1) fun σ H0 G H Q gs re k => .in gs re fun v H1 G1 g1 a1 => ?_
  obtain ⟨q, vs, rfl, hq, hv⟩ := seq_at a1 hx
  have hlen : vs.length = xs.length := by rw [dpa_len hv, List.length_map]
  have re1 := re.grow g1
  have star : ∀ (P : Addr), H1 P = none → ∀ (G' H' : Hp), Gr G1 H1 G' H' → RE (upd H0 P (.lst [])) G' H' σ δ := fun P hP G' H' g' =>
    re1.grow2 (fun a o _ e => g'.h _ _ e) (fun a o e z => by rw [upd_ne (fun w => by rw [w, hP] at e; cases e)]; exact z) g'.g g'.f
  have del : ∀ (P : Addr) (G2 H2 : Hp) (σ2 : L2.St) (δ2 : List Sl), Same G2 H2 → G2 P = none → RE (upd H0 P (.lst [])) G2 H2 σ2 δ2 → RE (upd H0 P (.lst [])) G2 (fun a => if a = P then none else H2 a) σ2 δ2 ∧ Gr G2 (fun a => if a = P then none else H2 a) G2 H2 := fun P G2 H2 σ2 δ2 gs2 hP2 r =>
    ⟨r.grow2 (fun a o z e => by
        have : a ≠ P := fun w => by rw [w, upd_same] at z; cases z
        show (if a = P then none else H2 a) = some o
        rw [if_neg this]; exact e) (fun _ _ _ z => z) (.refl _) (fun a o e => .inl ⟨o, e⟩),
      ⟨fun a o e => by
        have e : (if a = P then none else H2 a) = some o := e
        by_cases w : a = P
        · rw [if_pos w] at e; cases e
        · rw [if_neg w] at e; exact e, .refl _, gs2, fun a o e => .inl ⟨o, e⟩⟩⟩
  -- the inner walk, from a given start
  have inner : ∀ (P : Addr), H1 P = none → ∀ (i : Nat) (y : T), xs[i]? = some y → ∀ (δ2 : List Sl) (σ2 : L2.St) (G2 H2 : Hp), Gr G1 H1 G2 H2 → G2 P = none → (∃ acc, H2 P = some (.lst acc) ∧ DqAll G2 acc (flat2 ys f (xs.take i))) → RE (upd H0 P (.lst [])) G2 H2 σ2 δ2 → PB X scope it1 δ2 (.d (d1 y)) → seqD (d1 y) = some ((ys y).map enc1) →
      (∀ z ∈ ys y, ∃ δ'' js', GB X scope tg1 (.d (enc1 z)) (wipeD δ2 vs1) δ'' js' ∧ (∀ j ∈ js', j ∈ vs1) ∧ PB X scope elt δ'' (.d (f y z))) → ∀ (Nx : Hp → Prop), (∀ H' G' acc, Gr G1 H1 G' H' → G' P = none → H' P = some (.lst acc) → DqAll G' acc (flat2 ys f (xs.take (i + 1))) → Nx H') →
      iSeqB X.K (uEB X scope it1) σ2 H2 fun J1 H4 => ∃ W1 : Nat → Nat → Hp → Prop, (∃ m, W1 0 m H4) ∧ ∀ j k H, W1 j k H →
        (J1.stop j H ∧ Nx H) ∨ (J1.go j H ∧ ∃ Nx1 : Hp → Prop, (∀ H', Nx1 H' → ∃ k', k' < k ∧ W1 (j + 1) k' H') ∧ ∀ x H', J1.yld j H x H' → uGB X scope tg1 x (L2.wipe σ2 vs1) H' fun σ3 H5 => L2.wipe σ3 vs1 = L2.wipe σ2 vs1 ∧ tYes σ3 H5 fun b H6 =>
          if b = true then uEB X scope elt σ3 H6 fun y H7 => ∃ acc, H7 P = some (.lst acc) ∧ acc.length < sizeLine ∧ Nx1 (upd H7 P (.lst (acc ++ [y]))) else Nx1 H6) := by
    intro P hP i y ey δ2 σ2 G2 H2 g2 hGP ⟨acc0, hacc, dacc⟩ re2 hit hsq hel Nx hNx
    refine ⟨δ2, _, upd H0 P (.lst []), G2, hit, g2.s, re2, fun v3 H3 G3 g3 a3 => ?_⟩
    obtain ⟨q1, ws, rfl, hq1, hw⟩ := seq_at a3 hsq
    have hwl : ws.length = (ys y).length := by rw [dpa_len hw, List.length_map]
    have hP3 := gone hGP hacc g3
    have g13 := g2.trans g3
    obtain ⟨re3, gd⟩ := del P G3 H3 σ2 δ2 g3.s hP3 (re2.grow g3)
    have hy : y ∈ xs := List.mem_of_getElem? ey
    have hil : i < xs.length := (List.getElem?_eq_some_iff.mp ey).1
    have stay : ∀ (j : Nat) (H' : Hp), (∃ G' acc, Gr G3 (fun a => if a = P then none else H3 a) G' H' ∧ Gr G1 H1 G' H' ∧ G' P = none ∧ H' P = some (.lst acc) ∧ DqAll G' acc (flat2 ys f (xs.take i) ++ ((ys y).take j).map (f y))) → ∀ o, G3 q1 = some o → H' q1 = some o := fun j H' ⟨G', _, ga, _⟩ o e => ga.s _ _ (ga.g _ _ e)
    have p0 : ∃ G' acc, Gr G3 (fun a => if a = P then none else H3 a) G' H3 ∧ Gr G1 H1 G' H3 ∧ G' P = none ∧ H3 P = some (.lst acc) ∧ DqAll G' acc (flat2 ys f (xs.take i) ++ ((ys y).take 0).map (f y)) :=
      ⟨G3, acc0, gd, g13, hP3, g3.h _ _ hacc, by simpa using dpa_up g3.g dacc⟩
    have turn : ∀ j x H', ws[j]? = some x → (∃ G' acc, Gr G3 (fun a => if a = P then none else H3 a) G' H' ∧ Gr G1 H1 G' H' ∧ G' P = none ∧ H' P = some (.lst acc) ∧ DqAll G' acc (flat2 ys f (xs.take i) ++ ((ys y).take j).map (f y))) →
        uGB X scope tg1 x (L2.wipe σ2 vs1) H' fun σ3 H5 => L2.wipe σ3 vs1 = L2.wipe σ2 vs1 ∧ tYes σ3 H5 fun b H6 =>
          if b = true then uEB X scope elt σ3 H6 fun u H7 => ∃ acc, H7 P = some (.lst acc) ∧ acc.length < sizeLine ∧ (∃ G' acc', Gr G3 (fun a => if a = P then none else H3 a) G' (upd H7 P (.lst (acc ++ [u]))) ∧ Gr G1 H1 G' (upd H7 P (.lst (acc ++ [u]))) ∧ G' P = none ∧ (upd H7 P (.lst (acc ++ [u]))) P = some (.lst acc') ∧ DqAll G' acc' (flat2 ys f (xs.take i) ++ ((ys y).take (j + 1)).map (f y)))
          else (∃ G' acc, Gr G3 (fun a => if a = P then none else H3 a) G' H6 ∧ Gr G1 H1 G' H6 ∧ G' P = none ∧ H6 P = some (.lst acc) ∧ DqAll G' acc (flat2 ys f (xs.take i) ++ ((ys y).take (j + 1)).map (f y))) := by
      rintro j x H' ex ⟨G', acc, ga, gb, h1, h2, h3⟩
      obtain ⟨z0, ez0, hz0⟩ := dpa_back hw ex
      rw [List.getElem?_map] at ez0
      obtain ⟨z, ez, rfl⟩ := Option.map_eq_some_iff.mp ez0
      obtain ⟨δ3, js', hg1, hj1, he1⟩ := hel z (List.mem_of_getElem? ez)
      refine ⟨.d (enc1 z), _, δ3, js', upd H0 P (.lst []), G', hg1, ga.s, (re3.grow ga).wipe _, dp_up ga.g hz0, fun σ3 H5 G5 g5 re5 ag => ⟨?_, ?_⟩⟩
      · rw [ag.wipe hj1, wipe_twice]
      · refine tyes_in (ite2 (fun _ => ?_) (fun z => absurd rfl z))
        refine ⟨δ3, _, upd H0 P (.lst []), G5, he1, g5.s, re5, fun u H6 G6 g6 a6 => ?_⟩
        obtain ⟨k1, k2, k3, k4⟩ := lc_put gb hP h1 h2 h3 (g5.trans g6) a6
        have acclen : acc.length < sizeLine := by
          have e1 := dpa_len h3
          rw [List.length_append, List.length_map, List.length_take] at e1
          have e2 := flat2_len (ys := ys) (f := f) (xs := xs.take i) fun x hx => hz1 x (List.mem_of_mem_take hx)
          rw [List.length_take] at e2
          have e3 := hz1 y hy
          rw [sizeLine_eq]
          omega
        refine ⟨acc, k1, acclen, G6, _, (ga.trans (g5.trans g6)).mut (if_pos rfl) k2, k3, k2, upd_same, ?_⟩
        rw [List.take_add_one, ez]
        simpa [List.append_assoc] using k4
    have last : ∀ H', (∃ G' acc, Gr G3 (fun a => if a = P then none else H3 a) G' H' ∧ Gr G1 H1 G' H' ∧ G' P = none ∧ H' P = some (.lst acc) ∧ DqAll G' acc (flat2 ys f (xs.take i) ++ ((ys y).take ws.length).map (f y))) → Nx H' := by
      rintro H' ⟨G', acc, ga, gb, h1, h2, h3⟩
      rw [hwl, List.take_length, ← flat2_take ey] at h3
      exact hNx H' G' acc gb h1 h2 h3
    refine ⟨q1, ws, rfl, ?_⟩
    rcases hq1 with hq1 | hq1
    · exact .inl ⟨g3.s _ _ hq1, fun _ => walk_l (vs := ws) (B := fun x H' Nx1 => uGB X scope tg1 x (L2.wipe σ2 vs1) H' fun σ3 H5 => L2.wipe σ3 vs1 = L2.wipe σ2 vs1 ∧ tYes σ3 H5 fun b H6 =>
          if b = true then uEB X scope elt σ3 H6 fun y H7 => ∃ acc, H7 P = some (.lst acc) ∧ acc.length < sizeLine ∧ Nx1 (upd H7 P (.lst (acc ++ [y]))) else Nx1 H6) (fun j H' => ∃ G' acc, Gr G3 (fun a => if a = P then none else H3 a) G' H' ∧ Gr G1 H1 G' H' ∧ G' P = none ∧ H' P = some (.lst acc) ∧ DqAll G' acc (flat2 ys f (xs.take i) ++ ((ys y).take j).map (f y))) p0 (fun j H' z => stay j H' z _ hq1) turn last⟩
    · exact .inr ⟨g3.s _ _ hq1, fun _ => walk_t (vs := ws) (B := fun x H' Nx1 => uGB X scope tg1 x (L2.wipe σ2 vs1) H' fun σ3 H5 => L2.wipe σ3 vs1 = L2.wipe σ2 vs1 ∧ tYes σ3 H5 fun b H6 =>
          if b = true then uEB X scope elt σ3 H6 fun y H7 => ∃ acc, H7 P = some (.lst acc) ∧ acc.length < sizeLine ∧ Nx1 (upd H7 P (.lst (acc ++ [y]))) else Nx1 H6) (fun j H' => ∃ G' acc, Gr G3 (fun a => if a = P then none else H3 a) G' H' ∧ Gr G1 H1 G' H' ∧ G' P = none ∧ H' P = some (.lst acc) ∧ DqAll G' acc (flat2 ys f (xs.take i) ++ ((ys y).take j).map (f y))) p0 (fun j H' z => stay j H' z _ hq1) turn last⟩
  have turn : ∀ (P : Addr), H1 P = none → ∀ i x H', vs[i]? = some x → (∃ G' acc, Gr G1 H1 G' H' ∧ G' P = none ∧ H' P = some (.lst acc) ∧ DqAll G' acc (flat2 ys f (xs.take i))) →
      uGB X scope tg x (L2.wipe σ (own.map (·.2))) H' fun σ2 H2 => L2.wipe σ2 (own.map (·.2)) = L2.wipe σ (own.map (·.2)) ∧ tYes σ2 H2 fun b H3 =>
        if b = true then iSeqB X.K (uEB X scope it1) σ2 H3 fun J1 H4 => ∃ W1 : Nat → Nat → Hp → Prop, (∃ m, W1 0 m H4) ∧ ∀ j k H, W1 j k H →
          (J1.stop j H ∧ ∃ G' acc, Gr G1 H1 G' H ∧ G' P = none ∧ H P = some (.lst acc) ∧ DqAll G' acc (flat2 ys f (xs.take (i + 1)))) ∨ (J1.go j H ∧ ∃ Nx1 : Hp → Prop, (∀ H', Nx1 H' → ∃ k', k' < k ∧ W1 (j + 1) k' H') ∧ ∀ x H', J1.yld j H x H' → uGB X scope tg1 x (L2.wipe σ2 vs1) H' fun σ3 H5 => L2.wipe σ3 vs1 = L2.wipe σ2 vs1 ∧ tYes σ3 H5 fun b H6 =>
            if b = true then uEB X scope elt σ3 H6 fun y H7 => ∃ acc, H7 P = some (.lst acc) ∧ acc.length < sizeLine ∧ Nx1 (upd H7 P (.lst (acc ++ [y]))) else Nx1 H6)
        else ∃ G' acc, Gr G1 H1 G' H3 ∧ G' P = none ∧ H3 P = some (.lst acc) ∧ DqAll G' acc (flat2 ys f (xs.take (i + 1))) := by
    rintro P hP i x H' ex ⟨G', acc, g', h1, h2, h3⟩
    obtain ⟨y0, ey0, hy⟩ := dpa_back hv ex
    rw [List.getElem?_map] at ey0
    obtain ⟨y, ey, rfl⟩ := Option.map_eq_some_iff.mp ey0
    obtain ⟨δ2, js, hg, hj, hit, hsq, hel⟩ := ht y (List.mem_of_getElem? ey)
    refine ⟨.d (enc y), _, δ2, js, upd H0 P (.lst []), G', hg, g'.s, (star P hP G' H' g').wipe _, dp_up g'.g hy, fun σ2 H2 G2 g2 re2 ag => ⟨?_, ?_⟩⟩
    · rw [ag.wipe hj, wipe_twice]
    · refine tyes_in (ite2 (fun _ => ?_) (fun z => absurd rfl z))
      exact inner P hP i y ey δ2 σ2 G2 H2 (g'.trans g2) (gone h1 h2 g2) ⟨acc, g2.h _ _ h2, dpa_up g2.g h3⟩ re2 hit hsq hel _ fun H' G' acc a b c d => ⟨G', acc, a, b, c, d⟩
  have last : ∀ (P : Addr), H1 P = none → ∀ H', (∃ G' acc, Gr G1 H1 G' H' ∧ G' P = none ∧ H' P = some (.lst acc) ∧ DqAll G' acc (flat2 ys f (xs.take vs.length))) → Q (.ref P) H' := by
    rintro P hP H' ⟨G', acc, g', h1, h2, h3⟩
    rw [hlen, List.take_length] at h3
    exact k P acc H' G' (g1.trans g') (g1.h.free hP) h1 h2 h3
  have first : ∀ (P : Addr), H1 P = none → ∃ G' acc, Gr G1 H1 G' (upd H1 P (.lst [])) ∧ G' P = none ∧ (upd H1 P (.lst [])) P = some (.lst acc) ∧ DqAll G' acc (flat2 ys f (xs.take 0)) := fun P hP => ⟨G1, [], .own g1.s hP, g1.s.free hP, upd_same, by simpa [flat2] using DqAll.nil⟩
  refine ⟨q, vs, rfl, ?_⟩
  rcases hq with hq | hq
  · exact .inl ⟨g1.s _ _ hq, fun _ P hP => walk_l (vs := vs) (B := fun x H' Nx => uGB X scope tg x (L2.wipe σ (own.map (·.2))) H' fun σ2 H2 => L2.wipe σ2 (own.map (·.2)) = L2.wipe σ (own.map (·.2)) ∧ tYes σ2 H2 fun b H3 =>
        if b = true then iSeqB X.K (uEB X scope it1) σ2 H3 fun J1 H4 => ∃ W1 : Nat → Nat → Hp → Prop, (∃ m, W1 0 m H4) ∧ ∀ j k H, W1 j k H →
          (J1.stop j H ∧ Nx H) ∨ (J1.go j H ∧ ∃ Nx1 : Hp → Prop, (∀ H', Nx1 H' → ∃ k', k' < k ∧ W1 (j + 1) k' H') ∧ ∀ x H', J1.yld j H x H' → uGB X scope tg1 x (L2.wipe σ2 vs1) H' fun σ3 H5 => L2.wipe σ3 vs1 = L2.wipe σ2 vs1 ∧ tYes σ3 H5 fun b H6 =>
            if b = true then uEB X scope elt σ3 H6 fun y H7 => ∃ acc, H7 P = some (.lst acc) ∧ acc.length < sizeLine ∧ Nx1 (upd H7 P (.lst (acc ++ [y]))) else Nx1 H6)
        else Nx H3) (fun i H' => ∃ G' acc, Gr G1 H1 G' H' ∧ G' P = none ∧ H' P = some (.lst acc) ∧ DqAll G' acc (flat2 ys f (xs.take i))) (first P hP) (fun i H' ⟨G', _, g', _⟩ => g'.s _ _ (g'.g _ _ hq)) (turn P hP) (last P hP)⟩
  · exact .inr ⟨g1.s _ _ hq, fun _ P hP => walk_t (vs := vs) (B := fun x H' Nx => uGB X scope tg x (L2.wipe σ (own.map (·.2))) H' fun σ2 H2 => L2.wipe σ2 (own.map (·.2)) = L2.wipe σ (own.map (·.2)) ∧ tYes σ2 H2 fun b H3 =>
        if b = true then iSeqB X.K (uEB X scope it1) σ2 H3 fun J1 H4 => ∃ W1 : Nat → Nat → Hp → Prop, (∃ m, W1 0 m H4) ∧ ∀ j k H, W1 j k H →
          (J1.stop j H ∧ Nx H) ∨ (J1.go j H ∧ ∃ Nx1 : Hp → Prop, (∀ H', Nx1 H' → ∃ k', k' < k ∧ W1 (j + 1) k' H') ∧ ∀ x H', J1.yld j H x H' → uGB X scope tg1 x (L2.wipe σ2 vs1) H' fun σ3 H5 => L2.wipe σ3 vs1 = L2.wipe σ2 vs1 ∧ tYes σ3 H5 fun b H6 =>
            if b = true then uEB X scope elt σ3 H6 fun y H7 => ∃ acc, H7 P = some (.lst acc) ∧ acc.length < sizeLine ∧ Nx1 (upd H7 P (.lst (acc ++ [y]))) else Nx1 H6)
        else Nx H3) (fun i H' => ∃ G' acc, Gr G1 H1 G' H' ∧ G' P = none ∧ H' P = some (.lst acc) ∧ DqAll G' acc (flat2 ys f (xs.take i))) (first P hP) (fun i H' ⟨G', _, g', _⟩ => g'.s _ _ (g'.g _ _ hq)) (turn P hP) (last P hP)⟩
end
end Fw
set_option maxHeartbeats 4000000
namespace Fw
open PySem PySem.Spec PySem.Calls PyProof.Rows L2 PySem.W PyProof.V

section
variable {P : Program} {w : World} {A : Around} {E : Value → Shared → Prop} {s : Shared}
/-- a new set's object -/
def sObj0 (w : World) : Obj := { cls := .type "set", dict := none, data := .set #[] 0 (.fresh 0 0 (!w.params.followText "set-order")) }
/-- what is known of the set at S when i items of the list have been taken -/
structure AddOk (P : Program) (w : World) (A : Around) (S : Addr) (h0 : Heap) (items : List Value) (J : Nat → Heap → Prop) : Prop where
  keep : ∀ i h h', J i h → (∀ o, h.get? S = some o → h'.get? S = some o) → (∀ b o, h0.get? b = some o → h'.get? b = some o) → J i h'
  add : ∀ (i : Nat) (v : Value) (s : Shared) (Q : Bool → Shared → Prop) (E : Value → Shared → Prop), items[i]? = some v → (∀ b o, h0.get? b = some o → s.heap.get? b = some o) → J i s.heap →
    (∀ b h' tk, s.toks ≤ tk → Heap.SameBut S s.heap h' → J (i + 1) h' → Q b { s with heap := h', toks := tk }) → wpAny (model P w) A (setAdd S v) Q E s
theorem set_loop {S I : Addr} {fp wr : List Addr} {G : Array GenState → Array GenState → Prop} {n : Nat} {Pv : Nat → Value → Prop} {St : Nat → Shared → Prop} {R : Result → Shared → Prop} {h0 : Heap} {items : List Value} {J : Nat → Heap → Prop}
    (ok : AddOk P w A.in1 S h0 items J) (Wk : WalksS P w A.in1 I fp wr G n Pv St) (hSf : S ∉ fp) (hn : n = items.length) (hval : ∀ i v, Pv i v → items[i]? = some v) (hS0 : h0.get? S = none) (hw0 : ∀ b ∈ wr, h0.get? b = none) :
    ∀ (k i : Nat) (s : Shared), n - i = k → i ≤ n → St i s → (∀ b o, h0.get? b = some o → s.heap.get? b = some o) → J i s.heap →
      (∀ s', Moved (S :: wr) G s s' → J n s'.heap → (∀ b o, h0.get? b = some o → s'.heap.get? b = some o) → R (.ok (.ret .none)) s') →
      codeAny (model P w) A (.builtin "set.update.loop" ⟨[.ref S, .ref I], []⟩) R s := by
  have hSw : S ∉ wr := fun h => hSf (Wk.sub _ h)
  have wider : ∀ b ∈ wr, b ∈ S :: wr := fun b hb => List.mem_cons_of_mem _ hb
  have still : ∀ {s s' : Shared}, Moved wr G s s' → (∀ b o, h0.get? b = some o → s.heap.get? b = some o) → ∀ b o, h0.get? b = some o → s'.heap.get? b = some o := fun hm hkp b o e =>
    hm.heap b o (fun hb => by rw [hw0 b hb] at e; cases e) (hkp b o e)
  intro k
  induction k with
  | zero =>
    intro i s hk' hi hst hkp hJ hR
    obtain rfl : i = n := by omega
    refine codeAny_builtin F.entry_set_update_loop ?_
    rw [Around.under_plainId F.plain_set_update_loop _]
    show wpAny _ A.in1 (pyNext (.ref I) >>= _) _ _ s
    refine wpAny_bind (Wk.done s _ _ hst fun s' hm => ?_)
    show wpAny _ A.in1 (ret Value.none) _ _ s'
    exact wpAny_pure (hR s' (hm.mono wider) (ok.keep _ _ _ hJ (fun o e => hm.heap S o hSw e) (still hm hkp)) (still hm hkp))
  | succ k ih =>
    intro i s hk' hi hst hkp hJ hR
    have hlt : i < n := by omega
    refine codeAny_builtin F.entry_set_update_loop ?_
    rw [Around.under_plainId F.plain_set_update_loop _]
    show wpAny _ A.in1 (pyNext (.ref I) >>= _) _ _ s
    refine wpAny_bind (Wk.item i s _ _ hlt hst fun v s' hP hst' hm => ?_)
    have hkp' := still hm hkp
    have hJ' := ok.keep _ _ _ hJ (fun o e => hm.heap S o hSw e) hkp'
    show wpAny _ A.in1 (holding [v] (setAdd S v) >>= _) _ _ s'
    refine wpAny_bind (wpAny_holding (ok.add i v s' _ _ (hval i v hP) hkp' hJ' fun b h' tk htk hsb hJ2 => ?_))
    have hkp2 : ∀ b o, h0.get? b = some o → h'.get? b = some o := fun b o e => (hsb.2 b (fun z => by rw [z, hS0] at e; cases e)).trans (hkp' b o e)
    refine wpAny_pure ⟨plainId_quiet F.plain_set_update_loop _, ih (i + 1) _ (by omega) hlt (Wk.frame _ s' _ _ hst' htk fun b hb o e => ?_) hkp2 hJ2 fun s'' hm'' hJ3 hkp'' => ?_⟩
    · rw [hsb.2 b (fun h : b = S => hSf (by rw [← h]; exact hb))]; exact e
    · refine hR s'' (Moved.trans Wk.gtrans ((hm.mono wider).then_heap htk fun b o hb e => ?_) hm'') hJ3 hkp''
      rw [hsb.2 b (fun h : b = S => hb (by rw [h]; exact List.mem_cons_self))]; exact e
/-- set(xs), xs a list -/
theorem call_setJ {l : Addr} {items : Array Value} {J : Nat → Heap → Prop} {Q : Value → Shared → Prop} (hh : A.handled = none) (hl : s.heap.IsList l items) (ok : AddOk P w A.in1.in1.in1 s.heap.objs.size s.heap items.toList J)
    (h0 : ∀ h', h'.get? s.heap.objs.size = some (sObj0 w) → (∀ b o, s.heap.get? b = some o → h'.get? b = some o) → J 0 h')
    (h : ∀ (h' : Heap) (tk : Nat), J items.size h' → (∀ b o, s.heap.get? b = some o → h'.get? b = some o) → Q (.ref s.heap.objs.size) { s with heap := h', toks := tk }) :
    wpAny (model P w) A (call (.type "set") [.ref l]) Q E s := by
  obtain ⟨c, tl, hmro⟩ := F.called_set.mro
  have hmade := F.called_set.made
  have hsub := F.called_set.sub
  refine wpAny_call (codeAny_of_tree ?_)
  show wpAny _ _ (callAny (.type "set") _) _ _ _
  refine wpAny_pure ⟨Code.quiet_builtin _ (by decide +kernel), codeAny_builtin F.entry_type_call ?_⟩
  rw [Around.under_plain (weight_type_call_type "set" [.ref l] []) rfl]
  have h1 := F.called_set.notType
  have h2 := F.called_set.canCreate
  have hct := F.typeCall_set_1 (.ref l)
  repeat (any_goals (first | assumption | wp_step))
  refine codeAny_mono (code_set_led1 (.ref l) (E := E) (Q₁ := fun obj s₁ => obj = .ref s.heap.objs.size ∧ s₁ = { s with heap := s.heap.push (sObj0 w) }) ⟨rfl, rfl⟩) fun r s₁ hr => ?_
  cases r with
  | error e => exact hr
  | ok fl =>
    cases fl with
    | ret obj =>
      obtain ⟨rfl, rfl⟩ := hr
      have hS : (s.heap.push (sObj0 w)).get? s.heap.objs.size = some (sObj0 w) := Heap.get?_push_size _ rfl
      have hT : Shared.TypeIs { s with heap := s.heap.push (sObj0 w) } (.ref s.heap.objs.size) "set" := ⟨_, hS, rfl⟩
      have hli := F.called_set.init.lookup
      have hbi := F.called_set.init.bind (.ref s.heap.objs.size)
      repeat (any_goals (first | assumption | wp_step))
      refine codeAny_mono (codeAny_call_builtin (R := wants (fun r s₂ => r = .none ∧ ∃ h' tk, s₂ = { s with heap := h', toks := tk } ∧ J items.size h' ∧ (∀ b o, s.heap.get? b = some o → h'.get? b = some o)) E) F.called_set.init.plain F.entry_set_init (check_set_init_1 hT ?_)) fun r₂ s₂ hr₂ => ?_
      · obtain ⟨ol, hol, hcl, nl, hdl⟩ := hl
        obtain ⟨ocls, odict, odata, oslots⟩ := ol
        simp only at hcl hdl
        subst hcl; subst hdl
        have hol' : (s.heap.push (sObj0 w)).get? l = some { cls := .type "list", dict := odict, data := .seq items nl, slots := oslots } := Heap.get?_push_of_some _ hol
        have hsls := F.sub_list_set
        have hslf := F.sub_list_frozenset
        have hne : (Value.type "list" == Value.type "dict") = false := by decide
        have hl1 : (s.heap.push (sObj0 w)).IsList l items := ⟨_, hol', rfl, nl, rfl⟩
        unfold Builtin.«set.__init__» noKeywords Builtin.Frozenset.updateFrom
        generalize hPI : pyIter = PI
        wp_walk
        subst hPI
        refine wpAny_pyIter_list hl1 ?_
        refine wpAny_bind (wpAny_runValue ?_)
        have hlS : l < s.heap.objs.size := Heap.lt_size hol
        have hh3 : A.in1.in1.in1.handled = none := by simp [hh]
        have hneI : l ≠ (s.heap.push (sObj0 w)).objs.size := by rw [Heap.size_push]; exact Nat.ne_of_lt (Nat.lt_succ_of_lt hlS)
        have hSf : s.heap.objs.size ∉ [(s.heap.push (sObj0 w)).objs.size, l] := by
          rw [Heap.size_push]; simp only [List.mem_cons, List.mem_singleton, List.not_mem_nil, or_false, not_or]
          exact ⟨Nat.ne_of_lt (Nat.lt_succ_self _), Nat.ne_of_gt hlS⟩
        have none_of : ∀ b, s.heap.objs.size ≤ b → s.heap.get? b = none := fun b hb => Heap.get?_none_of_le hb
        have kp : ∀ b o, s.heap.get? b = some o → ((s.heap.push (sObj0 w)).push { cls := .type "list_iterator", data := .fields #[.ref l, .int 0 0] }).get? b = some o := fun b o e => Heap.get?_push_of_some _ (Heap.get?_push_of_some _ e)
        refine set_loop ok ((Walks.list hh3 _ l hneI items).toS) hSf (by rw [Array.length_toList]) (fun i v hv => by rw [Array.getElem?_toList]; exact hv) (none_of _ (Nat.le_refl _)) (fun b hb => none_of b (by
            rw [List.mem_singleton.mp hb, Heap.size_push]
            exact Nat.le_succ _)) (items.size - 0) 0 _ (by omega) (Nat.zero_le _)
          ⟨⟨_, Heap.get?_push_size _ rfl, rfl, rfl⟩, (hl1.push _)⟩ kp (h0 _ (Heap.get?_push_of_some _ hS) kp) fun s' hm hJ hkp => ?_
        obtain ⟨h', g2, d', tk', os'⟩ := s'
        obtain rfl : g2 = s.gens := hm.gens
        obtain rfl : d' = s.drawn := hm.drawn
        obtain rfl : os' = s.os := hm.os
        show wpAny _ _ _ _ _ _
        refine wpAny_pure ?_
        show wpAny _ _ (ret Value.none) _ _ _
        exact wpAny_pure ⟨rfl, h', tk', rfl, hJ, hkp⟩
      · cases r₂ with
        | error e => exact hr₂
        | ok fl₂ =>
          cases fl₂ with
          | ret r =>
            obtain ⟨rfl, h', tk, rfl, hS', hk'⟩ := hr₂
            repeat (any_goals (first | assumption | wp_step))
            exact h _ _ hS' hk'
          | _ => exact hr₂.elim
    | _ => exact hr.elim
end
end Fw
set_option maxHeartbeats 4000000
namespace Fw
open PySem PySem.Spec PySem.Calls PyProof.Rows L2 PySem.W PyProof.V

def keyS (e : Int × Value) : Str := match e.2 with
  | .str x _ => x
  | _ => ⟨#[]⟩
def GoodS (w : World) (e : Int × Value) : Prop := ∃ x tk, e.2 = Value.str x tk ∧ e.1 = hashStr w x
/-- the set of the texts L at a; its table can be walked -/
def SetS (w : World) (h : Heap) (a : Addr) (L : List Str) : Prop :=
  ∃ o es ep t, h.get? a = some o ∧ o.ExactSet ∧ o.data = .set es ep t ∧ (∀ e ∈ es.toList, GoodS w e) ∧ (es.toList.map keyS).Perm L ∧ L.Nodup ∧
    es.size < scanBound ∧ t.fits es.size = true ∧ Ris t.place.toList ∧ (w.params.followText "set-order" = true ∨ t.led = true)
section
variable {P : Program} {w : World} {A : Around} {E : Value → Shared → Prop} {s : Shared} {a : Addr} {L : List Str}
theorem goods_elems {l : List (Int × Value)} (g : ∀ e ∈ l, GoodS w e) : ElemsOf (strKind P w) l := fun e he => by
  obtain ⟨x, tk, h1, h2⟩ := g e he
  exact ⟨⟨x, by rw [h1]; exact strKind_is P w x tk, h2⟩, by rw [h1] <;> rfl⟩
theorem goods_is {e : Int × Value} (g : GoodS w e) (x : Str) : (strKind P w).is x e.2 = true ↔ keyS e = x := by
  obtain ⟨y, tk, h1, _⟩ := g
  unfold keyS
  rw [h1]
  constructor
  · intro h
    obtain ⟨t', e'⟩ := Value.isStrOf_shape (show Value.isStrOf x (.str y tk) = true from h)
    injection e'
  · rintro rfl
    exact strKind_is P w _ tk
theorem tailS {g : Bool → Sem Unit} (hg : ∀ (b : Bool) (s₁ : Shared) (Q' : Unit → Shared → Prop), Q' () s₁ → wpAny (model P w) A (g b) Q' E s₁)
    {o : Obj} {es : Array (Int × Value)} {ep : Nat} {t : SetTable} (ho : s.heap.get? a = some o) (hex : o.ExactSet) (hd : o.data = .set es ep t)
    {es1 : Array (Int × Value)} {t2 : SetTable} {L1 : List Str} (g1 : ∀ e ∈ es1.toList, GoodS w e) (p1 : (es1.toList.map keyS).Perm L1) (nd1 : L1.Nodup)
    (hb1 : es1.size < scanBound) (hf2 : t2.fits es1.size = true) (hr : Ris t2.place.toList) (hl : w.params.followText "set-order" = true ∨ t2.led = true) {wasDummy : Bool} {R : Option Bool → Shared → Prop}
    (hR : ∀ h', Heap.SameBut a s.heap h' → SetS w h' a L1 → R (some true) { s with heap := h' }) :
    wpAny (model P w) A (do
        storeSet a es1 t2
        if (!wasDummy && t2.tooFull) = true then do
            g (relayAll t2 es1 (SetTable.grown es1.size)).2.2
            storeSet a (relayAll t2 es1 (SetTable.grown es1.size)).1 (relayAll t2 es1 (SetTable.grown es1.size)).2.1
            pure (some true)
          else pure (some true)) R E s := by
  refine wpAny_bind (wpAny_storeSet_of ho hd ?_ (fits_of_scanBound hb1))
  have ho1 := store_at (es' := es1) (t' := t2) ho hd
  have sb1 := Heap.SameBut.update s.heap a (Obj.putSet es1 t2)
  split
  · have pm := relayAll_perm t2 es1 (SetTable.grown es1.size)
    have hf3 := relayAll_fits t2 es1 (SetTable.grown es1.size)
    have hr3 := relayAll_ris t2 es1 (SetTable.grown es1.size)
    have hl3 := relayAll_led t2 es1 (SetTable.grown es1.size)
    generalize relayAll t2 es1 (SetTable.grown es1.size) = Z at pm hf3 hr3 hl3 ⊢
    obtain ⟨es2, t3, gave⟩ := Z
    dsimp only at pm hf3 hr3 hl3 ⊢
    have hb2 : es2.size < scanBound := by
      have e : es2.size = es1.size := by rw [← Array.length_toList, pm.length_eq, Array.length_toList]
      rw [e]; exact hb1
    refine wpAny_bind (hg _ _ _ ?_)
    refine wpAny_bind (wpAny_storeSet_of ho1 rfl ?_ (fits_of_scanBound hb2))
    have ho2 := store_at (es' := es2) (t' := t3) ho1 rfl
    exact wpAny_pure (hR _ (sb1.trans (Heap.SameBut.update _ a _)) ⟨_, es2, _, t3, ho2, hex, rfl, fun e he => g1 e (pm.mem_iff.mp he), (pm.map keyS).trans p1, nd1, hb2, hf3, hr3, hl.imp id fun z => by rw [hl3]; exact z⟩)
  · exact wpAny_pure (hR _ sb1 ⟨_, es1, _, t2, ho1, hex, rfl, g1, p1, nd1, hb1, hf2, hr, hl⟩)
theorem addS {x : Str} {tk : Tok} {Q : Bool → Shared → Prop} (R : SetS w s.heap a L) (room : L.length + 1 < scanBound)
    (hQ : ∀ b h' L', Heap.SameBut a s.heap h' → SetS w h' a L' → (∀ y, y ∈ L' ↔ y = x ∨ y ∈ L) → L'.length ≤ L.length + 1 → Q b { s with heap := h' }) :
    wpAny (model P w) A (setAddHashed a (.str x tk) ((strKind P w).hash x)) Q E s := by
  obtain ⟨o, es, ep, t, ho, hex, hd, g, pe, nd, hb, hf, hr, hl⟩ := R
  have hkey : (strKind P w).is x (.str x tk) = true := strKind_is P w x tk
  have hsc : (Value.str x tk).scannable = true := rfl
  have hel : ElemsOf (strKind P w) es.toList := goods_elems g
  have hmem : ∀ y, y ∈ L ↔ ∃ e ∈ es.toList, (strKind P w).is y e.2 = true := fun y => by
    rw [← pe.mem_iff, List.mem_map]
    exact ⟨fun ⟨e, he, q⟩ => ⟨e, he, (goods_is (g e he) y).2 q⟩, fun ⟨e, he, q⟩ => ⟨e, he, (goods_is (g e he) y).1 q⟩⟩
  have hsz0 : es.size = L.length := by rw [← pe.length_eq, List.length_map, Array.length_toList]
  unfold setAddHashed setAddHashedIn
  refine wpAny_holding (wpAny_bind (wpAny_setState_of ho hd hf ?_))
  dsimp only
  rw [byScan_of hsc hb hel]
  simp only [↓reduceIte]
  unfold setAddByScan
  refine wpAny_bind ?_
  refine wpAny_bind (wpAny_rule ?_)
  refine wpAny_bind (wpAny_setScan_of hkey ho hd hf hel ?_)
  cases hfi : List.findIdx? (fun e => (strKind P w).is x e.2) es.toList with
  | some j =>
    dsimp only
    obtain ⟨hj, pj, _⟩ := List.findIdx?_eq_some_iff_getElem.mp hfi
    have hx : x ∈ L := (hmem x).2 ⟨es.toList[j], List.getElem_mem hj, pj⟩
    refine wpAny_pure (wpAny_pure ?_)
    exact hQ false s.heap L (Heap.SameBut.refl a s.heap) ⟨o, es, ep, t, ho, hex, hd, g, pe, nd, hb, hf, hr, hl⟩ (fun y => ⟨.inr, fun z => z.elim (fun e => e ▸ hx) id⟩) (Nat.le_succ _)
  | none =>
    dsimp only
    have hx : x ∉ L := fun z => by
      obtain ⟨e, he, q⟩ := (hmem x).1 z
      have c := List.findIdx?_eq_none_iff.mp hfi e he
      rw [q] at c
      cases c
    have hgw : ∀ (b : Bool) {s₁ : Shared} {Q' : Unit → Shared → Prop}, Q' () s₁ → wpAny (model P w) A (match b with | true => rule "set.scan.the-table-gave-way" | false => pure ()) Q' E s₁ :=
      fun b s₁ Q' q => by cases b <;> first | exact wpAny_pure q | exact wpAny_rule q
    have pm := layNew_perm t es ((strKind P w).hash x) (.str x tk)
    have hf1 := layNew_fits t es ((strKind P w).hash x) (.str x tk)
    have hr1 := layNew_ris t es ((strKind P w).hash x) (.str x tk) hr
    have hl1 := layNew_led t es ((strKind P w).hash x) (.str x tk)
    generalize layNew t es ((strKind P w).hash x) (.str x tk) = Z at pm hf1 hr1 hl1 ⊢
    obtain ⟨es1, t1, wasDummy, gave⟩ := Z
    dsimp only at pm hf1 hr1 hl1 ⊢
    rw [Array.toList_push] at pm
    have pc : es1.toList.Perm (((strKind P w).hash x, Value.str x tk) :: es.toList) := pm.trans (List.perm_append_singleton _ _)
    have pk : (es1.toList.map keyS).Perm (x :: L) := (pc.map keyS).trans (pe.cons x)
    have g1 : ∀ e ∈ es1.toList, GoodS w e := fun e he => by
      rcases List.mem_cons.mp (pc.mem_iff.mp he) with z | z
      · rw [z]; exact ⟨x, tk, rfl, rfl⟩
      · exact g e z
    have nd1 : (x :: L).Nodup := List.nodup_cons.mpr ⟨hx, nd⟩
    have hb1 : es1.size < scanBound := by
      have e : es1.size = L.length + 1 := by rw [← Array.length_toList, pc.length_eq, List.length_cons, Array.length_toList, hsz0]
      rw [e]; exact room
    have hled : w.params.followText "set-order" = true ∨ t1.led = true := hl.imp id fun z => by rw [hl1]; exact z
    have fin : ∀ h', Heap.SameBut a s.heap h' → SetS w h' a (x :: L) → Q true { s with heap := h' } := fun h' sb r => hQ true h' _ sb r (fun y => List.mem_cons) (Nat.le_refl _)
    refine wpAny_bind (hgw _ ?_)
    split
    · refine wpAny_bind ?_
      rw [hashByValue_scannable 8 hsc]
      refine wpAny_pure ?_
      refine tailS ?_ ho hex hd g1 pk nd1 hb1 ?_ ?_ ?_ ?_
      · intro b s₁ Q' q; cases b <;> first | exact wpAny_pure q | exact wpAny_rule q
      · first | (split <;> first | exact hf1 | exact SetTable.fits_plain_off hf1) | exact hf1
      · first | (split <;> exact hr1) | exact hr1
      · first | (split <;> exact hled) | exact hled
      · intro h' sb r; dsimp only; exact wpAny_pure (fin h' sb r)
    · refine wpAny_bind (wpAny_pure ?_)
      simp only [↓reduceIte]
      refine tailS ?_ ho hex hd g1 pk nd1 hb1 hf1 hr1 hled ?_
      · intro b s₁ Q' q; cases b <;> first | exact wpAny_pure q | exact wpAny_rule q
      · intro h' sb r; dsimp only; exact wpAny_pure (fin h' sb r)
theorem strs_nth : ∀ {items : List Value} {xs : List Str} {i : Nat} {v : Value}, StrsAre items xs → items[i]? = some v → ∃ x, xs[i]? = some x ∧ ∃ tk, v = .str x tk
  | _, _, _, _, .nil, hv => by simp at hv
  | _, _, 0, _, .cons y t h, hv => by simp at hv; subst hv; exact ⟨_, rfl, _, rfl⟩
  | _, _, i + 1, _, .cons y t h, hv => by
    obtain ⟨x, h1, h2⟩ := strs_nth (i := i) h (by simpa using hv)
    exact ⟨x, by simpa using h1, h2⟩
/-- the texts xs.take i are in -/
def JS (w : World) (a : Addr) (xs : List Str) (i : Nat) (h : Heap) : Prop := ∃ L, SetS w h a L ∧ (∀ y, y ∈ L ↔ y ∈ xs.take i) ∧ L.length ≤ i
theorem addOkS {h0 : Heap} {items : List Value} {xs : List Str} (hs : StrsAre items xs) (hb : xs.length + 1 < scanBound) : AddOk P w A a h0 items (JS w a xs) where
  keep := fun i h h' ⟨L, ⟨o, es, ep, t, ho, r⟩, m, l⟩ k _ => ⟨L, ⟨o, es, ep, t, k o ho, r⟩, m, l⟩
  add := fun i v s Q E hv _ ⟨L, hS, m, l⟩ hQ => by
    obtain ⟨x, hx, tk, rfl⟩ := strs_nth hs hv
    have hi : i < xs.length := (List.getElem?_eq_some_iff.mp hx).1
    unfold setAdd
    refine wpAny_holding (wpAny_bind ((strKind P w).pyHash (strKind_is P w x tk) ?_))
    refine addS (s := { s with toks := s.toks + 1 }) hS (by omega) fun b h' L' sb hS' m' l' => hQ b h' (s.toks + 1) (Nat.le_succ _) sb ⟨L', hS', fun y => ?_, by omega⟩
    rw [m' y, m y, List.take_add_one, hx, List.mem_append]
    simp only [Option.toList_some, List.mem_singleton]
    exact Or.comm
theorem setS_fresh {h : Heap} (ho : h.get? a = some (sObj0 w)) : SetS w h a [] :=
  ⟨_, #[], 0, _, ho, ⟨rfl, rfl, rfl⟩, rfl, (fun e he => by simp at he), .nil, List.nodup_nil, by decide, by rfl, List.Pairwise.nil, by
    show _ ∨ (!w.params.followText "set-order") = true
    cases w.params.followText "set-order"
    · exact .inr rfl
    · exact .inl rfl⟩
end
/-- the set's object in the abstract heap -/
def SetSO (w : World) (a : Addr) (L : List Str) : HO := .ext fun h => SetS w h a L
theorem setS_obj {P : Program} {w : World} {H : Hp} {h : Heap} {a : Addr} {L : List Str} (R : SetS w h a L) : ObjOk P w H h a (SetSO w a L) :=
  ⟨R, let ⟨o, _, _, _, ho, _⟩ := R; ⟨o, ho⟩, fun h1 h2 ⟨o, es, ep, t, ho, r⟩ k => ⟨o, es, ep, t, k o ho, r⟩⟩
theorem strs_of_vals : ∀ {xs : List Str} {us : List Value}, Vals (xs.map V.str) us → StrsAre us xs
  | [], _, r => by cases r; exact .nil
  | x :: xs, _, r => by
    cases r with
    | cons h t => obtain ⟨tk, rfl⟩ := h; exact .cons x tk (strs_of_vals t)
section
variable {X : Cx}
def rSetS (K : PySem.W.Frag) (w : World) : List V → Hp → VK → Prop := fun vs H Q => ∃ (l : Addr) (xs : List Str), vs = [V.ref l] ∧ SqL K H l (xs.map V.str) ∧ xs.length ≤ 4000 ∧ ∀ a L, H a = none → L.Nodup → (∀ y, y ∈ L ↔ y ∈ xs) → Q (.ref a) (upd H a (SetSO w a L))
theorem cr_setS (hc : X.calm = true) : CallR X (.type "set") (rSetS X.K X.w) := by
  intro pins s σ H vs us Q I r h
  obtain ⟨l, xs, rfl, hl, hz, q⟩ := h
  rw [Vals.ref1 r]
  obtain ⟨its, rv, pl, _⟩ := I.list hl
  have hs := strs_of_vals rv
  have hlen : its.length = xs.length := by rw [← rv.length, List.length_map]
  refine call_setJ (P := X.prog) (w := X.w) (J := JS X.w s.heap.objs.size xs) (I.ok.hd hc) pl.isList (addOkS (by simpa using hs) (by unfold scanBound; omega)) (fun h' ho _ => ⟨[], setS_fresh ho, by simp, Nat.le_refl _⟩) fun h' tk hJ hk => ?_
  obtain ⟨L, hS, m, _⟩ := hJ
  have e : xs.take its.toArray.size = xs := by rw [List.size_toArray, hlen, List.take_length]
  rw [e] at m
  have nd : L.Nodup := let ⟨_, _, _, _, _, _, _, _, _, nd, _⟩ := hS; nd
  exact ⟨.ref s.heap.objs.size, _, I.laid (t' := tk) hk (Nat.le_refl _) (setS_obj hS), rfl, q _ L (I.hok.fresh (Nat.le_refl _)) nd m⟩
def cSetS (w : World) : V → Hp → (List V → Hp → Prop) → Prop := fun x H Q => ∃ a L, x = .ref a ∧ H a = some (SetSO w a L) ∧ ∀ L' : List Str, L'.Perm L → Q (L'.map V.str) H
theorem vals_keyS {w : World} : ∀ {l : List (Int × Value)}, (∀ e ∈ l, GoodS w e) → Vals ((l.map keyS).map V.str) (l.map (·.2))
  | [], _ => .nil
  | e :: l, g => by
    obtain ⟨x, tk, h1, _⟩ := g e List.mem_cons_self
    refine .cons ?_ (vals_keyS fun e he => g e (List.mem_cons_of_mem _ he))
    show ∃ t, e.2 = .str (keyS e) t
    exact ⟨tk, by unfold keyS; rw [h1]⟩
theorem vals_perm : ∀ {us us' : List Value}, us.Perm us' → ∀ {xs' : List Str}, Vals (xs'.map V.str) us' → ∃ xs : List Str, xs.Perm xs' ∧ Vals (xs.map V.str) us := by
  intro us us' p
  induction p with
  | nil => intro xs' r; exact ⟨xs', .refl _, r⟩
  | @cons x l1 l2 p ih =>
    intro xs' r
    cases xs' with
    | nil => cases r
    | cons y ys =>
      cases r with
      | cons h t =>
        obtain ⟨xs, h1, h2⟩ := ih t
        exact ⟨y :: xs, h1.cons y, .cons h h2⟩
  | swap x y l =>
    intro xs' r
    cases xs' with
    | nil => cases r
    | cons a ys =>
      cases ys with
      | nil => cases r with | cons h t => cases t
      | cons b zs =>
        cases r with
        | cons h t => cases t with
          | cons h2 t2 => exact ⟨b :: a :: zs, .swap a b zs, .cons h2 (.cons h t2)⟩
  | trans p1 p2 i1 i2 =>
    intro xs' r
    obtain ⟨xs, h1, h2⟩ := i2 r
    obtain ⟨ys, h3, h4⟩ := i1 h2
    exact ⟨ys, h3.trans h1, h4⟩
theorem col_setS (hc : X.calm = true) : ColR X (cSetS X.w) := by
  intro pins s σ H x u Q E I r ⟨a, L, ex, ha, q⟩
  subst ex
  obtain rfl : u = Value.ref a := r
  obtain ⟨o, es, ep, t, ho, hex, hd, g, pe, nd, hb, hf, hr, hl⟩ : SetS X.w s.heap a L := (I.hok a _ ha).1
  refine collect_set (A := X.A.in1) (I.ok.hd hc) ⟨o, ho, hex.1, hd⟩ hf hb hr hl fun s1 out k1 hz g1 o1 pm => ?_
  obtain ⟨xs, p1, r1⟩ := vals_perm pm (vals_keyS g)
  have e : s1 = { s with heap := s1.heap, gens := s1.gens, drawn := s1.drawn, toks := s1.toks } := by
    cases s1
    cases s
    cases o1
    rfl
  have J : Inv X pins σ H { s with heap := s1.heap, gens := s1.gens, drawn := s1.drawn, toks := s1.toks } := I.call (ch := []) (Un.kept k1) (I.hok.kept k1) (by rw [g1]; exact I.bare) (fun _ z => nomatch z)
  rw [e]
  refine ⟨xs.map V.str, H, J, r1, ?_, q xs (p1.trans pe)⟩
  rw [List.length_map, p1.length_eq, List.length_map, Array.length_toList]
  exact fits_of_scanBound hb
def rLenS (w : World) : List V → Hp → VK → Prop := fun vs H Q => ∃ a L, vs = [V.ref a] ∧ H a = some (SetSO w a L) ∧ Q (.int (L.length : Int)) H
theorem cr_lenS : CallR X (.builtin "len") (rLenS X.w) := by
  intro pins s σ H vs us Q I r h
  obtain ⟨a, L, rfl, ha, q⟩ := h
  rw [Vals.ref1 r]
  obtain ⟨o, es, ep, t, ho, hex, hd, g, pe, nd, hb, hf, hr, hl⟩ : SetS X.w s.heap a L := (I.hok a _ ha).1
  have e : es.size = L.length := by rw [← pe.length_eq, List.length_map, Array.length_toList]
  exact call_len_set ho hex hd hf (by unfold scanBound at hb; omega) ⟨.int (L.length : Int), H, I.tok _, ⟨_, by rw [e]⟩, q⟩
end

theorem leS_total (x y : Str) : (leS x y || leS y x) = true := by
  unfold leS
  rw [Bool.or_eq_true, decide_eq_true_eq, decide_eq_true_eq]
  exact Std.le_total
theorem leS_trans (x y z : Str) (h1 : leS x y = true) (h2 : leS y z = true) : leS x z = true := by
  unfold leS at *
  rw [decide_eq_true_eq] at *
  exact Std.le_trans h1 h2
theorem leS_anti {x y : Str} (h1 : leS x y = true) (h2 : leS y x = true) : x = y := by
  unfold leS at *
  rw [decide_eq_true_eq] at *
  have q := Std.le_antisymm h1 h2
  cases x; cases y
  simp only at q
  congr
  exact Array.toList_inj.mp q
/-- rising, with no text twice -/
def Up (xs : List Str) : Prop := xs.Pairwise fun x y => leS x y = true ∧ x ≠ y
theorem sorted_up {xs : List Str} (h : xs.Nodup) : Up (xs.mergeSort leS) := by
  have s := List.pairwise_mergeSort leS_trans leS_total xs
  have n : (xs.mergeSort leS).Nodup := (List.mergeSort_perm xs leS).nodup_iff.mpr h
  exact s.imp₂ (fun a b h1 h2 => ⟨h1, h2⟩) n
theorem up_unique : ∀ {xs ys : List Str}, Up xs → Up ys → (∀ x, x ∈ xs ↔ x ∈ ys) → xs = ys
  | [], [], _, _, _ => rfl
  | [], y :: ys, _, _, h => by have := (h y).2 List.mem_cons_self; cases this
  | x :: xs, [], _, _, h => by have := (h x).1 List.mem_cons_self; cases this
  | x :: xs, y :: ys, h1, h2, h => by
    obtain ⟨a1, a2⟩ := List.pairwise_cons.mp h1
    obtain ⟨b1, b2⟩ := List.pairwise_cons.mp h2
    have e : x = y := by
      rcases List.mem_cons.mp ((h x).1 List.mem_cons_self) with q | q
      · exact q
      · rcases List.mem_cons.mp ((h y).2 List.mem_cons_self) with q' | q'
        · exact q'.symm
        · exact leS_anti (a1 y q').1 (b1 x q).1
    subst e
    rw [up_unique a2 b2 fun z => ⟨fun hz => ?_, fun hz => ?_⟩]
    · rcases List.mem_cons.mp ((h z).1 (List.mem_cons_of_mem _ hz)) with q | q
      · exact absurd q.symm (a1 z hz).2
      · exact q
    · rcases List.mem_cons.mp ((h z).2 (List.mem_cons_of_mem _ hz)) with q | q
      · exact absurd q.symm (b1 z hz).2
      · exact q
def once : List Str → List Str
  | [] => []
  | x :: xs => if x ∈ once xs then once xs else x :: once xs
theorem mem_once {x : Str} : ∀ {xs : List Str}, x ∈ once xs ↔ x ∈ xs
  | [] => .rfl
  | y :: ys => by
    unfold once
    split
    · rename_i h
      rw [List.mem_cons, mem_once]
      exact ⟨.inr, fun z => z.elim (fun e => by rw [e]; exact mem_once.1 h) id⟩
    · rw [List.mem_cons, List.mem_cons, mem_once]
theorem nodup_once : ∀ xs : List Str, (once xs).Nodup
  | [] => .nil
  | y :: ys => by
    unfold once
    split
    · exact nodup_once ys
    · rename_i h
      exact List.nodup_cons.mpr ⟨h, nodup_once ys⟩
def setS (xs : List Str) : List Str := (once xs).mergeSort leS
theorem mem_setS {xs : List Str} {x : Str} : x ∈ setS xs ↔ x ∈ xs := by
  unfold setS
  rw [(List.mergeSort_perm _ _).mem_iff, mem_once]
theorem up_setS (xs : List Str) : Up (setS xs) := sorted_up (nodup_once _)
theorem setS_of {xs L : List Str} (nd : L.Nodup) (m : ∀ y, y ∈ L ↔ y ∈ xs) : L.mergeSort leS = setS xs :=
  up_unique (sorted_up nd) (up_setS xs) fun x => by rw [(List.mergeSort_perm _ _).mem_iff, m, mem_setS]
end Fw
set_option maxHeartbeats 4000000
namespace Fw
open PySem PySem.Spec PySem.Calls PyProof.Rows L2 PySem.W PyProof.V

/-- the tuple of the texts xs at b -/
def ItT (h : Heap) (xs : List Str) (b : Addr) : Prop := ∃ o items n, h.get? b = some o ∧ o.cls = .type "tuple" ∧ o.data = .seq items n ∧ StrsAre items.toList xs
def keyT (xs : List Str) : NestedKey := .tup (xs.map .text)
theorem keyT_inj {xs ys : List Str} (h : keyT xs = keyT ys) : xs = ys := by
  unfold keyT at h
  injection h with h
  exact List.map_inj_right (fun a b e => by injection e) |>.mp h
theorem nested_texts {h : Heap} : ∀ {vs : List Value} {xs : List Str}, StrsAre vs xs → NestedAll h (xs.map .text) vs
  | _, _, .nil => .nil
  | _, _, .cons x t r => .cons (.text x t) (nested_texts r)
theorem depth_texts : ∀ xs : List Str, NestedKey.depthAll (xs.map .text) = 0
  | [] => rfl
  | x :: xs => by rw [List.map_cons, NestedKey.depthAll, depth_texts xs]; rfl
section
variable {P : Program} {w : World} {A : Around} {E : Value → Shared → Prop} {s : Shared}
abbrev hT (P : Program) (w : World) (k : List Str) : Int := (nestedKind P w).hash (keyT k)
theorem ItT.is {h : Heap} {k : List Str} {b : Addr} (x : ItT h k b) : (nestedKind P w).is h (keyT k) b := by
  obtain ⟨o, items, n, h1, h2, h3, h4⟩ := x
  refine ⟨.tup h1 h2 h3 (nested_texts h4), ?_⟩
  unfold keyT
  rw [NestedKey.depth, depth_texts]
  decide
theorem ItT.at {h h' : Heap} {k : List Str} {b : Addr} (x : ItT h k b) (e : ∀ o, h.get? b = some o → h'.get? b = some o) : ItT h' k b := by
  obtain ⟨o, items, n, h1, r⟩ := x
  exact ⟨o, items, n, e o h1, r⟩
theorem strs_shape {vs : List Value} {xs : List Str} (h : StrsAre vs xs) : ∀ v ∈ vs, ∃ i t, v = Value.str i t := by
  induction h with
  | nil => intro v hv; cases hv
  | cons x t r ih =>
    intro v hv
    rcases List.mem_cons.mp hv with e | hv
    · exact ⟨x, t, e⟩
    · exact ih v hv
theorem ofAT {k : List Str} {b : Addr} {Q : Bool → Shared → Prop} (hk : ItT s.heap k b) (h : Q false s) : wpAny (model P w) A (ofAClassStatement 8 (.ref b)) Q E s := by
  obtain ⟨o, items, n, ho, hc, hd, hi⟩ := hk
  unfold ofAClassStatement
  refine wpAny_bind (wpAny_typeOf (T := "tuple") ⟨o, ho, hc⟩ ?_)
  dsimp only
  have e : (("tuple" : String) == "tuple") = true := by decide
  simp only [e, if_true, Bool.not_true, Bool.false_eq_true, if_false]
  try refine wpAny_bind (wpAny_pure ?_)
  try simp only [Bool.not_true, Bool.false_eq_true, if_false]
  show wpAny _ _ (seqItems? (.ref b) >>= _) _ _ s
  refine wpAny_bind (wpAny_seqItems ho hd ?_)
  dsimp only
  refine wpAny_bind ?_
  show wpAny _ _ (forIn items _ _) _ _ s
  rw [← Array.forIn_toList]
  refine wpAny_forIn_list _ (fun rest r s' => r.1 = none ∧ s' = s ∧ ∀ v ∈ rest, ∃ i t, v = Value.str i t) _ ?_ ?_ _ _ ⟨rfl, rfl, strs_shape hi⟩
  · rintro v rest r s' ⟨hr, rfl, hall⟩
    obtain ⟨i, t, rfl⟩ := hall v List.mem_cons_self
    rw [show ofAClassStatement 7 (.str i t) = pure false from rfl]
    refine wpAny_bind (wpAny_pure ?_)
    simp only [Bool.false_eq_true, if_false]
    exact wpAny_pure ⟨rfl, rfl, fun u hu' => hall u (List.mem_cons_of_mem _ hu')⟩
  · rintro ⟨r1, r2⟩ s' ⟨hr, rfl, _⟩
    simp only at hr
    subst hr
    exact wpAny_pure h
theorem hashByT {k : List Str} {b : Addr} {Q : Bool → Shared → Prop} (hk : ItT s.heap k b) (h : ∀ c, Q c s) : wpAny (model P w) A (hashByValue 8 (.ref b)) Q E s := by
  obtain ⟨o, items, n, ho, hc, hd, hi⟩ := hk
  unfold hashByValue
  refine wpAny_bind (wpAny_specialOf (show s.TypeIs (.ref b) "tuple" from ⟨o, ho, hc⟩) F.slot_tuple_hash.lookup ?_)
  show wpAny _ _ (seqItems? (.ref b) >>= _) _ _ s
  refine wpAny_bind (wpAny_seqItems ho hd ?_)
  refine wpAny_bind ?_
  show wpAny _ _ (forIn items _ _) _ _ s
  rw [← Array.forIn_toList]
  cases hit : items.toList with
  | nil =>
    rw [List.forIn_nil]
    exact wpAny_pure (wpAny_pure (h _))
  | cons v rest =>
    rw [hit] at hi
    obtain ⟨i, t, rfl⟩ := strs_shape hi v List.mem_cons_self
    rw [List.forIn_cons]
    rw [show hashByValue 7 (.str i t) = pure false from rfl]
    refine wpAny_bind (wpAny_bind (wpAny_pure ?_))
    simp only [Bool.not_false, if_true]
    exact wpAny_pure (wpAny_pure (wpAny_pure (h _)))
theorem seenT {k : List Str} {b : Addr} {Q : Bool → Shared → Prop} (hk : ItT s.heap k b) {ys : List Value} (hy : ∀ y ∈ ys, ∃ k' c, y = Value.ref c ∧ ItT s.heap k' c) (h : Q false s) : wpAny (model P w) A (searchCouldBeSeen (.ref b) ys) Q E s := by
  unfold searchCouldBeSeen
  refine wpAny_bind ?_
  refine wpAny_forIn_list _ (fun rest r s' => r.1 = none ∧ s' = s ∧ ∀ y ∈ rest, ∃ k' c, y = Value.ref c ∧ ItT s.heap k' c) _ ?_ ?_ _ _ ⟨rfl, rfl, hy⟩
  · rintro v rest r s' ⟨hr, rfl, hall⟩
    obtain ⟨k', c, rfl, hc⟩ := hall v List.mem_cons_self
    have rest' : ∀ y ∈ rest, ∃ k' c, y = Value.ref c ∧ ItT s'.heap k' c := fun u hu' => hall u (List.mem_cons_of_mem _ hu')
    dsimp only
    by_cases hv : (b == c || (carriedByValue (.ref b) && carriedByValue (.ref c))) = true
    · exact wp_if_pos hv (wpAny_pure ⟨rfl, rfl, rest'⟩)
    · refine wp_if_neg hv ?_
      refine wpAny_bind ((nestedKind P w).quiet hk.is ?_)
      simp only [Bool.not_true, Bool.false_eq_true, if_false]
      refine wpAny_bind ((nestedKind P w).quiet hc.is ?_)
      simp only [Bool.not_true, Bool.false_eq_true, if_false]
      refine wpAny_bind (ofAT hk ?_)
      simp only [Bool.false_eq_true, if_false]
      refine wpAny_bind (ofAT hc ?_)
      simp only [Bool.false_eq_true, if_false]
      exact wpAny_pure ⟨rfl, rfl, rest'⟩
  · rintro ⟨r1, r2⟩ s' ⟨hr, rfl, _⟩
    simp only at hr
    subst hr
    exact wpAny_pure h
abbrev Tps := List (Addr × List Str)
def rowsT (P : Program) (w : World) (L : Tps) : List (Int × Value) := L.map fun p => (hT P w p.2, Value.ref p.1)
structure SetT (P : Program) (w : World) (h : Heap) (a : Addr) (L : Tps) (es : Array (Int × Value)) (ep : Nat) (t : SetTable) : Prop where
  ob : ∃ o, h.get? a = some o ∧ o.ExactSet ∧ o.data = .set es ep t
  rows : es.toList = rowsT P w L
  tab : TabOk t (L.map fun p => hT P w p.2)
  tup : ∀ p ∈ L, ItT h p.2 p.1
  m7 : t.mask = 7
  few : L.length ≤ 3
variable {a : Addr} {L : Tps} {es : Array (Int × Value)} {ep : Nat} {t : SetTable}
theorem SetT.size (R : SetT P w s.heap a L es ep t) : es.size = L.length := by
  have h := congrArg List.length R.rows
  unfold rowsT at h
  rwa [Array.length_toList, List.length_map] at h
theorem SetT.fits (R : SetT P w s.heap a L es ep t) : t.fits es.size = true := by
  have h1 := R.tab.sz
  rw [List.length_map] at h1
  have h2 := R.size
  have h3 := R.few
  have h4 := R.m7
  unfold SetTable.fits SetTable.fill
  rw [R.tab.dm, Bool.and_eq_true, beq_iff_eq, decide_eq_true_eq]
  show t.place.size = es.size ∧ t.place.size + 0 ≤ t.mask
  omega
theorem SetT.entry (R : SetT P w s.heap a L es ep t) {i : Nat} {p : Addr × List Str} (h : L[i]? = some p) : es[i]? = some (hT P w p.2, Value.ref p.1) := by
  rw [← Array.getElem?_toList, R.rows]
  unfold rowsT
  rw [List.getElem?_map, h] <;> rfl
theorem SetT.gw (R : SetT P w s.heap a L es ep t) : ¬ t.gaveWay = true := by
  unfold SetTable.gaveWay
  rw [mask_odd R.tab.mok]
  decide
/-- a tuple that is none of those is not found -/
theorem searchT (R : SetT P w s.heap a L es ep t) {x : Addr} {k : List Str} (hx : ItT s.heap k x) (hu : A.units + 8 < cLine) (hk : k ∉ L.map (·.2)) {K : Nat} (hKf : K < 10 * SetTable.turns t.mask)
    (hK : way t.mask (hT P w k) K ∉ t.place.toList) (hKb : ∀ c, c < K → way t.mask (hT P w k) c ∈ t.place.toList) {Q : SetFound → Shared → Prop} (hout : Q (.free (way t.mask (hT P w k) K) false) s) :
    ∀ (f c : Nat) (stand : Option SetTable.Probe), stand.getD (t.probeStart (hT P w k)) = nth t.mask (runAt t.mask (SetTable.bits (hT P w k) % (t.mask + 1)) (SetTable.bits (hT P w k))) c → c ≤ K → K - c < f →
      wpAny (model P w) A (setSearchFrom a (.ref x) (hT P w k) true f stand) Q E s
  | 0, c, stand, _, _, hf => absurd hf (Nat.not_lt_zero _)
  | f + 1, c, stand, hst, hc, hf => by
    obtain ⟨o, ho, hex, hd⟩ := R.ob
    rw [setSearchFrom_succ]
    refine wpAny_bind (wpAny_setState_of ho hd R.fits ?_)
    dsimp only
    refine wp_if_neg R.gw ?_
    try refine wpAny_bind (wpAny_pure ?_)
    generalize hrun : runAt t.mask (SetTable.bits (hT P w k) % (t.mask + 1)) (SetTable.bits (hT P w k)) = r0 at hst
    have hr0 : r0.dummy = none := by rw [← hrun]; rfl
    have hnd : (nth t.mask r0 c).dummy = none := by
      have key : ∀ (n : Nat) (p : SetTable.Probe), p.dummy = none → (nth t.mask p n).dummy = none := by
        intro n
        induction n with
        | zero => intro p h; exact h
        | succ n ih =>
          intro p h
          refine ih (adv t.mask p) ?_
          unfold adv
          split <;> exact h
      exact key c _ hr0
    have sh : ∀ q, nth t.mask (nth t.mask r0 c) q = nth t.mask r0 (c + q) := fun q => (nth_add t.mask c r0 q).symm
    have e1 : ∀ q, (nth t.mask (nth t.mask r0 c) q).j = way t.mask (hT P w k) (c + q) := fun q => by rw [sh]; show _ = (nth t.mask (runAt _ _ _) (c + q)).j; rw [hrun]
    have spec := go_spec t R.tab.ris R.tab.dm (fun i => (es[i]?.map (·.1)).getD 0) (hT P w k) (10 * SetTable.turns t.mask) (K - c) _ hnd (by omega)
      (fun q hq => by rw [e1]; exact hKb (c + q) (by omega)) (by rw [e1, show c + (K - c) = K by omega]; exact hK)
    rcases spec with ⟨q, i, hq, hi, hh, hno, hpr⟩ | ⟨hno, hpr⟩
    · have hpr' : t.probe (fun i => (es[i]?.map (·.1)).getD 0) (hT P w k) (stand.getD (t.probeStart (hT P w k))) = some (.candidate (way t.mask (hT P w k) (c + q)) i (nth t.mask r0 (c + (q + 1)))) := by
        rw [hst, ← e1, ← sh]
        exact hpr
      rw [hpr']
      dsimp only
      rw [e1] at hi
      have hil : i < L.length := by
        have h1 : i < t.place.toList.length := (List.getElem?_eq_some_iff.mp hi).1
        have h2 := R.tab.sz
        rw [List.length_map] at h2
        rw [Array.length_toList] at h1
        omega
      obtain ⟨p, hp⟩ : ∃ p, L[i]? = some p := ⟨_, List.getElem?_eq_getElem hil⟩
      have hmem : p ∈ L := List.mem_of_getElem? hp
      have hpt := R.tup p hmem
      have hkk : p.2 ≠ k := fun e => hk (List.mem_map.mpr ⟨p, hmem, e⟩)
      have hkey : ¬ keyT p.2 = keyT k := fun e => hkk (keyT_inj e)
      have rest : wpAny (model P w) A (searchRest a (.ref x) (hT P w k) true f es t (way t.mask (hT P w k) (c + q)) i (nth t.mask r0 (c + (q + 1)))) Q E s := by
        unfold searchRest
        rw [R.entry hp]
        dsimp only
        refine wpAny_bind (wpAny_holding ((nestedKind P w).eqBool hu hpt.is hx.is ?_))
        refine wpAny_bind (wpAny_setState_of ho hd R.fits ?_)
        dsimp only
        refine wp_if_neg (by simp [hkey]) ?_
        try refine wpAny_bind (wpAny_pure ?_)
        rw [sameMem]
        dsimp only
        have hsl : t.slot (way t.mask (hT P w k) (c + q)) = .live i := slot_live R.tab.ris hi
        simp only [if_true, hsl, R.entry hp]
        refine wpAny_bind (wpAny_isSame_ref_self (wpAny_bind (wpAny_pure ?_)))
        simp only [if_true]
        refine wp_if_neg (by simp [hkey]) ?_
        exact searchT R hx hu hk hKf hK hKb hout f (c + (q + 1)) _ (by rw [hrun]; rfl) (by omega) (by omega)
      by_cases hl : t.led = true
      · refine wp_if_neg (by simp [hl]) ?_
        try refine wpAny_bind (wpAny_pure ?_)
        exact rest
      · refine wp_if_pos (by simp [hl]) ?_
        refine wpAny_bind (seenT hx (fun y hy => ?_) ?_)
        · obtain ⟨e, he, ee⟩ := List.mem_map.mp hy
          have he1 : e ∈ es ∧ e.1 = hT P w k := by simpa using he
          have he2 : e ∈ es.toList := by simpa using he1.1
          rw [R.rows] at he2
          obtain ⟨p2, hp2, e2⟩ := List.mem_map.mp he2
          refine ⟨p2.2, p2.1, ?_, R.tup p2 hp2⟩
          rw [← ee, ← e2]
        · refine wp_if_neg (by decide) ?_
          try refine wpAny_bind (wpAny_pure ?_)
          exact rest
    · have hpr' : t.probe (fun i => (es[i]?.map (·.1)).getD 0) (hT P w k) (stand.getD (t.probeStart (hT P w k))) = some (.empty (way t.mask (hT P w k) K) none) := by
        have e2 : way t.mask (hT P w k) K = (nth t.mask (nth t.mask r0 c) (K - c)).j := by rw [e1, show c + (K - c) = K by omega]
        rw [hst, e2]
        exact hpr
      rw [hpr']
      dsimp only
      exact wpAny_pure hout
theorem addT (R : SetT P w s.heap a L es ep t) {x : Addr} {k : List Str} (hx : ItT s.heap k x) (hu : A.units + 8 < cLine) (hfew : L.length < 3) (hk : k ∉ L.map (·.2)) {Q : Bool → Shared → Prop}
    (hQ : ∀ b h' L' es' ep' t', Heap.SameBut a s.heap h' → SetT P w h' a L' es' ep' t' → L'.Perm ((x, k) :: L) → Q b { s with heap := h' }) :
    wpAny (model P w) A (setAddHashed a (.ref x) (hT P w k)) Q E s := by
  obtain ⟨o, ho, hex, hd⟩ := R.ob
  have hsl := R.size
  have hm7 := R.m7
  unfold setAddHashed
  refine wpAny_holding ?_
  rw [show (100000 : Nat) = 99999 + 1 from rfl, setAddHashedIn_succ]
  refine wpAny_bind (wpAny_setState_of ho hd R.fits ?_)
  dsimp only
  refine wp_if_neg (by simp [byScan, Value.scannable]) ?_
  try refine wpAny_bind (wpAny_pure ?_)
  obtain ⟨K, hKf, hK, hKb⟩ := R.tab.first (by rw [List.length_map]; omega) (hT P w k)
  have hbig : K < 100000 := by
    have : 10 * SetTable.turns t.mask ≤ 1420 := by
      unfold SetTable.turns
      omega
    omega
  unfold setSearch
  refine wpAny_bind (searchT R hx hu hk hKf hK hKb ?_ 100000 0 none rfl (Nat.zero_le _) (by omega))
  dsimp only
  refine wpAny_bind (wpAny_setState_of ho hd R.fits ?_)
  dsimp only
  obtain ⟨q1, q2, q3, q4, q5, q6, q7, q8, q9⟩ := R.tab.put hK hKb
  generalize hpt : t.put (way t.mask (hT P w k) K) = pt at q1 q3 q4 q5 q6 q7 q8 q9 ⊢
  obtain ⟨t1, p⟩ := pt
  dsimp only at q1 q3 q4 q5 q6 q7 q8 q9 ⊢
  subst q1
  generalize hpp : SetTable.below t.place (way t.mask (hT P w k) K) = p at q2 q3 ⊢
  have hin : (SetTable.insertAt es p (hT P w k, Value.ref x)).toList = rowsT P w (L.take p ++ (x, k) :: L.drop p) := by
    rw [SetTable.toList_insertAt, R.rows]
    unfold rowsT
    rw [List.map_append, List.map_cons, List.map_take, List.map_drop]
  have pm : (L.take p ++ (x, k) :: L.drop p).Perm ((x, k) :: L) := L2.put_perm L p (x, k)
  have hlen : (L.take p ++ (x, k) :: L.drop p).length = L.length + 1 := pm.length_eq
  have hhs : (L.take p ++ (x, k) :: L.drop p).map (fun p => hT P w p.2) = (L.map fun p => hT P w p.2).take p ++ hT P w k :: (L.map fun p => hT P w p.2).drop p := by
    rw [List.map_append, List.map_cons, List.map_take, List.map_drop]
  rw [← hhs] at q3
  have hes : (SetTable.insertAt es p (hT P w k, Value.ref x)).size = L.length + 1 := by
    have h := congrArg List.length hin
    unfold rowsT at h
    rwa [Array.length_toList, List.length_map, hlen] at h
  generalize SetTable.insertAt es p (hT P w k, Value.ref x) = es1 at hin hes ⊢
  generalize L.take p ++ (x, k) :: L.drop p = L1 at pm hlen q3 hin
  have nea : ∀ {k' : List Str} {b : Addr}, ItT s.heap k' b → b ≠ a := fun {k' b} z e => by
    obtain ⟨ob, its, n, g1, _, g3, _⟩ := z
    rw [e, ho] at g1
    cases g1
    rw [hd] at g3
    cases g3
  have fin : ∀ t2 : SetTable, TabOk t2 (L1.map fun p => hT P w p.2) → t2.mask = 7 → t2.fill = L.length + 1 → wpAny (model P w) A (do
      storeSet a es1 t2
      if (!false && t2.tooFull) = true then setRelay a (SetTable.grown (es.size + 1))
      return true) Q E s := fun t2 q3 hm2 hfl => by
    refine wpAny_bind (wpAny_storeSet_of ho hd ?_ (by rw [hes, sizeLine_eq]; omega))
    have sb : Heap.SameBut a s.heap (s.heap.update a (Obj.putSet es1 t2)) := Heap.SameBut.update ..
    have ho1 := store_at (es' := es1) (t' := t2) ho hd
    generalize s.heap.update a (Obj.putSet es1 t2) = h1 at sb ho1 ⊢
    have tup1 : ∀ p ∈ L1, ItT h1 p.2 p.1 := fun p hp => by
      have z : ItT s.heap p.2 p.1 := by
        rcases List.mem_cons.mp (pm.mem_iff.mp hp) with e | hp
        · rw [e]; exact hx
        · exact R.tup p hp
      exact z.at fun o e => (sb.2 _ (nea z)).trans e
    have hf : ¬ t2.tooFull = true := by
      unfold SetTable.tooFull
      rw [decide_eq_true_eq, hfl, hm2]
      omega
    first
      | refine wp_if_neg (by simp [hf]) ?_
      | (refine wpAny_bind ?_; refine wp_if_neg (by simp [hf]) ?_; refine wpAny_pure ?_)
    exact wpAny_pure (hQ true h1 L1 es1 (ep + 1) t2 sb ⟨⟨_, ho1, ⟨hex.1, hex.2.1, hex.2.2⟩, rfl⟩, hin, q3, tup1, hm2, by rw [hlen]; omega⟩ pm)
  have hfl1 : t1.fill = L.length + 1 := by rw [q9, List.length_map]
  have hm1 : t1.mask = 7 := by rw [q4]; exact hm7
  have fin1 := fin t1 q3 hm1 hfl1
  have fin2 := fin { t1 with plain := false } ⟨q3.ris, q3.dm, q3.sz, q3.mok, q3.bd, q3.reach⟩ hm1 hfl1
  by_cases hp : t1.plain = true
  · refine wp_if_pos hp (wpAny_bind (hashByT hx fun c => ?_))
    cases c
    · simp only [Bool.false_eq_true, if_false]
      exact fin2
    · simp only [if_true]
      exact fin1
  · refine wp_if_neg hp (wpAny_bind (wpAny_pure ?_))
    simp only [if_true]
    exact fin1
end
end Fw
set_option maxHeartbeats 4000000
namespace Fw
open PySem PySem.Spec PySem.Calls PyProof.Rows L2 PySem.W PyProof.V

section
variable {P : Program} {w : World} {A : Around} {E : Value → Shared → Prop} {s : Shared} {a : Addr}
def JT (P : Program) (w : World) (a : Addr) (L0 : Tps) (i : Nat) (h : Heap) : Prop := ∃ L es ep t, SetT P w h a L es ep t ∧ L.Perm (L0.take i)
theorem addOkT {h0 : Heap} {L0 : Tps} (hu : A.units + 8 < cLine) (hl : L0.length ≤ 3) (nd : (L0.map (·.2)).Nodup) (ht : ∀ p ∈ L0, ItT h0 p.2 p.1) : AddOk P w A a h0 (L0.map fun p => Value.ref p.1) (JT P w a L0) where
  keep := fun i h h' ⟨L, es, ep, t, R, pm⟩ k k0 => ⟨L, es, ep, t, ⟨let ⟨o, ho, r⟩ := R.ob; ⟨o, k o ho, r⟩, R.rows, R.tab, fun p hp => (ht p (List.mem_of_mem_take (pm.mem_iff.mp hp))).at fun o e => k0 _ o e, R.m7, R.few⟩, pm⟩
  add := fun i v s Q E hv kp ⟨L, es, ep, t, R, pm⟩ hQ => by
    rw [List.getElem?_map] at hv
    obtain ⟨p, hp, rfl⟩ := Option.map_eq_some_iff.mp hv
    have hi : i < L0.length := (List.getElem?_eq_some_iff.mp hp).1
    have hx : ItT s.heap p.2 p.1 := (ht p (List.mem_of_getElem? hp)).at fun o e => kp _ o e
    have hk : p.2 ∉ L.map (·.2) := fun z => by
      have z2 := (pm.map (·.2)).mem_iff.mp z
      rw [List.map_take] at z2
      obtain ⟨j, hj, ej⟩ := List.getElem_of_mem z2
      rw [List.length_take, List.length_map] at hj
      rw [List.getElem_take] at ej
      have hp' : (L0.map (·.2))[i]'(by rw [List.length_map]; exact hi) = p.2 := by
        rw [List.getElem_map]
        have q := List.getElem?_eq_getElem hi
        rw [hp] at q
        rw [← Option.some.inj q]
      have := (List.getElem_inj nd).mp (ej.trans hp'.symm)
      omega
    have hll : L.length = i := by rw [pm.length_eq, List.length_take]; omega
    unfold setAdd
    refine wpAny_holding (wpAny_bind ((nestedKind P w).pyHash hu hx.is ?_))
    refine addT (s := { s with toks := s.toks + _ }) R hx hu (by omega) hk fun b h' L' es' ep' t' sb R' pm' => hQ b h' _ (Nat.le_add_right _ _) sb ⟨L', es', ep', t', R', ?_⟩
    rw [List.take_add_one, hp]
    exact pm'.trans ((pm.cons _).trans (List.perm_append_singleton _ _).symm)
theorem setT_fresh {h : Heap} (ho : h.get? a = some (sObj0 w)) : SetT P w h a [] #[] 0 (.fresh 0 0 (!w.params.followText "set-order")) where
  ob := ⟨_, ho, ⟨rfl, rfl, rfl⟩, rfl⟩
  rows := rfl
  tab := ⟨List.Pairwise.nil, rfl, rfl, .inl rfl, fun x hx => (by cases hx), fun i h j hi => (by simp at hi)⟩
  tup := fun p hp => (by cases hp)
  m7 := rfl
  few := Nat.zero_le _
end
/-- a set of n things -/
def SetNO (a : Addr) (n : Nat) : HO := .ext fun h => ∃ o es ep t, h.get? a = some o ∧ o.ExactSet ∧ o.data = .set es ep t ∧ t.fits es.size = true ∧ es.size = n
theorem setN_obj {P : Program} {w : World} {H : Hp} {h : Heap} {a : Addr} {n : Nat} (R : ∃ o es ep t, h.get? a = some o ∧ o.ExactSet ∧ o.data = .set es ep t ∧ t.fits es.size = true ∧ es.size = n) : ObjOk P w H h a (SetNO a n) :=
  ⟨R, let ⟨o, _, _, _, ho, _⟩ := R; ⟨o, ho⟩, fun h1 h2 ⟨o, es, ep, t, ho, r⟩ k => ⟨o, es, ep, t, k o ho, r⟩⟩
section
variable {X : Cx}
def rSetTp (K : PySem.W.Frag) : List V → Hp → VK → Prop := fun vs H Q => ∃ (l : Addr) (xs : List (List Str)) (us : List V) (G : Hp), vs = [V.ref l] ∧ SqL K H l us ∧ Same G H ∧ DqAll G us (xs.map fun x => .tuple (x.map .str)) ∧ xs.length ≤ 3 ∧ xs.Nodup ∧ ∀ a, H a = none → Q (.ref a) (upd H a (SetNO a xs.length))
theorem tps_of {pins : List (Addr × Obj)} {σ : L2.St} {H G : Hp} {s : Shared} (I : Inv X pins σ H s) (gs : Same G H) : ∀ {xs : List (List Str)} {us : List V} {its : List Value}, DqAll G us (xs.map fun x => .tuple (x.map .str)) → Vals us its →
    ∃ L : Tps, its = L.map (fun p => Value.ref p.1) ∧ L.map (·.2) = xs ∧ ∀ p ∈ L, ItT s.heap p.2 p.1
  | [], _, _, h, r => by
    cases h
    cases r
    exact ⟨[], rfl, rfl, fun p hp => by cases hp⟩
  | x :: xs, _, _, h, r => by
    cases h with
    | cons h1 h2 =>
      cases r with
      | cons r1 r2 =>
        obtain ⟨L, e1, e2, e3⟩ := tps_of I gs h2 r2
        cases h1 with
        | @tup b ys _ t1 t2 =>
          obtain rfl := dpa_strs t2
          cases r1
          obtain ⟨vs, rv, ⟨o, ho, hc, n, hd⟩, _⟩ := I.tuple (SqT.of (gs _ _ t1))
          refine ⟨(b, x) :: L, by rw [List.map_cons, e1], by rw [List.map_cons, e2], fun p hp => ?_⟩
          rcases List.mem_cons.mp hp with rfl | hp
          · exact ⟨o, vs.toArray, n, ho, hc, hd, strs_of_vals rv⟩
          · exact e3 p hp
theorem cr_setTp (hc : X.calm = true) (hu : X.A.units + 64 < cLine) : CallR X (.type "set") (rSetTp X.K) := by
  intro pins s σ H vs us Q I r h
  obtain ⟨l, xs, ys, G, rfl, hl, gs, hd, h3, nd, q⟩ := h
  rw [Vals.ref1 r]
  obtain ⟨its, rv, pl, _⟩ := I.list hl
  obtain ⟨L, e1, e2, e3⟩ := tps_of I gs hd rv
  have hL : L.length = xs.length := by rw [← e2, List.length_map]
  refine call_setJ (P := X.prog) (w := X.w) (J := JT X.prog X.w s.heap.objs.size L) (I.ok.hd hc) pl.isList (by
    show AddOk _ _ _ _ _ its _
    rw [e1]
    exact addOkT (show X.A.units + 1 + 1 + 1 + 8 < cLine by omega) (by omega) (by rw [e2]; exact nd) e3) (fun h' ho _ => ⟨[], _, _, _, setT_fresh ho, by simp⟩) fun h' tk hJ hk => ?_
  obtain ⟨L', es, ep, t, R, pm⟩ := hJ
  have hn : es.size = xs.length := by
    have z : es.size = L'.length := SetT.size (s := { s with heap := h' }) R
    rw [z, pm.length_eq, List.length_take, e1, List.size_toArray, List.length_map, hL]
    omega
  obtain ⟨o, ho, hex, hd'⟩ := R.ob
  exact ⟨.ref s.heap.objs.size, _, I.laid (t' := tk) hk (Nat.le_refl _) (setN_obj ⟨o, es, ep, t, ho, hex, hd', SetT.fits (s := { s with heap := h' }) R, hn⟩), rfl, q _ (I.hok.fresh (Nat.le_refl _))⟩
def rLenN : List V → Hp → VK → Prop := fun vs H Q => ∃ a n, vs = [V.ref a] ∧ H a = some (SetNO a n) ∧ n < 4000 ∧ Q (.int (n : Int)) H
theorem cr_lenN : CallR X (.builtin "len") rLenN := by
  intro pins s σ H vs us Q I r h
  obtain ⟨a, n, rfl, ha, hn, q⟩ := h
  rw [Vals.ref1 r]
  obtain ⟨o, es, ep, t, ho, hex, hd, hf, e⟩ := (I.hok a _ ha).1
  exact call_len_set ho hex hd hf (by omega) ⟨.int (n : Int), H, I.tok _, ⟨_, by rw [e]⟩, q⟩
end
section
variable {X : Cx} {e : Expr} {δ : List Sl} {pos p p2 q2 : Pos} {T : Type}
/-- sorted(x), x a list or a tuple of data -/
theorem pf_sortedQ {ts : List T} {enc : T → D} {d : D} (B : Bt X.mg) (hu : X.A.units + 64 < cLine) (h : PD X e δ (.d d)) (hd : seqD d = some (ts.map enc)) (al : AllAlike (ts.map enc)) (sb : Sortable (ts.map enc)) (dep : ∀ t, t ∈ ts → (enc t).depth ≤ 50)
    (hg : Gl X "sorted" := by rfl) (he : starEach [e] X.env = [(false, eval e X.env)] := by rfl) : PF X (.Call (.Name "sorted" p) [e] [] pos) δ ((ts.mergeSort (dataLe false enc)).map enc) := by
  obtain ⟨t, ht, kt⟩ := pad_cons h pad_nil he
  refine .of (pe_callB (cr_sortC col_seq enc hu) hg B.sorted (by decide +kernel) ht (by decide) (by decide) he) fun σ H0 G H Q gs re k => kt σ H0 G H _ gs re fun vs H1 G1 g1 a1 => ?_
  obtain ⟨v, rfl, hv⟩ := arall1 a1
  obtain ⟨q, xs, rfl, h1, h2⟩ := seq_at hv hd
  refine ⟨.ref q, rfl, q, xs, rfl, sq_up g1.s h1, ts, G1, g1.s, h2, al, sb, dep, fun l ys hl hy => k l ys _ _ (g1.trans (.own g1.s hl)) (g1.h.free hl) (g1.s.free hl) upd_same hy⟩
theorem pf_sortedSq {xs : List Str} {d : D} (B : Bt X.mg) (hu : X.A.units + 64 < cLine) (h : PD X e δ (.d d)) (hd : seqD d = some (xs.map .str))
    (hg : Gl X "sorted" := by rfl) (he : starEach [e] X.env = [(false, eval e X.env)] := by rfl) : PF X (.Call (.Name "sorted" p) [e] [] pos) δ ((xs.mergeSort leS).map .str) := by
  have q := pf_sortedQ (p := p) (pos := pos) B hu h hd (strs_alike xs) (strs_sortable xs) (fun _ _ => by simp [PyData.depth]) hg he
  rwa [show xs.mergeSort (dataLe false PyData.str) = xs.mergeSort leS from sortS_eq xs] at q
/-- sorted(set(xs)), xs a list of texts -/
theorem pf_sortset {xs : List Str} (B : Bt X.mg) (hc : X.calm = true) (hu : X.A.units + 64 < cLine) (h : PD X e δ (.d (.list (xs.map .str)))) (hz : xs.length ≤ 4000)
    (hg : Gl X "sorted" := by rfl) (hg2 : Gl X "set" := by rfl) (he : starEach [e] X.env = [(false, eval e X.env)] := by rfl) (he2 : starEach [.Call (.Name "set" p2) [e] [] q2] X.env = [(false, eval (.Call (.Name "set" p2) [e] [] q2) X.env)] := by rfl) :
    PF X (.Call (.Name "sorted" p) [.Call (.Name "set" p2) [e] [] q2] [] pos) δ ((setS xs).map .str) := by
  obtain ⟨t, ht, kt⟩ := pad_cons h pad_nil he
  have hset := pe_callTy (pos := q2) (p := p2) (cr_setS hc) hg2 B.set PyProof.Rows.boot_set ht (by decide) (by decide) he
  refine .of (pe_callB (cr_sortC (col_setS hc) PyData.str hu) hg B.sorted (by decide +kernel) (pa_cons hset pa_nil he2) (by decide) (by decide) he2) fun σ H0 G H Q gs re k => kt σ H0 G H _ gs re fun vs H1 G1 g1 a1 => ?_
  obtain ⟨v, rfl, hv⟩ := arall1 a1
  cases hv with
  | @lst q ys _ h1 h2 =>
    obtain rfl := dpa_strs h2
    refine ⟨q, xs, rfl, SqL.of (g1.s _ _ h1), hz, fun a L ha nd m => ?_⟩
    have gr := Gr.own (o := SetSO X.w a L) g1.s ha
    refine ⟨.ref a, rfl, a, L, rfl, upd_same, fun L' pm => ⟨L', G1, gr.s, dpa_of_strs L', strs_alike L', strs_sortable L', fun _ _ => by simp [PyData.depth], fun l zs hl hz => ?_⟩⟩
    have e1 : L'.mergeSort (dataLe false PyData.str) = setS xs := by
      rw [show L'.mergeSort (dataLe false PyData.str) = L'.mergeSort leS from sortS_eq L']
      exact setS_of (pm.nodup_iff.mpr nd) fun y => by rw [pm.mem_iff, m]
    rw [e1] at hz
    have g2 := gr.trans (.own (o := .lst zs) gr.s hl)
    exact k l zs _ G1 (g1.trans g2) ((g1.trans gr).h.free hl) (gr.s.free hl) upd_same hz
/-- len(set(xs)), no text twice -/
theorem pd_lenset {xs : List Str} (B : Bt X.mg) (hc : X.calm = true) (h : PD X e δ (.d (.list (xs.map .str)))) (hz : xs.length ≤ 4000) (nd : xs.Nodup)
    (hg : Gl X "len" := by rfl) (hg2 : Gl X "set" := by rfl) (he : starEach [e] X.env = [(false, eval e X.env)] := by rfl) (he2 : starEach [.Call (.Name "set" p2) [e] [] q2] X.env = [(false, eval (.Call (.Name "set" p2) [e] [] q2) X.env)] := by rfl) :
    PD X (.Call (.Name "len" p) [.Call (.Name "set" p2) [e] [] q2] [] pos) δ (.d (.int (xs.length : Int))) := by
  obtain ⟨t, ht, kt⟩ := pad_cons h pad_nil he
  have hset := pe_callTy (pos := q2) (p := p2) (cr_setS hc) hg2 B.set PyProof.Rows.boot_set ht (by decide) (by decide) he
  refine .of (pe_callB cr_lenS hg B.len PySem.boot_len (pa_cons hset pa_nil he2) (by decide) (by decide) he2) fun σ H0 G H Q gs re k => kt σ H0 G H _ gs re fun vs H1 G1 g1 a1 => ?_
  obtain ⟨v, rfl, hv⟩ := arall1 a1
  cases hv with
  | @lst q ys _ h1 h2 =>
    obtain rfl := dpa_strs h2
    refine ⟨q, xs, rfl, SqL.of (g1.s _ _ h1), hz, fun a L ha nd' m => ?_⟩
    have e1 : L.length = xs.length := ((List.perm_ext_iff_of_nodup nd' nd).mpr m).length_eq
    exact ⟨a, L, rfl, upd_same, by rw [e1]; exact k _ _ G1 (g1.trans (.own g1.s ha)) (Dq.int _)⟩
/-- len(set(xs)), a few unlike tuples of texts -/
theorem pd_lensetT {xs : List (List Str)} (B : Bt X.mg) (hc : X.calm = true) (hu : X.A.units + 64 < cLine) (h : PD X e δ (.d (.list (xs.map fun x => .tuple (x.map .str))))) (hz : xs.length ≤ 3) (nd : xs.Nodup)
    (hg : Gl X "len" := by rfl) (hg2 : Gl X "set" := by rfl) (he : starEach [e] X.env = [(false, eval e X.env)] := by rfl) (he2 : starEach [.Call (.Name "set" p2) [e] [] q2] X.env = [(false, eval (.Call (.Name "set" p2) [e] [] q2) X.env)] := by rfl) :
    PD X (.Call (.Name "len" p) [.Call (.Name "set" p2) [e] [] q2] [] pos) δ (.d (.int (xs.length : Int))) := by
  obtain ⟨t, ht, kt⟩ := pad_cons h pad_nil he
  have hset := pe_callTy (pos := q2) (p := p2) (cr_setTp hc hu) hg2 B.set PyProof.Rows.boot_set ht (by decide) (by decide) he
  refine .of (pe_callB cr_lenN hg B.len PySem.boot_len (pa_cons hset pa_nil he2) (by decide) (by decide) he2) fun σ H0 G H Q gs re k => kt σ H0 G H _ gs re fun vs H1 G1 g1 a1 => ?_
  obtain ⟨v, rfl, hv⟩ := arall1 a1
  cases hv with
  | @lst q ys _ h1 h2 =>
    exact ⟨q, xs, ys, G1, rfl, SqL.of (g1.s _ _ h1), g1.s, h2, hz, nd, fun a ha => ⟨a, xs.length, rfl, upd_same, by omega, k _ _ G1 (g1.trans (.own g1.s ha)) (Dq.int _)⟩⟩
end
end Fw
set_option maxHeartbeats 4000000
namespace FwC
open PySem PySem.Spec PySem.Calls PyProof.Rows L2 PySem.W PyProof.V

abbrev TC : String := "itertools.combinations"
theorem mro_c : mroOf (.type TC) = pure [.type TC, .type "object"] := by rw [mroOf_type]; kernel_rfl
theorem look_new : typeLookup (.type TC) "__new__" = pure (some (.builtin "itertools.combinations.__new__")) := by rw [typeLookup_type, builtinLookup_eq_fast]; kernel_rfl
theorem slot_init : Slot TC "__init__" "object.__init__" :=
  .of (owner := "object") (n := "__init__") (by rw [typeLookup_type, builtinLookup_eq_fast]; kernel_rfl) (by decide +kernel) (by decide +kernel) (by decide +kernel)
    (by first | exact .inl (by decide +kernel) | exact .inr (by decide +kernel)) (by rw [isSubtype_type]; kernel_rfl)
theorem sub_c : isSubtype (.type TC) (.type TC) = pure true := by rw [isSubtype_type]; kernel_rfl
theorem called_c : TypeCalled TC "itertools.combinations.__new__" "object.__init__" :=
  ⟨by decide +kernel, by decide +kernel, ⟨_, _, mro_c⟩, madeBy_type mro_c look_new (by decide +kernel), by decide +kernel, sub_c, slot_init⟩
theorem typeCall_c (a b : Value) : checkTypeCall TC ⟨[a, b], []⟩ = pure () := by kernel_rfl
theorem newCall_c (a b : Value) : checkBuiltinCall "itertools.combinations.__new__" ⟨[.type TC, a, b], []⟩ = pure () := by kernel_rfl
theorem entry_new : entryFor table "itertools.combinations.__new__" = some Builtin.«itertools.combinations.__new__» := entryFor_of_tree (by kernel_rfl)
theorem slot_iter : Slot TC "__iter__" "itertools.combinations.__iter__" :=
  .of (owner := TC) (n := "__iter__") (by rw [typeLookup_type, builtinLookup_eq_fast]; kernel_rfl) (by decide +kernel) (by decide +kernel) (by decide +kernel)
    (by first | exact .inl (by decide +kernel) | exact .inr (by decide +kernel)) sub_c
theorem slot_next : Slot TC "__next__" "itertools.combinations.__next__" :=
  .of (owner := TC) (n := "__next__") (by rw [typeLookup_type, builtinLookup_eq_fast]; kernel_rfl) (by decide +kernel) (by decide +kernel) (by decide +kernel)
    (by first | exact .inl (by decide +kernel) | exact .inr (by decide +kernel)) sub_c
theorem entry_iter : entryFor table "itertools.combinations.__iter__" = some Builtin.«dict_keyiterator.__iter__» :=
  entryFor_alias (id' := "dict_keyiterator.__iter__") (by kernel_rfl) (by first | rfl | decide +kernel | (unfold String.splitOn; simp +decide [String.splitOnAux])) (by decide +kernel) (by kernel_rfl)
theorem entry_next : entryFor table "itertools.combinations.__next__" = some Builtin.«itertools.combinations.__next__» := entryFor_of_tree (by kernel_rfl)
theorem owner_c : Manifest.owners.lookup (String.ofList "itertools.combinations".toList.reverse.reverse) = some Manifest.sig_itertools_combinations := by kernel_rfl
theorem args_iter (a : Value) : argsOk "itertools.combinations.__iter__" ⟨[a], []⟩ := by unfold argsOk; kernel_rfl
theorem args_next (a : Value) : argsOk "itertools.combinations.__next__" ⟨[a], []⟩ := by unfold argsOk; kernel_rfl
theorem noDict_c : typeHasDict (.type TC) = false := by decide +kernel
theorem nolen_c : typeLookup (.type TC) "__len__" = pure none := by rw [typeLookup_type, builtinLookup_eq_fast]; kernel_rfl
theorem nohint_c : typeLookup (.type TC) "__length_hint__" = pure none := by rw [typeLookup_type, builtinLookup_eq_fast]; kernel_rfl
end FwC
set_option maxHeartbeats 4000000
namespace FwC
open PySem PySem.Spec PySem.Calls PyProof.Rows L2 PySem.W PyProof.V

def cObj (pool : Addr) (st : Int) (last : Value) (idx : List Nat) : Obj := { cls := .type TC, data := .fields ([.ref pool, rawInt st, last] ++ idx.map fun i : Nat => rawInt (i : Int)).toArray }
section
variable {prog : Program} {w : World} {A : Around} {E : Value → Shared → Prop} {s : Shared}
theorem new_c {l : Addr} {vs : List Value} {r : Int} {t : Tok} {Q : PySem.Fin → Shared → Prop} (hl : s.heap.IsList l vs.toArray) (h0 : 0 ≤ r) (h1 : r.toNat ≤ vs.length) (hz : vs.length ≤ 2)
    (h : ∀ h', (∀ b o, s.heap.get? b = some o → h'.get? b = some o) → h'.get? (s.heap.objs.size + 1) = some (seqObj "tuple" vs.toArray 0) → h'.get? (s.heap.objs.size + 2) = some (cObj (s.heap.objs.size + 1) 0 .none (List.range r.toNat)) →
      Q (.done (.ret (.ref (s.heap.objs.size + 2)))) { s with heap := h' }) :
    wpAny (model prog w) A (Builtin.«itertools.combinations.__new__» ⟨[.type TC, .ref l, .int r t], []⟩) Q E s := by
  have hsub := sub_c
  unfold Builtin.«itertools.combinations.__new__»
  refine wpAny_bind ?_
  wp_delta
  have hd := noDict_c
  have hr : ¬ ((decide (r < -(2 ^ 63 : Int)) || decide (r ≥ (2 ^ 63 : Int))) = true) := by
    have a : decide (r < -(2 ^ 63 : Int)) = false := decide_eq_false (by omega)
    have b : decide (r ≥ (2 ^ 63 : Int)) = false := decide_eq_false (by omega)
    rw [a, b]
    decide
  have hT : ("itertools." ++ "combinations" : String) = TC := by decide
  repeat (first
    | rw [hT]
    | wp_step
    | simp only [List.head?_cons, Option.some_or, List.getElem?_cons_succ, List.getElem?_cons_zero, List.length_cons, List.length_nil, List.forIn_nil])
  refine wp_if_neg hr (wpAny_pure ?_)
  refine wpAny_bind (collect_list hl ?_ (by rw [sizeLine_eq]; omega))
  refine wp_if_neg (by omega) ?_
  refine wp_if_neg (by unfold Builtin.Itertools.itTooMany; simp; omega) ?_
  refine wpAny_bind (wpAny_newTuple ?_ (by rw [sizeLine_eq]; omega))
  refine wpAny_pure ?_
  dsimp only
  refine wpAny_bind ?_
  unfold Builtin.Itertools.itNewRecord
  rw [hd]
  simp only [Bool.not_false, if_true]
  have hs1 : ((s.heap.push (seqObj "list" #[] 0)).update s.heap.objs.size (Obj.mapSeq (· ++ vs.toArray))).objs.size = s.heap.objs.size + 1 := by rw [Heap.size_update, size_push']
  have hs2 : (((s.heap.push (seqObj "list" #[] 0)).update s.heap.objs.size (Obj.mapSeq (· ++ vs.toArray))).push (seqObj "tuple" vs.toArray 0)).objs.size = s.heap.objs.size + 2 := by rw [size_push', hs1]
  refine wpAny_newObj_type ?_ (by
    show Array.size _ ≤ sizeLine + 2
    rw [List.size_toArray, List.length_append, List.length_map, List.length_range, sizeLine_eq]
    show 3 + _ ≤ _
    omega)
  have k1 : ∀ b o, s.heap.get? b = some o → ((s.heap.push (seqObj "list" #[] 0)).update s.heap.objs.size (Obj.mapSeq (· ++ vs.toArray))).get? b = some o := fun b o e =>
    (Heap.get?_update_ne _ _ _ _ (Nat.ne_of_lt (Heap.lt_size e))).trans (Heap.get?_push_of_some _ e)
  have q := h (((((s.heap.push (seqObj "list" #[] 0)).update s.heap.objs.size (Obj.mapSeq (· ++ vs.toArray))).push (seqObj "tuple" vs.toArray 0)).push (cObj (s.heap.objs.size + 1) 0 .none (List.range r.toNat)))) (fun b o e => Heap.get?_push_of_some _ (Heap.get?_push_of_some _ (k1 b o e)))
    (by rw [← hs1]; exact Heap.get?_push_of_some _ (Heap.get?_push_size _ rfl)) (by rw [← hs2]; exact Heap.get?_push_size _ rfl)
  refine wpAny_pure ?_
  have ei : (if r.toNat > vs.length then (2 : Int) else 0) = 0 := if_neg (by omega)
  rw [ei]
  unfold cObj at q
  rw [← hs2, ← hs1] at q
  exact q
end
end FwC
set_option maxHeartbeats 4000000
namespace FwC
open PySem PySem.Spec PySem.Calls PyProof.Rows L2 PySem.W PyProof.V

section
variable {prog : Program} {w : World} {A : Around} {E : Value → Shared → Prop} {s : Shared}
def numOfV : Value → Nat
  | .int n _ => n.toNat
  | _ => 0
theorem nums_back (p : Addr) (st : Int) (last : Value) (idx : List Nat) : (([.ref p, rawInt st, last] ++ idx.map fun i : Nat => rawInt (i : Int)).drop 3).map numOfV = idx := by
  show (idx.map fun i : Nat => rawInt (i : Int)).map numOfV = idx
  rw [List.map_map]
  have e : (numOfV ∘ fun i : Nat => rawInt (i : Int)) = id := by
    funext i
    show ((i : Int)).toNat = i
    exact Int.toNat_natCast i
  rw [e, List.map_id]
theorem cObj_data {pool : Addr} {st : Int} {last : Value} {idx : List Nat} : (cObj pool st last idx).data = .fields ([.ref pool, rawInt st, last] ++ idx.map fun i : Nat => rawInt (i : Int)).toArray := rfl
theorem cObj_st {pool : Addr} {st st' : Int} {last : Value} {idx : List Nat} : Obj.mapFields (·.setIfInBounds 1 (rawInt st')) (cObj pool st last idx) = cObj pool st' last idx := by
  unfold cObj Obj.mapFields
  simp
theorem cObj_last {pool : Addr} {st : Int} {last last' : Value} {idx : List Nat} : Obj.mapFields (·.setIfInBounds 2 last') (cObj pool st last idx) = cObj pool st last' idx := by
  unfold cObj Obj.mapFields
  simp
theorem cObj_idx {pool : Addr} {st : Int} {last : Value} {idx idx' : List Nat} : Obj.mapFields (fun fs => fs.extract 0 3 ++ (idx'.map fun n : Nat => rawInt (n : Int)).toArray) (cObj pool st last idx) = cObj pool st last idx' := by
  unfold cObj Obj.mapFields
  simp
theorem upd_c {h : Heap} {it : Addr} {o : Obj} (f : Obj → Obj) (e : h.get? it = some o) (hf : (f o).isFreed = false) : (h.update it f).get? it = some (f o) := Heap.get?_update_self f e hf
theorem free_c {pool : Addr} {st : Int} {last : Value} {idx : List Nat} : (cObj pool st last idx).isFreed = false := rfl
def res (vs : List Value) (idx : List Nat) : Array Value := (idx.map fun i => vs.toArray.getD i .none).toArray
theorem next0 {it pool : Addr} {vs : List Value} {idx : List Nat} {Q : PySem.Fin → Shared → Prop} (hi : s.heap.get? it = some (cObj pool 0 .none idx)) {po : Obj} {pn : Nat} (hp : s.heap.get? pool = some po) (hpd : po.data = .seq vs.toArray pn) (hz : idx.length ≤ 2) (hne : pool ≠ it)
    (h : ∀ h', (∀ b o, b ≠ it → s.heap.get? b = some o → h'.get? b = some o) → h'.get? s.heap.objs.size = some (seqObj "tuple" (res vs idx) 0) → h'.get? it = some (cObj pool 1 (.ref s.heap.objs.size) idx) → s.heap.objs.size < h'.objs.size →
      Q (.done (.ret (.ref s.heap.objs.size))) { s with heap := h' }) : wpAny (model prog w) A (Builtin.«itertools.combinations.__next__» ⟨[.ref it], []⟩) Q E s := by
  have hlt : it < s.heap.objs.size := Heap.lt_size hi
  unfold Builtin.«itertools.combinations.__next__»
  wp_delta
  refine wpAny_bind (m := slotArgs "__next__" 0 ⟨[.ref it], []⟩) (wpAny_pure ?_)
  dsimp only
  refine wpAny_bind (wpAny_field hi rfl (x := .ref pool) rfl ?_)
  refine wpAny_bind ?_
  unfold Builtin.Itertools.itNumbersFrom
  refine wpAny_bind (wpAny_load hi ?_)
  refine wpAny_pure ?_
  refine wpAny_bind ?_
  unfold Builtin.Itertools.itIntField
  refine wpAny_bind (wpAny_field hi rfl (x := .int 0 0) rfl ?_)
  refine wpAny_pure ?_
  dsimp only
  refine wpAny_bind (wpAny_setField hi rfl (by simp) ?_)
  have hi1 := upd_c (Obj.mapFields (·.setIfInBounds 1 (rawInt 1))) hi (by rw [cObj_st]; rfl)
  rw [cObj_st] at hi1
  have hp1 : (s.heap.update it (Obj.mapFields (·.setIfInBounds 1 (rawInt 1)))).get? pool = some po := (Heap.get?_update_other _ _ (Ne.symm hne)).trans hp
  refine wpAny_bind ?_
  wp_delta
  refine wpAny_bind ?_
  unfold Builtin.Itertools.itPoolItems
  refine wpAny_bind (wpAny_seqItems hp1 hpd ?_)
  refine wpAny_pure ?_
  have en := nums_back pool 0 .none idx
  have ez : ((([Value.ref pool, rawInt 0, Value.none] ++ idx.map fun i : Nat => rawInt (i : Int)).drop 3).map numOfV).map (fun i => vs.toArray.getD i Value.none) = idx.map fun i => vs.toArray.getD i .none := by rw [en]
  refine wpAny_newTuple ?_ (by
    refine Nat.le_trans (Nat.le_of_eq (congrArg List.length ez)) ?_
    rw [List.length_map, sizeLine_eq]
    omega)
  have hsz : (s.heap.update it (Obj.mapFields (·.setIfInBounds 1 (rawInt 1)))).objs.size = s.heap.objs.size := Heap.size_update ..
  have hi2 : ∀ xs : List Value, ((s.heap.update it (Obj.mapFields (·.setIfInBounds 1 (rawInt 1)))).push (seqObj "tuple" xs.toArray 0)).get? it = some (cObj pool 1 .none idx) := fun xs => Heap.get?_push_of_some _ hi1
  refine wpAny_bind (wpAny_field (hi2 _) rfl (x := .none) rfl ?_)
  refine wpAny_bind (wpAny_setField (hi2 _) rfl (by simp) ?_)
  refine wpAny_bind (wpAny_letGo ?_)
  refine wpAny_pure ?_
  rw [hsz]
  refine h _ (fun b o hb e => ?_) ?_ ?_ ?_
  · rw [Heap.get?_update_other _ _ (Ne.symm hb)]
    exact Heap.get?_push_of_some _ ((Heap.get?_update_other _ _ (Ne.symm hb)).trans e)
  · rw [Heap.get?_update_other _ _ (Nat.ne_of_lt hlt)]
    refine Eq.trans (congrArg _ hsz.symm) ((Heap.get?_push_size _ rfl).trans ?_)
    exact congrArg (fun z : List Value => some (seqObj "tuple" z.toArray 0)) ez
  · exact Eq.trans (upd_c _ (hi2 _) (by rw [cObj_last]; rfl)) (congrArg some cObj_last)
  · rw [Heap.size_update, size_push', hsz]
    exact Nat.lt_succ_self _
/-- the one step of two names, one at a time -/
theorem next1 {it pool : Addr} {v0 v1 : Value} {last : Value} {Q : PySem.Fin → Shared → Prop} (hi : s.heap.get? it = some (cObj pool 1 last [0])) {po : Obj} {pn : Nat} (hp : s.heap.get? pool = some po) (hpd : po.data = .seq ([v0, v1] : List Value).toArray pn) (hne : pool ≠ it)
    (h : ∀ h', (∀ b o, b ≠ it → s.heap.get? b = some o → h'.get? b = some o) → h'.get? s.heap.objs.size = some (seqObj "tuple" (res [v0, v1] [1]) 0) → h'.get? it = some (cObj pool 1 (.ref s.heap.objs.size) [1]) → s.heap.objs.size < h'.objs.size →
      Q (.done (.ret (.ref s.heap.objs.size))) { s with heap := h' }) : wpAny (model prog w) A (Builtin.«itertools.combinations.__next__» ⟨[.ref it], []⟩) Q E s := by
  have hlt : it < s.heap.objs.size := Heap.lt_size hi
  unfold Builtin.«itertools.combinations.__next__»
  wp_delta
  refine wpAny_bind (m := slotArgs "__next__" 0 ⟨[.ref it], []⟩) (wpAny_pure ?_)
  dsimp only
  refine wpAny_bind (wpAny_field hi rfl (x := .ref pool) rfl ?_)
  refine wpAny_bind ?_
  unfold Builtin.Itertools.itNumbersFrom
  refine wpAny_bind (wpAny_load hi ?_)
  refine wpAny_pure ?_
  refine wpAny_bind ?_
  unfold Builtin.Itertools.itIntField
  refine wpAny_bind (wpAny_field hi rfl (x := .int 1 0) rfl ?_)
  refine wpAny_pure ?_
  dsimp only
  refine wpAny_bind ?_
  unfold Builtin.Itertools.itPoolItems
  refine wpAny_bind (wpAny_seqItems hp hpd ?_)
  refine wpAny_pure ?_
  split
  · rename_i next heq
    obtain rfl : [1] = next := by
      have e : some [1] = some next := heq
      exact Option.some.inj e
    refine wpAny_bind ?_
    unfold Builtin.Itertools.itSetNumbersFrom
    refine wpAny_updateFields hi rfl ?_ (by
      show Array.size _ ≤ sizeLine + 3
      rw [sizeLine_eq]
      simp)
    have hi1 := upd_c (Obj.mapFields fun fs => fs.extract 0 3 ++ (List.map (fun n : Nat => rawInt (n : Int)) [1]).toArray) hi (by rw [cObj_idx]; rfl)
    rw [cObj_idx] at hi1
    have hp1 : (s.heap.update it (Obj.mapFields fun fs => fs.extract 0 3 ++ (List.map (fun n : Nat => rawInt (n : Int)) [1]).toArray)).get? pool = some po := (Heap.get?_update_other _ _ (Ne.symm hne)).trans hp
    refine wpAny_bind ?_
    wp_delta
    refine wpAny_bind ?_
    unfold Builtin.Itertools.itPoolItems
    refine wpAny_bind (wpAny_seqItems hp1 hpd ?_)
    refine wpAny_pure ?_
    refine wpAny_newTuple ?_ (by show 1 ≤ sizeLine; decide)
    have hsz : (s.heap.update it (Obj.mapFields fun fs => fs.extract 0 3 ++ (List.map (fun n : Nat => rawInt (n : Int)) [1]).toArray)).objs.size = s.heap.objs.size := Heap.size_update ..
    have hi2 : ∀ xs : List Value, ((s.heap.update it (Obj.mapFields fun fs => fs.extract 0 3 ++ (List.map (fun n : Nat => rawInt (n : Int)) [1]).toArray)).push (seqObj "tuple" xs.toArray 0)).get? it = some (cObj pool 1 last [1]) := fun xs => Heap.get?_push_of_some _ hi1
    refine wpAny_bind (wpAny_field (hi2 _) rfl (x := last) rfl ?_)
    refine wpAny_bind (wpAny_setField (hi2 _) rfl (by simp) ?_)
    refine wpAny_bind (wpAny_letGo ?_)
    refine wpAny_pure ?_
    rw [hsz]
    refine h _ (fun b o hb e => ?_) ?_ ?_ ?_
    · rw [Heap.get?_update_other _ _ (Ne.symm hb)]
      exact Heap.get?_push_of_some _ ((Heap.get?_update_other _ _ (Ne.symm hb)).trans e)
    · rw [Heap.get?_update_other _ _ (Nat.ne_of_lt hlt)]
      exact Eq.trans (congrArg _ hsz.symm) (Heap.get?_push_size _ rfl)
    · exact Eq.trans (upd_c _ (hi2 _) (by rw [cObj_last]; rfl)) (congrArg some cObj_last)
    · rw [Heap.size_update, size_push', hsz]
      exact Nat.lt_succ_self _
  · rename_i heq
    have e : some [1] = (none : Option (List Nat)) := heq
    cases e
/-- where there is no further one -/
def Last (vs : List Value) (idx : List Nat) : Prop := (vs.length = 0 ∧ idx = []) ∨ (vs.length = 1 ∧ idx = []) ∨ (vs.length = 1 ∧ idx = [0]) ∨ (vs.length = 2 ∧ idx = []) ∨ (vs.length = 2 ∧ idx = [1]) ∨ (vs.length = 2 ∧ idx = [0, 1])
theorem nextE {it pool : Addr} {vs : List Value} {idx : List Nat} {last : Value} {Q : Option Value → Shared → Prop} (hh : A.handled = none) (hi : s.heap.get? it = some (cObj pool 1 last idx)) {po : Obj} {pn : Nat} (hp : s.heap.get? pool = some po) (hpd : po.data = .seq vs.toArray pn) (hl : Last vs idx)
    (hQ : ∀ h', Heap.ExtBut it s.heap h' → (∃ o, h'.get? it = some o) → Q none { s with heap := h' }) : wpAny (model prog w) A (pyNext (.ref it)) Q E s := by
  have hT : s.TypeIs (.ref it) TC := ⟨_, hi, rfl⟩
  unfold pyNext
  refine wpAny_bind (wpAny_attempt (wpAny_callSpecial?_slot (name := Str.ofString "__next__") hT slot_next (wpAny_call_entry slot_next hT entry_next ?_ (args_next _))))
  unfold Builtin.«itertools.combinations.__next__»
  wp_delta
  refine wpAny_bind (m := slotArgs "__next__" 0 ⟨[.ref it], []⟩) (wpAny_pure ?_)
  dsimp only
  refine wpAny_bind (wpAny_field hi rfl (x := .ref pool) rfl ?_)
  refine wpAny_bind ?_
  unfold Builtin.Itertools.itNumbersFrom
  refine wpAny_bind (wpAny_load hi ?_)
  refine wpAny_pure ?_
  refine wpAny_bind ?_
  unfold Builtin.Itertools.itIntField
  refine wpAny_bind (wpAny_field hi rfl (x := .int 1 0) rfl ?_)
  refine wpAny_pure ?_
  dsimp only
  refine wpAny_bind ?_
  unfold Builtin.Itertools.itPoolItems
  refine wpAny_bind (wpAny_seqItems hp hpd ?_)
  refine wpAny_pure ?_
  split
  · rename_i next heq
    exfalso
    rcases hl with ⟨h1, rfl⟩ | ⟨h1, rfl⟩ | ⟨h1, rfl⟩ | ⟨h1, rfl⟩ | ⟨h1, rfl⟩ | ⟨h1, rfl⟩
    · match vs, h1 with
      | [], _ => exact nomatch (show (none : Option (List Nat)) = some next from heq)
    · match vs, h1 with
      | [_], _ => exact nomatch (show (none : Option (List Nat)) = some next from heq)
    · match vs, h1 with
      | [_], _ => exact nomatch (show (none : Option (List Nat)) = some next from heq)
    · match vs, h1 with
      | [_, _], _ => exact nomatch (show (none : Option (List Nat)) = some next from heq)
    · match vs, h1 with
      | [_, _], _ => exact nomatch (show (none : Option (List Nat)) = some next from heq)
    · match vs, h1 with
      | [_, _], _ => exact nomatch (show (none : Option (List Nat)) = some next from heq)
  · refine wpAny_bind (wpAny_setField hi rfl (by simp) ?_)
    show wpAny _ _ (newExc (.type "StopIteration") [] >>= _) _ _ _
    refine wpAny_bind ?_
    simp only [newExc, newTuple]
    refine wpAny_bind (wpAny_newObj_type ?_ (by size_fits))
    refine wpAny_bind (m := firstArgMember _ _) (wpAny_of_eq (a := Value.none) (by first | rfl | (simp only [firstArgMember]; rfl)) ?_)
    refine wpAny_newObj_type ?_ (by size_fits)
    simp only [raiseNew]
    refine wpAny_bind (wpAny_handled ?_)
    rw [show A.in1.handled = none from hh]
    refine wpAny_bind (wpAny_pure (wpAny_throw ?_))
    refine wpAny_bind (wpAny_isInstance (T := "StopIteration") (b := true) ⟨_, Heap.get?_push_size _ rfl, rfl⟩ isSubtype_stop ?_)
    exact wpAny_pure (hQ _ (((Heap.SameBut.update ..).extBut.push _).push _) ⟨_, Heap.get?_push_of_some _ (Heap.get?_push_of_some _ (upd_c _ hi (by rw [cObj_st]; rfl)))⟩)
end
end FwC
set_option maxHeartbeats 4000000
namespace FwC
open PySem PySem.Spec PySem.Calls PyProof.Rows L2 PySem.W PyProof.V

section
variable {prog : Program} {w : World} {A : Around} {E : Value → Shared → Prop} {s : Shared}
/-- an iterator that makes what it gives: acc has come -/
structure Gives (prog : Program) (w : World) (A : Around) (S I : Addr) (n : Nat) (J : Nat → List Value → Heap → Prop) : Prop where
  keep : ∀ i acc h h', J i acc h → (∀ b o, b ≠ S → h.get? b = some o → h'.get? b = some o) → h.objs.size ≤ h'.objs.size → J i acc h'
  next : ∀ (i : Nat) (acc : List Value) (s : Shared) (Q : Option Value → Shared → Prop) (E : Value → Shared → Prop), i < n → S < s.heap.objs.size → J i acc s.heap →
    (∀ v h', (∀ b o, b ≠ I → s.heap.get? b = some o → h'.get? b = some o) → J (i + 1) (acc ++ [v]) h' → Q (some v) { s with heap := h' }) → wpAny (model prog w) A (pyNext (.ref I)) Q E s
  done : ∀ (acc : List Value) (s : Shared) (Q : Option Value → Shared → Prop) (E : Value → Shared → Prop), J n acc s.heap →
    (∀ h', (∀ b o, b ≠ I → s.heap.get? b = some o → h'.get? b = some o) → (∃ o, h'.get? I = some o) → Q none { s with heap := h' }) → wpAny (model prog w) A (pyNext (.ref I)) Q E s
theorem ext_loop {S I : Addr} {n : Nat} {J : Nat → List Value → Heap → Prop} {R : Result → Shared → Prop} (g : Gives prog w A.in1 S I n J) (hne : S ≠ I) (hn : n ≤ sizeLine) (res : Value) {h₁ : Heap}
    (hR : ∀ h' tk acc c, (∀ b o, b ≠ S → b ≠ I → h₁.get? b = some o → h'.get? b = some o) → h'.get? S = some { cls := .type "list", data := .seq acc c } → (∃ h2, J n acc.toList h2 ∧ ∀ b o, b ≠ I → h2.get? b = some o → h'.get? b = some o) → (∃ o, h'.get? I = some o) → R (.ok (.ret res)) { s with heap := h', toks := tk }) :
    ∀ (k i : Nat) (h : Heap) (tk c : Nat) (acc : Array Value), n - i = k → i ≤ n → acc.size = i → J i acc.toList h → (∀ b o, b ≠ S → b ≠ I → h₁.get? b = some o → h.get? b = some o) → h.get? S = some { cls := .type "list", data := .seq acc c } →
      codeAny (model prog w) A (.builtin "list.extend.loop" ⟨[.ref S, .ref I, res], []⟩) R { s with heap := h, toks := tk } := by
  intro k
  induction k with
  | zero =>
    intro i h tk c acc hk hi hsz hJ hkp hS
    obtain rfl : i = n := by omega
    refine codeAny_builtin PySem.F.entry_extend_loop ?_
    rw [Around.under_plainId PySem.F.plain_extend_loop _]
    show wpAny _ A.in1 (pyNext (.ref I) >>= _) _ _ _
    exact wpAny_bind (g.done _ { s with heap := h, toks := tk } _ _ hJ fun h' he hIo => wpAny_pure (hR h' tk acc c (fun b o h1 h2 e => he b o h2 (hkp b o h1 h2 e)) (he S _ hne hS) ⟨h, hJ, he⟩ hIo))
  | succ k ih =>
    intro i h tk c acc hk hi hsz hJ hkp hS
    have hlt : i < n := by omega
    refine codeAny_builtin PySem.F.entry_extend_loop ?_
    rw [Around.under_plainId PySem.F.plain_extend_loop _]
    show wpAny _ A.in1 (pyNext (.ref I) >>= _) _ _ _
    refine wpAny_bind (g.next i _ { s with heap := h, toks := tk } _ _ hlt (Heap.lt_size hS) hJ fun v h' he hJ' => ?_)
    have hS' := he S _ hne hS
    show wpAny _ A.in1 (updateSeq S (·.push v) >>= _) _ _ _
    refine wpAny_bind ?_
    have up : ∀ b o, b ≠ S → h'.get? b = some o → (h'.update S (Obj.mapSeq (·.push v))).get? b = some o := fun b o hb e => (Heap.get?_update_other _ _ (Ne.symm hb)).trans e
    refine wpAny_updateSeq hS' rfl (wpAny_pure ⟨plainId_quiet PySem.F.plain_extend_loop _, ih (i + 1) _ tk _ (acc.push v) (by omega) hlt (by rw [Array.size_push, hsz]) (by rw [Array.toList_push]; exact g.keep _ _ _ _ hJ' up (Nat.le_of_eq (Heap.size_update ..).symm)) (fun b o h1 h2 e => up b o h1 (he b o h2 (hkp b o h1 h2 e))) (Heap.get?_update_self _ hS' rfl)⟩)
      (by rw [hsz]; omega) (by show (acc.push v).size ≤ sizeLine + 1; rw [Array.size_push, hsz]; omega)

/-- the picks, in their order: of n things, r at a time (n at most 2) -/
def picks : Nat → Nat → List (List Nat)
  | _, 0 => [[]]
  | 1, 1 => [[0]]
  | 2, 1 => [[0], [1]]
  | 2, 2 => [[0, 1]]
  | _, _ => []
def JC (lo : Nat) (S I pool : Addr) (vs : List Value) (r : Nat) (i : Nat) (acc : List Value) (h : Heap) : Prop :=
  lo ≤ h.objs.size ∧ acc.Nodup ∧ (∃ po pn, h.get? pool = some po ∧ po.data = .seq vs.toArray pn) ∧ EachIs (fun v idx => ∃ a, a ≠ I ∧ a ≠ S ∧ lo ≤ a ∧ v = Value.ref a ∧ h.get? a = some (seqObj "tuple" (res vs idx) 0)) acc ((picks vs.length r).take i) ∧
    ((i = 0 ∧ h.get? I = some (cObj pool 0 .none (List.range r))) ∨ ∃ j last, i = j + 1 ∧ h.get? I = some (cObj pool 1 last ((picks vs.length r).getD j [])))
theorem each_snoc3 {α β : Type} {R : α → β → Prop} {a : α} {b : β} (h : R a b) : ∀ {as : List α} {bs : List β}, EachIs R as bs → EachIs R (as ++ [a]) (bs ++ [b])
  | _, _, .nil => .cons h .nil
  | _, _, .cons g t => .cons g (each_snoc3 h t)
theorem pyNext_c {I : Addr} {pool : Addr} {st : Int} {last : Value} {idx : List Nat} {Q : Option Value → Shared → Prop} (hi : s.heap.get? I = some (cObj pool st last idx))
    (h : wpAny (model prog w) A.in1 (Builtin.«itertools.combinations.__next__» ⟨[.ref I], []⟩) (fun f s' => ∃ v, f = .done (.ret v) ∧ Q (some v) s') (fun _ _ => False) s) : wpAny (model prog w) A (pyNext (.ref I)) Q E s := by
  have hT : s.TypeIs (.ref I) TC := ⟨_, hi, rfl⟩
  unfold pyNext
  refine wpAny_bind (wpAny_attempt (wpAny_callSpecial?_slot (name := Str.ofString "__next__") hT slot_next (wpAny_call_entry slot_next hT entry_next (wpAny_mono h (fun f s' ⟨v, e, q⟩ => ?_) fun _ _ z => z.elim) (args_next _))))
  subst e
  exact ⟨v, rfl, wpAny_pure q⟩
theorem pick_cases {n r : Nat} (hn : n ≤ 2) (hr : r ≤ n) : (n = 0 ∧ r = 0) ∨ (n = 1 ∧ r = 0) ∨ (n = 1 ∧ r = 1) ∨ (n = 2 ∧ r = 0) ∨ (n = 2 ∧ r = 1) ∨ (n = 2 ∧ r = 2) := by omega
theorem gives_c {lo : Nat} {S I pool : Addr} {vs : List Value} {r : Nat} (hh : A.handled = none) (hz : vs.length ≤ 2) (hr : r ≤ vs.length) (hSI : S ≠ I) (hSp : S ≠ pool) (hpI : pool ≠ I) :
    Gives prog w A S I (picks vs.length r).length (JC lo S I pool vs r) where
  keep := fun i acc h h' ⟨hlo, hnd, ⟨po, pn, h1, hpd⟩, h2, h3⟩ k hsz => ⟨Nat.le_trans hlo hsz, hnd, ⟨po, pn, k _ _ hSp.symm h1, hpd⟩, h2.mono fun v idx ⟨a, a1, a2, a3, a4, a5⟩ => ⟨a, a1, a2, a3, a4, k _ _ a2 a5⟩, h3.imp (fun ⟨e, z⟩ => ⟨e, k _ _ hSI.symm z⟩) fun ⟨j, l, e, z⟩ => ⟨j, l, e, k _ _ hSI.symm z⟩⟩
  next := fun i acc s Q E hi hS ⟨hlo, hnd, ⟨po, pn, h1, hpd⟩, h2, h3⟩ hQ => by
    have fin : ∀ (idx : List Nat) (h' : Heap), (picks vs.length r)[i]? = some idx → (∀ b o, b ≠ I → s.heap.get? b = some o → h'.get? b = some o) → h'.get? s.heap.objs.size = some (seqObj "tuple" (res vs idx) 0) → h'.get? I = some (cObj pool 1 (.ref s.heap.objs.size) idx) → s.heap.objs.size < h'.objs.size → I < s.heap.objs.size →
        Q (some (.ref s.heap.objs.size)) { s with heap := h' } := fun idx h' hp hk ht hI hgr hlt => by
      refine hQ _ h' hk ⟨Nat.le_trans hlo (Nat.le_of_lt hgr), ?_, ⟨po, pn, hk _ _ hpI h1, hpd⟩, ?_, .inr ⟨i, .ref s.heap.objs.size, rfl, ?_⟩⟩
      · rw [List.nodup_append]
        refine ⟨hnd, by simp, fun v hv u hu e => ?_⟩
        obtain rfl : u = Value.ref s.heap.objs.size := by simpa using hu
        obtain ⟨idx', _, a, _, _, _, a3, a4⟩ := h2.left v hv
        rw [e] at a3
        injection a3 with a3
        exact absurd (Heap.lt_size a4) (by rw [← a3]; exact Nat.lt_irrefl _)
      · rw [List.take_add_one, hp]
        exact each_snoc3 ⟨_, Nat.ne_of_gt hlt, Nat.ne_of_gt hS, hlo, rfl, ht⟩ (h2.mono fun v idx' ⟨a, a1, a2, a3, a4, a5⟩ => ⟨a, a1, a2, a3, a4, hk _ _ a1 a5⟩)
      · rw [List.getD_eq_getElem?_getD, hp]
        exact hI
    rcases h3 with ⟨rfl, hI⟩ | ⟨j, last, rfl, hI⟩
    · have hlt := Heap.lt_size hI
      refine pyNext_c hI (next0 hI h1 hpd (by rw [List.length_range]; omega) hpI fun h' k1 k2 k3 k4 => ⟨_, rfl, fin (List.range r) h' ?_ k1 k2 k3 k4 hlt⟩)
      rcases pick_cases hz hr with ⟨e1, e2⟩ | ⟨e1, e2⟩ | ⟨e1, e2⟩ | ⟨e1, e2⟩ | ⟨e1, e2⟩ | ⟨e1, e2⟩ <;> rw [e1, e2] <;> rfl
    · have hlt := Heap.lt_size hI
      have hcase : vs.length = 2 ∧ r = 1 ∧ j = 0 := by
        rcases pick_cases hz hr with ⟨e1, e2⟩ | ⟨e1, e2⟩ | ⟨e1, e2⟩ | ⟨e1, e2⟩ | ⟨e1, e2⟩ | ⟨e1, e2⟩ <;> rw [e1, e2] at hi <;> simp [picks] at hi
        exact ⟨e1, e2, by omega⟩
      obtain ⟨e1, rfl, rfl⟩ := hcase
      match vs, e1 with
      | [v0, v1], _ => exact pyNext_c hI (next1 (last := last) hI h1 hpd hpI fun h' k1 k2 k3 k4 => ⟨_, rfl, fin [1] h' rfl k1 k2 k3 k4 hlt⟩)
  done := fun acc s Q E ⟨hlo, hnd, ⟨po, pn, h1, hpd⟩, h2, h3⟩ hQ => by
    rcases h3 with ⟨e, hI⟩ | ⟨j, last, e, hI⟩
    · exfalso
      rcases pick_cases hz hr with ⟨e1, e2⟩ | ⟨e1, e2⟩ | ⟨e1, e2⟩ | ⟨e1, e2⟩ | ⟨e1, e2⟩ | ⟨e1, e2⟩ <;> rw [e1, e2] at e <;> simp [picks] at e
    · refine nextE hh hI h1 hpd ?_ fun h' he ho => hQ h' (fun b o hb e => he b o hb e) ho
      rcases pick_cases hz hr with ⟨e1, e2⟩ | ⟨e1, e2⟩ | ⟨e1, e2⟩ | ⟨e1, e2⟩ | ⟨e1, e2⟩ | ⟨e1, e2⟩ <;> rw [e1, e2] at e ⊢ <;> simp [picks] at e <;> subst e <;> unfold Last <;> rw [e1] <;> simp [picks]
/-- the combinations, collected -/
theorem collect_c {I pool : Addr} {vs : List Value} {r : Nat} {Q : List Value → Shared → Prop} (hh : A.handled = none) (hz : vs.length ≤ 2) (hr : r ≤ vs.length) (hpI : pool ≠ I) {po : Obj} {pn : Nat} (hp : s.heap.get? pool = some po) (hpd : po.data = .seq vs.toArray pn) (hI : s.heap.get? I = some (cObj pool 0 .none (List.range r)))
    (h : ∀ h' tk acc, (∀ b o, b ≠ I → s.heap.get? b = some o → h'.get? b = some o) → (∃ o, h'.get? I = some o) → acc.Nodup → EachIs (fun v idx => ∃ a, a ≠ I ∧ s.heap.objs.size ≤ a ∧ v = Value.ref a ∧ h'.get? a = some (seqObj "tuple" (res vs idx) 0)) acc (picks vs.length r) → Q acc { s with heap := h', toks := tk }) : wpAny (model prog w) A (collect (.ref I)) Q E s := by
  have hltI := Heap.lt_size hI
  have hltp := Heap.lt_size hp
  have hT : s.TypeIs (.ref I) TC := ⟨_, hI, rfl⟩
  have hlen : (picks vs.length r).length ≤ sizeLine := by
    rcases pick_cases hz hr with ⟨e1, e2⟩ | ⟨e1, e2⟩ | ⟨e1, e2⟩ | ⟨e1, e2⟩ | ⟨e1, e2⟩ | ⟨e1, e2⟩ <;> rw [e1, e2] <;> decide
  unfold collect
  refine wpAny_bind (wpAny_runValue (codeAny_builtin entry_proto_collect' ?_))
  rw [Around.under_plainId PySem.F.plain_proto_collect _]
  show wpAny _ A.in1 (newList [] >>= fun l => again (.builtin "list.__iadd__" ⟨[l, .ref I], []⟩)) _ _ s
  refine wpAny_bind (wpAny_newObj_type ?_)
  refine wpAny_pure ⟨plainId_quiet PySem.F.plain_list_iadd _, codeAny_builtin entry_list_iadd' ?_⟩
  rw [Around.under_plainId PySem.F.plain_list_iadd _]
  have hS₁ : (s.heap.push { cls := .type "list", data := .seq ([] : List Value).toArray }).get? s.heap.objs.size = some { cls := .type "list", data := .seq #[] } := Heap.get?_push_size _ rfl
  have hT1 : Shared.TypeIs { s with heap := s.heap.push { cls := .type "list", data := .seq ([] : List Value).toArray } } (.ref I) TC := ⟨_, Heap.get?_push_of_some _ hI, rfl⟩
  show wpAny _ A.in1 (Builtin.List.listExtendWith (.ref s.heap.objs.size) (.ref I) (.ref s.heap.objs.size)) _ _ _
  unfold Builtin.List.listExtendWith
  refine wpAny_bind (wpAny_typeOf hT1 ?_)
  have hSI : s.heap.objs.size ≠ I := Nat.ne_of_gt hltI
  have h1 : Builtin.List.listSameRef (.ref s.heap.objs.size) (.ref I) = false := by simp [Builtin.List.listSameRef, hSI]
  have h2 : (Value.type TC == Value.type "list") = false := by decide
  have h3 : (Value.type TC == Value.type "tuple") = false := by decide
  simp only [h1, h2, h3, Bool.or_false, Bool.false_eq_true, if_false]
  refine wpAny_bind (wpAny_pyIter_slot hT1 slot_iter (wpAny_call_entry slot_iter hT1 entry_iter ?_ (args_iter _)))
  show wpAny _ _ (ret (.ref I)) _ _ _
  refine wpAny_pure ⟨_, rfl, TC, _, hT1, slot_next.lookup, ?_⟩
  refine wpAny_bind (wpAny_holding ?_)
  unfold Builtin.List.listLengthHint
  refine wpAny_bind (wpAny_specialOf hT1 nolen_c ?_)
  show wpAny _ A.in1 (specialOf (Value.ref I) (Str.ofString "__length_hint__") >>= _) _ _ _
  refine wpAny_bind (wpAny_specialOf hT1 nohint_c ?_)
  refine wpAny_pure ?_
  show wpAny _ A.in1 (rule "list.extend.makes-room" >>= fun _ => Builtin.List.listTouch (.ref s.heap.objs.size) >>= fun _ =>
    again (.builtin "list.extend.loop" ⟨[.ref s.heap.objs.size, .ref I, .ref s.heap.objs.size], []⟩)) _ _ _
  refine wpAny_bind (wpAny_rule ?_)
  refine wpAny_bind ?_
  show wpAny _ A.in1 (updateSeq s.heap.objs.size (·.push .none) >>= fun _ => updateSeq s.heap.objs.size (·.pop)) _ _ _
  refine wpAny_bind (wpAny_updateSeq hS₁ rfl ?_)
  have hS₂ := Heap.get?_update_self (Obj.mapSeq (·.push Value.none)) hS₁ rfl
  refine wpAny_updateSeq (hz := by seq_fits) hS₂ rfl ?_
  have hS₃ := Heap.get?_update_self (Obj.mapSeq (·.pop)) hS₂ rfl
  have oth : ∀ b u, b ≠ s.heap.objs.size → s.heap.get? b = some u → (((s.heap.push { cls := .type "list", data := .seq ([] : List Value).toArray }).update s.heap.objs.size (Obj.mapSeq (·.push Value.none))).update s.heap.objs.size (Obj.mapSeq (·.pop))).get? b = some u :=
    fun b u hb e => (Heap.get?_update_other _ _ (Ne.symm hb)).trans ((Heap.get?_update_other _ _ (Ne.symm hb)).trans (Heap.get?_push_of_some _ e))
  refine wpAny_pure ⟨plainId_quiet PySem.F.plain_extend_loop _, ext_loop (h₁ := s.heap) (s := s) (gives_c (lo := s.heap.objs.size) (prog := prog) (w := w) (A := A.in1) (vs := vs) (r := r) (pool := pool) hh hz hr hSI (Nat.ne_of_gt hltp) hpI) hSI hlen (.ref s.heap.objs.size) (fun h' tk acc c hk hS' hJ hIo => ?_)
    (picks vs.length r).length 0 _ _ _ #[] rfl (Nat.zero_le _) rfl ⟨by rw [Heap.size_update, Heap.size_update, size_push']; exact Nat.le_succ _, List.nodup_nil, ⟨po, pn, oth _ _ (Nat.ne_of_lt hltp) hp, hpd⟩, by rw [List.take_zero]; exact .nil, .inl ⟨rfl, oth _ _ (Nat.ne_of_lt hltI) hI⟩⟩ (fun b o h1 _ e => oth b o h1 e) hS₃⟩
  show wpAny _ A (load s.heap.objs.size >>= _) _ _ _
  refine wpAny_bind (wpAny_load hS' ?_)
  refine wpAny_pure ?_
  obtain ⟨h2', ⟨_, hnd, _, hE, hst⟩, he⟩ := hJ
  rw [List.take_length] at hE
  exact h h' tk acc.toList (fun b o hb e => hk b o (Nat.ne_of_lt (Heap.lt_size e)) hb e) hIo hnd (hE.mono fun v idx ⟨a, a1, _, a2, a3, a4⟩ => ⟨a, a1, a2, a3, he a _ a1 a4⟩)
end
end FwC
set_option maxHeartbeats 400000
namespace FwC
open PySem PySem.Spec PySem.Calls PyProof.Rows L2 PySem.W PyProof.V Fw

theorem meets_new (l : Addr) (r : Int) (t : Tok) (vs : List Value) (h0 : 0 ≤ r) (h1 : r.toNat ≤ vs.length) (hz : vs.length ≤ 2) :
    Meets (Builtin.«itertools.combinations.__new__» ⟨[.type TC, .ref l, .int r t], []⟩) (fun _ R s => s.heap.IsList l vs.toArray ∧ ∀ h', (∀ b o, s.heap.get? b = some o → h'.get? b = some o) → h'.get? (s.heap.objs.size + 1) = some (seqObj "tuple" vs.toArray 0) → h'.get? (s.heap.objs.size + 2) = some (cObj (s.heap.objs.size + 1) 0 .none (List.range r.toNat)) →
      R (.ok (.ret (.ref (s.heap.objs.size + 2)))) { s with heap := h' }) :=
  .of_wp fun prog w A R s ⟨hl, h⟩ => new_c hl h0 h1 hz fun h' k1 k2 k3 => ⟨_, rfl, h h' k1 k2 k3⟩
theorem call_comb {prog : Program} {w : World} {A : Around} {E : Value → Shared → Prop} {s : Shared} {l : Addr} {r : Int} {t : Tok} {vs : List Value} {Q : Value → Shared → Prop} (hl : s.heap.IsList l vs.toArray) (h0 : 0 ≤ r) (h1 : r.toNat ≤ vs.length) (hz : vs.length ≤ 2)
    (h : ∀ h', (∀ b o, s.heap.get? b = some o → h'.get? b = some o) → h'.get? (s.heap.objs.size + 1) = some (seqObj "tuple" vs.toArray 0) → h'.get? (s.heap.objs.size + 2) = some (cObj (s.heap.objs.size + 1) 0 .none (List.range r.toNat)) → Q (.ref (s.heap.objs.size + 2)) { s with heap := h' }) :
    wpAny (model prog w) A (call (.type TC) [.ref l, .int r t]) Q E s :=
  callType_new called_c (by decide +kernel) (typeCall_c _ _) (newCall_c _ _) (fun obj => F.args_object_init_3 obj _ _) entry_new (meets_new l r t vs h0 h1 hz) ⟨hl, fun h' k1 k2 k3 => ⟨⟨_, k3, rfl⟩, h h' k1 k2 k3⟩⟩
/-- the iterator, not begun -/
def CmO (I pool : Addr) (r : Nat) : HO := .ext fun h => h.get? I = some (cObj pool 0 .none (List.range r))
def DoneO (I : Addr) : HO := .ext fun h => ∃ o, h.get? I = some o
section
variable {X : Cx} {pins : List (Addr × Obj)} {σ : L2.St} {H G : Hp} {s : Shared}
def rComb (K : PySem.W.Frag) : List V → Hp → VK → Prop := fun vs H Q => ∃ (l : Addr) (xs : List Str) (r : Nat), vs = [V.ref l, .int (r : Int)] ∧ SqL K H l (xs.map V.str) ∧ r ≤ xs.length ∧ xs.length ≤ 2 ∧
  ∀ I pool, H pool = none → (upd H pool (.tup (xs.map V.str))) I = none → Q (.ref I) (upd (upd H pool (.tup (xs.map V.str))) I (CmO I pool r))
theorem cr_comb : CallR X (.type TC) (rComb X.K) := by
  intro pins s σ H vs us Q I0 rr h
  obtain ⟨l, xs, r, rfl, hl, h1, hz, q⟩ := h
  obtain ⟨u1, u2, rfl, r1, r2⟩ := vals2 rr
  obtain rfl : u1 = Value.ref l := r1
  obtain ⟨t, rfl⟩ := r2
  obtain ⟨its, rv, pl, _⟩ := I0.list hl
  have hlen : its.length = xs.length := by rw [← rv.length, List.length_map]
  have e1 : ((r : Int)).toNat ≤ its.length := by rw [Int.toNat_natCast, hlen]; exact h1
  have e2 : its.length ≤ 2 := by rw [hlen]; exact hz
  refine call_comb pl.isList (Int.natCast_nonneg r) e1 e2 fun h' k1 k2 k3 => ?_
  rw [Int.toNat_natCast] at k3
  generalize hsz : s.heap.objs.size = n at k2 k3 ⊢
  have hp : H (n + 1) = none := I0.hok.fresh (Nat.le_succ_of_le (Nat.le_of_eq hsz))
  have hz2 : (xs.map V.str).length ≤ sizeLine := by
    rw [List.length_map, sizeLine_eq]
    exact Nat.le_trans hz (by decide)
  have tp : ObjOk X.prog X.w (upd H (n + 1) (.tup (xs.map V.str))) h' (n + 1) (.tup (xs.map V.str)) := ⟨hz2, its, rv, ⟨_, k2, rfl, 0, rfl⟩⟩
  have I1 := I0.laid (t' := s.toks) k1 (Nat.le_succ_of_le (Nat.le_of_eq hsz)) tp
  have hI : (upd H (n + 1) (.tup (xs.map V.str))) (n + 2) = none := by
    rw [upd_ne (Nat.ne_of_gt (Nat.lt_succ_self (n + 1)))]
    exact I0.hok.fresh (Nat.le_succ_of_le (Nat.le_succ_of_le (Nat.le_of_eq hsz)))
  have f : FpOk X pins (upd H (n + 1) (.tup (xs.map V.str))) (n + 2) := I0.fpOk (Nat.le_succ_of_le (Nat.le_succ_of_le (Nat.le_of_eq hsz))) hI
  have z0 : X.s_0.heap.objs.size ≤ n + 2 := Nat.le_trans I0.sz (Nat.le_succ_of_le (Nat.le_succ_of_le (Nat.le_of_eq hsz)))
  have tp2 : ObjOk X.prog X.w (upd (upd H (n + 1) (.tup (xs.map V.str))) (n + 2) (CmO (n + 2) (n + 1) r)) h' (n + 2) (CmO (n + 2) (n + 1) r) := ⟨k3, ⟨_, k3⟩, fun h1 h2 e k => k _ e⟩
  exact ⟨.ref (n + 2), _, inv_track I1 f z0 tp2, rfl, q _ _ hp hI⟩
/-- tuples of ours are tracked, one by one -/
theorem track_all {vs : List Value} {xs : List Str} {lo : Nat} (hv : Vals (xs.map V.str) vs) : ∀ (acc : List Value) (L : List (List Nat)) (H G : Hp), Inv X pins σ H s → Same G H → acc.Nodup → X.s_0.heap.objs.size ≤ lo →
    EachIs (fun v idx => ∃ a, H a = none ∧ FpOk X pins H a ∧ lo ≤ a ∧ v = Value.ref a ∧ s.heap.get? a = some (seqObj "tuple" (res vs idx) 0)) acc L → (∀ idx ∈ L, idx.length ≤ 2 ∧ ∀ i ∈ idx, i < xs.length) →
    ∃ H' G' ys, Inv X pins σ H' s ∧ Gr G H G' H' ∧ Vals ys acc ∧ DqAll G' ys (L.map fun idx => .tuple ((idx.map fun i => xs.getD i ⟨#[]⟩).map .str)) := by
  intro acc
  induction acc with
  | nil =>
    intro L H G I gs _ _ e _
    cases e
    exact ⟨H, G, [], I, .refl gs, .nil, .nil⟩
  | cons v acc ih =>
    intro L H G I gs nd z0 e hb
    cases e with
    | @cons _ idx _ L e1 t =>
    obtain ⟨a, ha, fa, hlo, ev, ht⟩ := e1
    subst ev
    obtain ⟨n1, n2⟩ := List.nodup_cons.mp nd
    obtain ⟨b1, b2⟩ := hb idx List.mem_cons_self
    have rvs : Vals ((idx.map fun i => xs.getD i ⟨#[]⟩).map V.str) (res vs idx).toList := by
      clear ht b1 n1 hb t
      unfold res
      rw [List.toList_toArray]
      induction idx with
      | nil => exact .nil
      | cons i idx ih2 =>
        refine .cons ?_ (ih2 fun j hj => b2 j (List.mem_cons_of_mem _ hj))
        have hi := b2 i List.mem_cons_self
        obtain ⟨u, hu, ru⟩ := hv.get (i := i) (x := V.str (xs.getD i ⟨#[]⟩)) (by rw [List.getElem?_map, List.getElem?_eq_getElem hi, List.getD_eq_getElem?_getD, List.getElem?_eq_getElem hi]; rfl)
        have e : vs.toArray.getD i .none = u := by
          rw [Array.getD_eq_getD_getElem?, List.getElem?_toArray, hu]
          rfl
        show RelV (.str (xs.getD i ⟨#[]⟩)) (vs.toArray.getD i .none)
        rw [e]
        exact ru
    have hz : ((idx.map fun i => xs.getD i ⟨#[]⟩).map V.str).length ≤ sizeLine := by rw [List.length_map, List.length_map, sizeLine_eq]; omega
    have I1 := inv_track I fa (Nat.le_trans z0 hlo) (o := .tup ((idx.map fun i => xs.getD i ⟨#[]⟩).map V.str)) ⟨hz, (res vs idx).toList, rvs, ⟨_, ht, rfl, 0, by rw [Array.toArray_toList]⟩⟩
    have g1 := Gr.new (o := .tup ((idx.map fun i => xs.getD i ⟨#[]⟩).map V.str)) gs ha
    obtain ⟨H', G', ys, I2, g2, r2, d2⟩ := ih _ _ _ I1 g1.s n2 z0 (EachIs.of_zip (by exact t.length) fun p hp => by
      obtain ⟨a', h1, h2, h3, h4, h5⟩ := t.zip p hp
      have hne : a' ≠ a := fun e => n1 (by rw [← e, ← h4]; exact (List.of_mem_zip hp).1)
      exact ⟨a', by rw [upd_ne hne]; exact h1, ⟨by rw [upd_ne hne]; exact h2.1, h2.2⟩, h3, h4, h5⟩) fun idx' h' => hb idx' (List.mem_cons_of_mem _ h')
    refine ⟨H', G', .ref a :: ys, I2, g1.trans g2, .cons rfl r2, .cons (dp_up g2.g ?_) d2⟩
    exact dp_newt (dpa_of_strs _) (by
      cases q : G a with
      | none => rfl
      | some u => have := gs _ _ q; rw [ha] at this; cases this)
def cComb : V → Hp → (List V → Hp → Prop) → Prop := fun x H Q => ∃ (I pool : Addr) (r : Nat) (xs : List Str) (G : Hp), x = .ref I ∧ H I = some (CmO I pool r) ∧ H pool = some (.tup (xs.map V.str)) ∧ pool ≠ I ∧ r ≤ xs.length ∧ xs.length ≤ 2 ∧ Same G H ∧ G I = none ∧
  ∀ vs H' G', (∀ b o, b ≠ I → H b = some o → H' b = some o) → Same G G' → Same G' H' → (∀ a o, G' a = some o → (∃ u, G a = some u) ∨ H a = none) → DqAll G' vs ((picks xs.length r).map fun idx => .tuple ((idx.map fun i => xs.getD i ⟨#[]⟩).map .str)) → Q vs H'
theorem col_comb (hc : X.calm = true) : ColR X cComb := by
  intro pins s σ H x u Q E I0 rr ⟨I, pool, r, xs, G, ex, hI, hp, hne, hr, hz, gs, hGI, q⟩
  subst ex
  obtain rfl : u = Value.ref I := rr
  have ho : s.heap.get? I = some (cObj pool 0 .none (List.range r)) := (I0.hok I _ hI).1
  obtain ⟨_, its, rv, ⟨po, hpo, hpc, pn, hpd⟩⟩ := I0.hok pool _ hp
  have hlen : its.length = xs.length := by rw [← rv.length, List.length_map]
  refine collect_c (A := X.A.in1) (vs := its) (r := r) (I0.ok.hd hc) (by rw [hlen]; exact hz) (by rw [hlen]; exact hr) hne hpo hpd ho fun h' tk acc hk hIo nd each => ?_
  have I1 : Inv X pins σ (upd H I (DoneO I)) { s with heap := h', toks := tk } := I0.write (x := I) (e := I) (by rw [hI]; exact True.intro) (.inl rfl) (fun b u hb e => hk b u hb e) hIo ⟨hIo, hIo, fun h1 h2 ⟨o, e⟩ k => ⟨o, k _ e⟩⟩
  have gs1 : Same G (upd H I (DoneO I)) := fun b u e => by
    rw [upd_ne (ne_of_none e hGI)]
    exact gs b u e
  have hbound : ∀ idx ∈ picks its.length r, idx.length ≤ 2 ∧ ∀ i ∈ idx, i < xs.length := by
    rw [hlen]
    rcases pick_cases hz hr with ⟨e1, e2⟩ | ⟨e1, e2⟩ | ⟨e1, e2⟩ | ⟨e1, e2⟩ | ⟨e1, e2⟩ | ⟨e1, e2⟩ <;> rw [e1, e2] <;> decide
  obtain ⟨H', G', ys, I2, g2, r2, d2⟩ := track_all rv acc (picks its.length r) (upd H I (DoneO I)) G I1 gs1 nd I0.sz (each.mono fun v idx ⟨a, a1, a2, a3, a4⟩ => by
    have hn : upd H I (DoneO I) a = none := by rw [upd_ne a1]; exact I0.hok.fresh a2
    exact ⟨a, hn, I0.fpOk a2 hn, a2, a3, a4⟩) hbound
  rw [hlen] at d2
  refine ⟨ys, H', I2, r2, ?_, q ys H' G' (fun b o hb e => g2.h _ _ (by rw [upd_ne hb]; exact e)) g2.g g2.s (fun a o e => (g2.f a o e).imp id fun z => ?_) d2⟩
  · rw [dpa_len d2, List.length_map, sizeLine_eq]
    rcases pick_cases hz hr with ⟨e1, e2⟩ | ⟨e1, e2⟩ | ⟨e1, e2⟩ | ⟨e1, e2⟩ | ⟨e1, e2⟩ | ⟨e1, e2⟩ <;> rw [e1, e2] <;> decide
  · by_cases ha : a = I
    · subst ha
      rw [upd_same] at z
      cases z
    · rwa [upd_ne ha] at z
end
section
variable {X : Cx} {rd : V → Hp → (List V → Hp → Prop) → Prop}
/-- sorted of one thing at most -/
def rSort1 (rd : V → Hp → (List V → Hp → Prop) → Prop) : List V → Hp → VK → Prop := fun xs H Q => ∃ x, xs = [x] ∧ rd x H fun vs H1 => vs.length ≤ 1 ∧ ∀ p, H1 p = none → Q (.ref p) (upd H1 p (.lst vs))
theorem perm_short {α : Type} {l m : List α} (h : l.Perm m) (hm : m.length ≤ 1) : l = m := by
  match m, hm with
  | [], _ => exact h.eq_nil
  | [x], _ => exact List.perm_singleton.mp h
theorem cr_sort1 (hc : ColR X rd) : CallR X (.builtin "sorted") (rSort1 rd) := by
  intro pins s σ H xs us Q I r h
  obtain ⟨x, rfl, h⟩ := h
  obtain ⟨u, rfl, ru⟩ := vals1 r
  refine Calls.call_function_entry PyProof.Rows.kind_sorted PyProof.Rows.plain_sorted PyProof.Rows.entry_sorted (PyProof.Rows.args_sorted1 _) ?_
  unfold Builtin.«sorted»
  refine wpAny_bind (m := checkCount "sorted" 1 1 _) (wpAny_pure ?_)
  refine wpAny_bind (thn (hc pins s σ H x u _ _ I ru h) fun its s1 ⟨vs, H1, I1, rv, hz, h1, q⟩ => ?_)
  have hz' : its.length ≤ sizeLine := by rw [← rv.length]; exact hz
  have hl1 : its.length ≤ 1 := by rw [← rv.length]; exact h1
  refine wpAny_bind (wpAny_newList ?_ hz')
  have hoL : (s1.heap.push (seqObj "list" its.toArray 0)).get? s1.heap.objs.size = some (seqObj "list" its.toArray 0) := Heap.get?_push_size _ rfl
  show wpAny _ _ _ _ _ { s1 with heap := s1.heap.push (seqObj "list" its.toArray 0) }
  refine wpAny_bind (wpAny_holding (wpAny_call_entry slot_list_sort ⟨_, hoL, rfl⟩ entry_list_sort
    (SrtO.list_sort_ord (ltv := fun _ _ => false) (s := { s1 with heap := s1.heap.push (seqObj "list" its.toArray 0) }) ⟨fun _ _ h => (by cases h), fun _ _ _ _ _ => rfl⟩ hoL hz' (fun h2 => absurd h2 (by omega)) fun out _ hst => ⟨.none, rfl, ?_⟩) (args_list_sort _)))
  have eo : out = its := perm_short hst.perm hl1
  subst eo
  obtain ⟨e', he'⟩ := PyProof.Rows.sortedHeap_at (vs := out) (out := out.toArray) hoL
  refine wpAny_pure ⟨_, rfl, .ref s1.heap.objs.size, upd H1 s1.heap.objs.size (.lst vs), I1.laid (t' := s1.toks) (fun b u e => ?_) (Nat.le_refl _) ⟨hz, out, e', rv, he'⟩, rfl, q _ (I1.hok.fresh (Nat.le_refl _))⟩
  have hb : b < s1.heap.objs.size := Heap.lt_size e
  rw [PyProof.Rows.sortedHeap_old (Nat.ne_of_lt hb) (by rw [size_push']; exact Nat.lt_succ_of_lt hb)]
  exact Heap.get?_push_of_some _ e
end
def eT (xs : List Str) : D := .tuple (xs.map .str)
def combosM (xs : List Str) (r : Nat) : List (List Str) := (picks xs.length r).map fun idx => idx.map fun i => xs.getD i ⟨#[]⟩
def sortT (ls : List (List Str)) : List (List Str) := ls.mergeSort (dataLe false eT)
theorem alikeAll_strs : ∀ xs ys : List Str, alikeAll (xs.map .str) (ys.map .str) = true
  | [], _ => by simp [alikeAll]
  | _ :: _, [] => by simp [alikeAll]
  | x :: xs, y :: ys => by simp [alikeAll, alike, alikeAll_strs xs ys]
theorem depth_strs : ∀ xs : List Str, PyData.depthAll (xs.map .str) = 0
  | [] => by simp [PyData.depthAll]
  | x :: xs => by simp [PyData.depthAll, PyData.depth, depth_strs xs]
theorem tps_alike (ls : List (List Str)) : AllAlike (ls.map eT) := .of fun _ _ => by simp [alike, eT, alikeAll_strs]
theorem eT_depth (xs : List Str) : (eT xs).depth ≤ 50 := by simp [eT, PyData.depth, depth_strs]
section
variable {X : Cx} {a b : Expr} {δ : List Sl} {pos p p2 q2 : Pos} {x : Str}
theorem pe_callGT {T : String} {es : List Expr} {e : Expr} {t : TA} {r : List V → Hp → VK → Prop} (hc : CallR X (.type T) r) (hg : Gl X x) (hm : X.mg x = some (.type T)) (ha : PA X (e :: es) t) (hdb : (x == ("__debug__" : Str)) = false := by decide)
    (he : starEach (e :: es) X.env = (false, eval e X.env) :: starEach es X.env := by rfl) (hpl : (backTo pos (starEach es X.env)).any (·.1) = false := by rfl) : PE X (.Call (.Name x p) (e :: es) [] pos) (tCB r t) := by
  refine ⟨fun pins s σ H Q I h => ?_⟩
  refine wpAny_Call_Name_kw (ld_glob I hg hm ?_ hdb)
  exact PyProof.Rows.callWith_type1 (thn (ha.run pos pins s σ H _ I h) fun us s1 ⟨vs, H1, I1, r1, q1⟩ => hc pins s1 σ H1 vs us Q I1 r1 q1) he hpl
theorem pf_combs {xs : List Str} {r : Nat} (B : Bt X.mg) (hc : X.calm = true) (hu : X.A.units + 64 < cLine) (hx : X.mg "combinations" = some (.type TC)) (ha : PD X a δ (.d (.list (xs.map .str)))) (hb : PD X b δ (.d (.int (r : Int)))) (hr : r ≤ xs.length) (hz : xs.length ≤ 2)
    (hg : Gl X "sorted" := by rfl) (hg2 : Gl X "combinations" := by rfl) (he : starEach [a, b] X.env = (false, eval a X.env) :: starEach [b] X.env := by rfl) (he1 : starEach [b] X.env = [(false, eval b X.env)] := by rfl) (hpl : (backTo q2 (starEach [b] X.env)).any (·.1) = false := by rfl)
    (he2 : starEach [.Call (.Name "combinations" p2) [a, b] [] q2] X.env = [(false, eval (.Call (.Name "combinations" p2) [a, b] [] q2) X.env)] := by rfl) :
    PF X (.Call (.Name "sorted" p) [.Call (.Name "combinations" p2) [a, b] [] q2] [] pos) δ ((sortT (combosM xs r)).map eT) := by
  obtain ⟨t, ht, kt⟩ := pad_cons ha (pad_cons hb pad_nil he1) he
  have hcomb := pe_callGT (pos := q2) (p := p2) cr_comb hg2 hx ht (by decide) he hpl
  have each : ∀ (σ : L2.St) (H0 G H : Hp), Same G H → RE H0 G H σ δ → ∀ (Q : List V → Hp → Prop) , (∀ vs G' H', Gr G H G' H' → DqAll G' vs ((combosM xs r).map eT) → Q vs H') → ∀ (R : V → Hp → Prop), (∀ v H', cComb v H' Q → R v H') → tCB (rComb X.K) t σ H R := by
    intro σ H0 G H gs re Q k R hR
    refine kt σ H0 G H _ gs re fun vs H1 G1 g1 a1 => ?_
    obtain ⟨v, v', rfl, h1, h2⟩ := arall2 a1
    cases h2
    cases h1 with
    | @lst q ys _ k1 k2 =>
      obtain rfl := dpa_strs k2
      refine ⟨q, xs, r, rfl, SqL.of (g1.s _ _ k1), hr, hz, fun I pool hp hI => hR _ _ ?_⟩
      have hIH : H1 I = none := by
        by_cases e : I = pool
        · subst e; exact hp
        · rwa [upd_ne e] at hI
      have hne : pool ≠ I := fun e => by rw [← e, upd_same] at hI; cases hI
      have s1 : Same H1 (upd H1 pool (.tup (xs.map V.str))) := fun b u e => by rw [upd_ne (ne_of_none e hp)]; exact e
      have s2 : Same (upd H1 pool (.tup (xs.map V.str))) (upd (upd H1 pool (.tup (xs.map V.str))) I (CmO I pool r)) := fun b u e => by rw [upd_ne (ne_of_none e hI)]; exact e
      refine ⟨I, pool, r, xs, G1, rfl, upd_same, s2 _ _ upd_same, hne, hr, hz, (g1.s.trans s1).trans s2, g1.s.free hIH, fun vs H' G' c1 c2 c3 c4 c5 => k vs G' H' (g1.trans ⟨fun b u e => c1 b u (fun z => by rw [z, hIH] at e; cases e) (s2 _ _ (s1 _ _ e)), c2, c3, fun b u e => (c4 b u e).imp id fun z => ?_⟩) ?_⟩
      · cases w : H1 b with
        | none => rfl
        | some o => rw [s2 _ _ (s1 _ _ w)] at z; cases z
      · have e : (picks xs.length r).map (fun idx => PyData.tuple ((idx.map fun i => xs.getD i ⟨#[]⟩).map .str)) = (combosM xs r).map eT := by
          unfold combosM
          rw [List.map_map]
          rfl
        rw [← e]
        exact c5
  by_cases h0 : r = 0
  · subst h0
    refine .of (pe_callB (cr_sort1 (col_comb hc)) hg B.sorted (by decide +kernel) (pa_cons hcomb pa_nil he2) (by decide) (by decide) he2) fun σ H0 G H Q gs re k => each σ H0 G H gs re _ (fun vs G' H' g' d' => ?_) _ fun v H' z => ⟨v, rfl, z⟩
    have e1 : combosM xs 0 = [[]] := by
      unfold combosM
      have : picks xs.length 0 = [[]] := by
        match xs.length with
        | 0 => rfl
        | 1 => rfl
        | 2 => rfl
        | n + 3 => rfl
      rw [this]
      rfl
    rw [e1] at d'
    refine ⟨by rw [dpa_len d']; exact Nat.le_refl _, fun l hl => ?_⟩
    have e2 : sortT (combosM xs 0) = [[]] := by rw [e1]; unfold sortT; simp
    rw [e2] at k
    exact k l vs _ G' (g'.trans (.own g'.s hl)) (g'.h.free hl) (g'.s.free hl) upd_same d'
  · refine .of (pe_callB (cr_sortC (col_comb hc) eT hu) hg B.sorted (by decide +kernel) (pa_cons hcomb pa_nil he2) (by decide) (by decide) he2) fun σ H0 G H Q gs re k => each σ H0 G H gs re _ (fun vs G' H' g' d' => ?_) _ fun v H' z => ⟨v, rfl, z⟩
    refine ⟨combosM xs r, G', g'.s, d', tps_alike _, .inl fun d hd => ?_, fun t _ => eT_depth t, fun l ys hl hy => k l ys _ G' (g'.trans (.own g'.s hl)) (g'.h.free hl) (g'.s.free hl) upd_same hy⟩
    obtain ⟨t, ht, rfl⟩ := List.mem_map.mp hd
    unfold combosM at ht
    obtain ⟨idx, hidx, rfl⟩ := List.mem_map.mp ht
    have hne : idx ≠ [] := by
      rcases pick_cases hz hr with ⟨e1, e2⟩ | ⟨e1, e2⟩ | ⟨e1, e2⟩ | ⟨e1, e2⟩ | ⟨e1, e2⟩ | ⟨e1, e2⟩
      · exact absurd e2 h0
      · exact absurd e2 h0
      · rw [e1, e2] at hidx; intro z; subst z; simp [picks] at hidx
      · exact absurd e2 h0
      · rw [e1, e2] at hidx; intro z; subst z; simp [picks] at hidx
      · rw [e1, e2] at hidx; intro z; subst z; simp [picks] at hidx
    cases idx with
    | nil => exact absurd rfl hne
    | cons i idx => exact ⟨_, _, rfl⟩
end
end FwC
set_option maxHeartbeats 1000000
namespace Fw
open PySem PySem.Spec PyProof.Rows L2
section
variable {X : Cx} {e a b c : Expr} {es : List Expr} {δ δ' : List Sl} {r q : Ar} {rs : List Ar} {pos p1 p2 p3 apos : Pos} {E : DE} {f x m : Str} {C aa : Addr} {fds fds' : Fds} {M : Mc} {k : Nat} {ps : List Str} {L : List Str}
def gFld (K : PySem.W.Frag) (ta : TE) (f : Str) : TG := fun y σ H Q => ta σ H fun x H2 => ∃ a C dx fs, x = .ref a ∧ H2 a = some (.ins C dx fs) ∧ Cls K C ∧ NoAttr K C f ∧ fs.length < 1000 ∧ Q σ (upd H2 a (.ins C dx (putF f y fs)))
theorem pg_fld {o : Expr} {ta : TE} (ha : PE X o ta) : PG X (.Attribute o f pos) (gFld X.K ta f) := by
  refine ⟨fun pins s σ H v u Q I r h => ?_⟩
  rw [assign_Attribute]
  refine wpAny_bind (wpAny_holding (thn (ha.run pins s σ H _ I h) fun ov s1 ⟨x, H1, I1, rx, a, C, dx, fs, ex, ea, c, n, l, q⟩ => ?_))
  subst ex
  obtain rfl : ov = Value.ref a := rx
  refine wpAny_bind (wpAny_standAt (wpAny_bind (wpAny_holding (setattr_ok I1 ea c n l r fun s3 I3 => ?_))))
  exact wpAny_release ⟨σ, _, I3, q⟩
/-- attributes of the object at slot i, one after another -/
inductive GA (X : Cx) (L : List Str) (x : Str) : List Expr → List D → Fds → Fds → Prop
  | nil {fds : Fds} : GA X L x [] [] fds fds
  | cons {f : Str} {p1 p2 : Pos} {tgs : List Expr} {d : D} {ds : List D} {fds fds' : Fds} (hf : f ∈ L) (hl : fds.length < 900) (t : GA X L x tgs ds (putA f (.a (.d d)) fds) fds')
      (hs : (assignEach (.Attribute (.Name x p1) f p2 :: tgs) X.env).map (·.2) = assign (.Attribute (.Name x p1) f p2) X.env :: (assignEach tgs X.env).map (·.2)) : GA X L x (.Attribute (.Name x p1) f p2 :: tgs) (d :: ds) fds fds'
def uGA (X : Cx) (i : Nat) (C aa : Addr) (L : List Str) (x : Str) (tgs : List Expr) : TGs := fun vs σ H Q => ∃ δ ds fds fds' G0 H0 G, GA X L x tgs ds fds fds' ∧ δ[i]? = some (.gp (gpO C aa fds)) ∧ noOw δ = true ∧ noGp (δ.set i .no) = true ∧ DqAll G vs ds ∧ Gr G0 H0 G H ∧ RE H0 G H σ δ ∧ ∀ H', Gr G0 H0 G H' → RE H0 G H' σ (δ.set i (.gp (gpO C aa fds'))) → Q σ H'
theorem set_set_sl {δ : List Sl} {i : Nat} {s s' : Sl} : (δ.set i s).set i s' = δ.set i s' := List.set_set ..
theorem noOw_gp {δ : List Sl} {i : Nat} {g : Gp} (h : noOw δ = true) : noOw (δ.set i (.gp g)) = true := by
  unfold noOw at *
  rw [List.all_eq_true] at *
  intro s hs
  rcases List.mem_or_eq_of_mem_set hs with z | z
  · exact h s z
  · subst z; rfl
theorem pgs_GA (i : Nat) (c : CF X.K C L) {tgs : List Expr} (hN : X.N[i]? = some x) (hv : Vis X.env.scope x) (hdb : (x == ("__debug__" : Str)) = false) (hc : (x == ("__classdict__" : Str)) = false) : PGs X tgs (uGA X i C aa L x tgs) := by
  refine ⟨fun pins s σ H vs us Q I rv h => ?_⟩
  obtain ⟨δ, ds, fds, fds', G0, H0, G, ga, hi, nw, ng, ar, g, re, k⟩ := h
  induction ga generalizing s H vs us δ with
  | @nil fds0 =>
    cases ar
    cases rv
    refine assignInOrder_nil ⟨σ, H, I, k H g ?_⟩
    have e : δ.set i (.gp (gpO C aa fds0)) = δ := by
      apply List.ext_getElem?
      intro j
      by_cases z : i = j
      · subst z
        have hl : i < δ.length := by
          rcases Nat.lt_or_ge i δ.length with z | z
          · exact z
          · rw [List.getElem?_eq_none z] at hi; cases hi
        rw [List.getElem?_set_self hl, hi]
      · rw [List.getElem?_set_ne z]
    rw [e]
    exact re
  | @cons f p1 p2 tgs d ds fds fds' hf hl t hs ih =>
    cases ar with
    | cons a1 a2 =>
      cases rv with
      | cons r1 r2 =>
        rw [hs]
        obtain ⟨v, e1, h⟩ := re.gp hi
        obtain ⟨dx, fs, k1, k2, k3, k4, k5⟩ := ob_put (f := f) (r := .d d) h a1
        have ev := h.at_
        subst ev
        refine assignInOrder_cons (thn ((pg_fld (pos := p2) (f := f) (pe_var (pos := p1) hN hv hdb hc)).run pins s σ H _ _ (fun σ' H' => σ' = σ ∧ H' = _) I r1 ⟨.ref aa, e1, aa, C, dx, fs, rfl, k1, c.cls, c.na f hf, by omega, rfl, rfl⟩) fun _ s1 ⟨σ1, H1, I1, q1, q2⟩ => ?_)
        subst q1 q2
        have re1 := re.jump (p' := gpO C aa (putA f (.a (.d d)) fds)) i hi e1 (.refl _) k5 nw ng
        have hl2 : i < δ.length := by
          rcases Nat.lt_or_ge i δ.length with z | z
          · exact z
          · rw [List.getElem?_eq_none z] at hi; cases hi
        refine ih s1 _ _ _ I1 r2 _ (List.getElem?_set_self hl2) (noOw_gp nw) (by rw [set_set_sl]; exact ng) a2 (g.mut k3 k2) re1 fun H' g' re' => k H' g' (by rw [set_set_sl] at re'; exact re')
theorem sd_unpA (i : Nat) (c : CF X.K C L) {tgs : List Expr} {ds : List D} {kk : Nat} (hcm : X.calm = true) (hi : δ[i]? = some (.gp (gpO C aa fds))) (he : PD X e δ (.d (.tuple ds))) (ga : GA X L x tgs ds fds fds') (hn : E.nx (δ.set i (.gp (gpO C aa fds'))))
    (nw : noOw δ = true := by rfl) (ng : noGp (δ.set i .no) = true := by rfl) (hN : X.N[i]? = some x := by rfl) (hv : Vis X.env.scope x := by first | exact Or.inl rfl | exact Or.inr (Or.inl rfl) | exact Or.inr (Or.inr rfl))
    (hdb : (x == ("__debug__" : Str)) = false := by decide) (hc : (x == ("__classdict__" : Str)) = false := by decide)
    (hln : (assignEach tgs X.env).length = ds.length := by rfl) (hst : (assignEach tgs X.env).findIdx? (·.1) = none := by rfl)
    (hs : swapsWithSole [.Tuple tgs kk p1] e pos.line X.env = pure false := by rfl) (hw : swappedStores [.Tuple tgs kk p1] e X.env = pure none := by rfl)
    (h1 : (assignEach [.Tuple tgs kk p1] X.env).map (·.2) = [assign (.Tuple tgs kk p1) X.env] := by rfl) : SD1 X (.Assign [.Tuple tgs kk p1] e pos) δ E :=
  .of (ps_asg he.pe (pg_tup hcm (pgs_GA (aa := aa) i c hN hv hdb hc) hln hst) hs hw h1) fun σ G0 H0 G H g re => .in g.s re fun y H1 G1 g1 a1 => by
    cases a1 with
    | tup e1 e2 =>
      exact ⟨_, _, rfl, .of (g1.s _ _ e1), dpa_len e2, δ, ds, fds, fds', G0, H0, G1, ga, hi, nw, ng, e2, g.trans g1, re.grow g1, fun H' g' re' => ⟨G1, _, g', re', hn⟩⟩
/-- a, b, c = x, y, z -/
theorem sd_par3 (i j l : Nat) {x y z : Str} {ra rb rc : Ar} {px py pz pt : Pos} {kt k2 pt2} (hcm : X.calm = true) (hN : X.N.Nodup) (ha : PD X a δ ra) (hb : PD X b δ rb) (hc : PD X c δ rc) (hn : E.nx (((δ.set i (.va ra)).set j (.va rb)).set l (.va rc)))
    (hi : X.N[i]? = some x := by rfl) (hj : X.N[j]? = some y := by rfl) (hl : X.N[l]? = some z := by rfl) (hij : i ≠ j := by decide) (hil : i ≠ l := by decide) (hjl : j ≠ l := by decide)
    (hx : X.env.scope.names.lookup x = some .local := by rfl) (hy : X.env.scope.names.lookup y = some .local := by rfl) (hz : X.env.scope.names.lookup z = some .local := by rfl)
    (hw : swappedStores [.Tuple [.Name x px, .Name y py, .Name z pz] kt pt] (.Tuple [a, b, c] k2 pt2) X.env = pure (some [x, y, z]) := by rfl)
    (hs : swapsWithSole [.Tuple [.Name x px, .Name y py, .Name z pz] kt pt] (.Tuple [a, b, c] k2 pt2) pos.line X.env = pure false := by rfl)
    (h1 : starEach [a, b, c] X.env = (false, eval a X.env) :: starEach [b, c] X.env := by rfl) (h2 : starEach [b, c] X.env = (false, eval b X.env) :: starEach [c] X.env := by rfl) (h3 : starEach [c] X.env = (false, eval c X.env) :: starEach [] X.env := by rfl) :
    SD1 X (.Assign [.Tuple [.Name x px, .Name y py, .Name z pz] kt pt] (.Tuple [a, b, c] k2 pt2) pos) δ E := by
  obtain ⟨t, pa, hk⟩ := (pad_cons ha (pad_cons hb (pad_cons hc pad_nil h3) h2) h1).ex
  refine .of (ps_par3 hcm hN hi hj hl hij hil hjl hx hy hz pa hw hs) fun σ G0 H0 G H g re => hk σ H0 G H _ g.s re fun vs H1 G1 g1 a1 => ?_
  cases a1 with
  | cons b1 c1 => cases c1 with
    | cons b2 c2 => cases c2 with
      | cons b3 c3 =>
        cases c3
        exact ⟨_, _, _, rfl, G1, _, g.trans g1, (((re.grow g1).set i b1).set j b2).set l b3, hn⟩
/-- a, b = x, y -/
theorem sd_par (i j : Nat) {x y : Str} {ra rb : Ar} {px py pt : Pos} {kt k2 pt2} (hcm : X.calm = true) (hN : X.N.Nodup) (ha : PD X a δ ra) (hb : PD X b δ rb) (hn : E.nx ((δ.set i (.va ra)).set j (.va rb)))
    (hi : X.N[i]? = some x := by rfl) (hj : X.N[j]? = some y := by rfl) (hij : i ≠ j := by decide)
    (hx : X.env.scope.names.lookup x = some .local := by rfl) (hy : X.env.scope.names.lookup y = some .local := by rfl)
    (hw : swappedStores [.Tuple [.Name x px, .Name y py] kt pt] (.Tuple [a, b] k2 pt2) X.env = pure (some [x, y]) := by rfl)
    (hs : swapsWithSole [.Tuple [.Name x px, .Name y py] kt pt] (.Tuple [a, b] k2 pt2) pos.line X.env = pure false := by rfl)
    (h1 : starEach [a, b] X.env = (false, eval a X.env) :: starEach [b] X.env := by rfl) (h2 : starEach [b] X.env = (false, eval b X.env) :: starEach [] X.env := by rfl) :
    SD1 X (.Assign [.Tuple [.Name x px, .Name y py] kt pt] (.Tuple [a, b] k2 pt2) pos) δ E := by
  obtain ⟨t, pa, hk⟩ := (pad_cons ha (pad_cons hb pad_nil h2) h1).ex
  refine .of (ps_par hcm hN hi hj hij hx hy pa hw hs) fun σ G0 H0 G H g re => hk σ H0 G H _ g.s re fun vs H1 G1 g1 a1 => ?_
  cases a1 with
  | cons b1 c1 => cases c1 with
    | cons b2 c2 =>
        cases c2
        exact ⟨_, _, rfl, G1, _, g.trans g1, ((re.grow g1).set i b1).set j b2, hn⟩
end
end Fw
set_option maxHeartbeats 1000000
namespace Fw
open PySem PySem.Spec PyProof.Rows L2 PySem.W
section
variable {X : Cx} {e a b c : Expr} {es : List Expr} {δ δ' : List Sl} {r q : Ar} {rs : List Ar} {pos p p1 p2 p3 apos : Pos} {E : DE} {f x m : Str} {C aa : Addr} {fds fds' : Fds} {k : Nat} {ps : List Str} {L : List Str} {fd : List (Str × Ar)} {sts : List Stmt}
def frF : Fds → List (Str × Ar)
  | [] => []
  | (f, .a r) :: t => (f, r) :: frF t
  | (f, .l n) :: t => (f, .o (rLst n)) :: frF t
theorem frF_each {H0 G H G' : Hp} (s : Same G G') : ∀ {fs : List (Str × V)} {fds : Fds}, EachIs (FdR H0 G H) fs fds → (∀ (i : Nat) (n : Nat) (f : Str) (l : Addr), fds[i]? = some (f, .l n) → fs[i]? = some (f, .ref l) → G' l = H l) →
    EachIs (fun x e => x.1 = e.1 ∧ ArR G' x.2 e.2) fs (frF fds)
  | _, _, .nil, _ => .nil
  | _, (f, .a r) :: _, .cons h t, k => .cons ⟨h.1, ar_up s h.2⟩ (frF_each s t fun i n f l e1 e2 => k (i + 1) n f l (by simpa using e1) (by simpa using e2))
  | (g, y) :: _, (f, .l n) :: _, .cons h t, k => by
    refine .cons ⟨h.1, ?_⟩ (frF_each s t fun i n f l e1 e2 => k (i + 1) n f l (by simpa using e1) (by simpa using e2))
    obtain ⟨e, l, vs, e1, e2, e3, e4, e5⟩ := h
    have e' : g = f := e
    subst e'
    have e1' : y = .ref l := e1
    subst e1'
    exact ⟨l, vs, rfl, (k 0 n g l rfl rfl).trans e2, e3⟩
open Classical in
/-- an object of ours becomes one that stays -/
theorem sd_frzG (i : Nat) (hi : δ[i]? = some (.gp (gpO C aa fds))) (h : SD X sts (δ.set i (.va (.o (rObj C (frF fds))))) E) (nw : noOw δ = true := by rfl) (ng : noGp (δ.set i .no) = true := by rfl) : SD X sts δ E := by
  refine ⟨fun pins s σ G0 H0 G H I g re => ?_⟩
  obtain ⟨v, e1, ob⟩ := re.gp hi
  have ev := ob.at_
  subst ev
  obtain ⟨dx, fs, k1, k2, k3, k4, k5, k6, k7, k8⟩ := ob.ex
  let Z : Addr → Prop := fun b => b = aa ∨ ∃ (j n : Nat) (f : Str), fds[j]? = some (f, .l n) ∧ fs[j]? = some (f, .ref b)
  let G' : Hp := fun b => if Z b then H b else G b
  have zG : ∀ b, Z b → G b = none ∧ H0 b = none := fun b z => by
    rcases z with rfl | ⟨j, n, f, z1, z2⟩
    · exact ⟨k3, k5⟩
    · obtain ⟨x, x1, x2⟩ := fds_at k7 z1
      rw [z2] at x1
      cases x1
      obtain ⟨_, l, vs, y1, y2, y3, y4, y5⟩ := x2
      cases y1
      exact ⟨y4, y5⟩
  have s1 : Same G G' := fun b o e => by
    show (if Z b then H b else G b) = some o
    rw [if_neg (fun z => by rw [(zG b z).1] at e; cases e)]
    exact e
  have s2 : Same G' H := fun b o e => by
    have e' : (if Z b then H b else G b) = some o := e
    split at e'
    · exact e'
    · exact g.s _ _ e'
  have g' : Gr G0 H0 G' H := ⟨g.h, g.g.trans s1, s2, fun b o e => by
    have e' : (if Z b then H b else G b) = some o := e
    split at e'
    · rename_i z; exact .inr (zG b z).2
    · exact g.f _ _ e'⟩
  refine h.run pins s σ G0 H0 G' H I g' ⟨by simpa using re.len, fun j sl e => ?_, fun j j' O O' b z1 => ?_⟩
  · by_cases z : i = j
    · subst z
      have hl : i < δ.length := by
        rcases Nat.lt_or_ge i δ.length with z | z
        · exact z
        · rw [List.getElem?_eq_none z] at hi; cases hi
      rw [List.getElem?_set_self hl] at e
      cases e
      refine ⟨_, e1, .ref aa, rfl, aa, dx, fs, rfl, ?_, frF_each s1 k7 fun j n f l z1 z2 => ?_⟩
      · show (if Z aa then H aa else G aa) = _
        rw [if_pos (.inl rfl)]; exact k1
      · show (if Z l then H l else G l) = _
        rw [if_pos (.inr ⟨j, n, f, z1, z2⟩)]
    · have e0 := e
      rw [List.getElem?_set_ne z] at e
      obtain ⟨o, h1, h2⟩ := re.sl j sl e
      refine ⟨o, h1, ?_⟩
      cases sl with
      | no => exact h2
      | va y => obtain ⟨v, u1, u2⟩ := h2; exact ⟨v, u1, ar_up s1 u2⟩
      | ow O1 => exact absurd (noOw_at nw e) (by simp [isOw])
      | gp p => exact absurd (noGp_at ng (by rw [List.getElem?_set_ne z]; exact e)) (by simp [isGp])
  · by_cases z : i = j
    · subst z
      by_cases hl : i < δ.length
      · rw [List.getElem?_set_self hl] at z1; cases z1
      · rw [List.getElem?_eq_none (by simpa using hl)] at z1; cases z1
    · rw [List.getElem?_set_ne z] at z1
      exact absurd (noOw_at nw z1) (by simp [isOw])
/-- a method or getter that only reads its object -/
structure OkF (P : Program) (w : World) (K : PySem.W.Frag) (mg : Str → Option Value) (base : Heap) (k : Nat) (C : Addr) (m : Str) (ps : List Str) (Cn : List Ar → Ar → Prop) : Prop where
  ex : ∃ f fd, FnOk P w K mg base CX0 k f fd ps (spD Cn) ∧ Binds K fd ps [] ∧ Meth K C m f ∧ Cls K C
structure OkP (P : Program) (w : World) (K : PySem.W.Frag) (mg : Str → Option Value) (base : Heap) (k : Nat) (C : Addr) (m : Str) (Cn : List Ar → Ar → Prop) : Prop where
  ex : ∃ p f fd, FnOk P w K mg base CX0 k f fd ["self"] (spD Cn) ∧ Binds K fd ["self"] [] ∧ PropOf K C m p f ∧ Cls K C
/-- e.m, a property -/
theorem pd_prop {Cn : List Ar → Ar → Prop} (O : OkP X.prog X.w X.K X.mg X.base k C m Cn) (hr : Room (k + 1) X.A) (he : PD X e δ (.o (rObj C fd))) (hC : Cn [.o (rObj C fd)] q) (hab : attributeBase e m X.env (eval e X.env) = eval e X.env := by rfl) : PD X (.Attribute e m pos) δ q := by
  obtain ⟨p, f, fd', F, bb, mm, cc⟩ := O.ex
  refine .of (pe_prop he.pe cc mm F hr bb .nil pass0 hab) fun σ H0 G H Q gs re kk => ?_
  refine .in gs re fun v H1 G1 g1 a1 => ?_
  obtain ⟨a, dx, fs, ev, h1, h2⟩ := id a1
  subst ev
  exact ⟨a, dx, fs, rfl, g1.s _ _ h1, G1, [.o (rObj C fd)], q, g1.s, .cons a1 .nil, hC, fun v H2 G2 g2 a2 => kk v H2 G2 (g1.trans g2) a2⟩
/-- e.m(), of an object that stays -/
theorem pd_methF {pl : Sem Bool} {Cn : List Ar → Ar → Prop} (O : OkF X.prog X.w X.K X.mg X.base k C m ["self"] Cn) (hr : Room k X.A) (he : PD X e δ (.o (rObj C fd))) (hm : fd.lookup m = none) (hC : Cn [.o (rObj C fd)] q)
    (ht : eval (.Call (.Attribute e m apos) [] [] pos) X.env = (do
      let ov ← eval e X.env
      standAt apos.atName
      let (f, first) ← holding [ov] (getMethod ov m pl)
      callWith pos f first (backTo pos (starEach [] X.env)) (backToKw pos (keywordEach [] X.env))) := by rfl) : PD X (.Call (.Attribute e m apos) [] [] pos) δ q := by
  obtain ⟨f, fd', F, bb, mm, cc⟩ := O.ex
  refine .of (pe_meth0 he.pe cc mm F hr bb .nil pass0 ht) fun σ H0 G H Q gs re kk => ?_
  refine .in gs re fun v H1 G1 g1 a1 => ?_
  obtain ⟨a, dx, fs, ev, h1, h2⟩ := id a1
  subst ev
  exact ⟨a, dx, fs, rfl, g1.s _ _ h1, look_none ent1 h2 hm, G1, [.o (rObj C fd)], q, g1.s, .cons a1 .nil, hC, fun v H2 G2 g2 a2 => kk v H2 G2 (g1.trans g2) a2⟩
/-- a text of the module -/
theorem pd_gs {y : Str} (hm : ∃ u, X.mg x = some u ∧ RelV (.str y) u) (hg : Gl X x := by rfl) (hdb : (x == ("__debug__" : Str)) = false := by decide) : PD X (.Name x pos) δ (.d (.str y)) := by
  obtain ⟨u, h1, h2⟩ := hm
  exact .of (pe_glob hg h1 h2 hdb) fun σ H0 G H Q gs re kk => kk _ H G (.refl gs) (Dq.str y)
theorem pd_gi {y : Int} (hm : ∃ u, X.mg x = some u ∧ RelV (.int y) u) (hg : Gl X x := by rfl) (hdb : (x == ("__debug__" : Str)) = false := by decide) : PD X (.Name x pos) δ (.d (.int y)) := by
  obtain ⟨u, h1, h2⟩ := hm
  exact .of (pe_glob hg h1 h2 hdb) fun σ H0 G H Q gs re kk => kk _ H G (.refl gs) (Dq.int y)
/-- list(some list) -/
theorem pd_listR {n : Nat} (B : Bt X.mg) (h : PD X e δ (.o (rLst n))) (hg : Gl X "list" := by rfl) (he : starEach [e] X.env = [(false, eval e X.env)] := by rfl) : PD X (.Call (.Name "list" p) [e] [] pos) δ (.o (rLst n)) :=
  pd_callTy call_list_of (fun vs H G Q gs ha k => by
    obtain ⟨v, rfl, hv⟩ := arall1 ha
    obtain ⟨p, xs, rfl, h1, h2⟩ := hv
    exact ⟨p, xs, rfl, .inl (SqL.of (gs _ _ h1)), fun l hl => k _ _ _ (.new gs hl) ⟨l, xs, rfl, upd_same, h2⟩⟩) hg B.list (by decide +kernel) (pad_cons h pad_nil he) (by decide) (by decide) he
end
end Fw
set_option maxHeartbeats 1000000
namespace Fw
open PySem PySem.Spec PyProof.Rows L2 PySem.W
section
variable {X : Cx} {e a b c : Expr} {es : List Expr} {δ δ' : List Sl} {r q : Ar} {rs : List Ar} {pos p p1 p2 p3 p4 apos : Pos} {E : DE} {f x m : Str} {C aa : Addr} {fds fds' : Fds} {k : Nat} {ps : List Str} {L : List Str} {fd : List (Str × Ar)} {sts : List Stmt}
abbrev Few (X : Cx) (e : Expr) (cpos : Pos) : Prop := ((backTo cpos (starEach [e] X.env)).all (fun x => !x.1) && (backToKw cpos (keywordEach [] X.env)).all (fun x => x.1.isSome)
      && decide (([e] : List Expr).length + ([] : List Keyword).length + (if ([] : List Keyword).isEmpty then 0 else 1) < 30)) = true
theorem sd_apnd (i : Nat) {ds : List D} {d : D} (hi : δ[i]? = some (.ow (oLst ds))) (h : PD X e δ (.d d)) (hl : ds.length < 1000000) (hn : E.nx (δ.set i (.ow (oLst (ds ++ [d])))))
    (hN : X.N[i]? = some x := by rfl) (hv : Vis X.env.scope x := by first | exact Or.inl rfl | exact Or.inr (Or.inl rfl) | exact Or.inr (Or.inr rfl)) (ng : noGp δ = true := by rfl)
    (hdb : (x == ("__debug__" : Str)) = false := by decide) (hc : (x == ("__classdict__" : Str)) = false := by decide)
    (hbase : attributeBase (.Name x p1) "append" X.env (eval (.Name x p1) X.env) = eval (.Name x p1) X.env := by rfl) (hfew : Few X e p3 := by rfl)
    (hline : (p2.endLine == p3.line) = true := by rfl) (hs : starEach [e] X.env = (false, eval e X.env) :: starEach [] X.env := by rfl) (hplain : (backTo p3 (starEach [] X.env)).any (·.1) = false := by rfl)
    (hsw : swapsWith (.Call (.Attribute (.Name x p1) "append" p2) [e] [] p3) none pos.line X.env = pure false := by rfl) : SD1 X (.Expr (.Call (.Attribute (.Name x p1) "append" p2) [e] [] p3) pos) δ E :=
  sd_app i hi h hl hn (fun t ht => ps_expr (pe_bm F.plainAttrs_list F.slot_list_append F.type_list_append mt_append (pe_var hN hv hdb hc) (pa_cons ht pa_nil hs) hbase hfew hline hs hplain) hsw) ng
theorem sd_sapnd (i : Nat) {n : Nat} (c : CF X.K C L) (hi : δ[i]? = some (.gp (gpO C aa fds))) (hlk : fds.lookup f = some (.l n)) (he : PD X e δ r) (hn : E.nx (δ.set i (.gp (gpO C aa (fds.set (kx f fds) (f, .l (n + 1))))))) (hnn : n < 1000000 := by decide) (hf : f ∈ L := by decide) (nw : noOw δ = true := by rfl) (ng : noGp (δ.set i .no) = true := by rfl)
    (hN : X.N[i]? = some x := by rfl) (hv : Vis X.env.scope x := by first | exact Or.inl rfl | exact Or.inr (Or.inl rfl) | exact Or.inr (Or.inr rfl))
    (hdb : (x == ("__debug__" : Str)) = false := by decide) (hc : (x == ("__classdict__" : Str)) = false := by decide) (hb : attributeBase (.Name x p1) f X.env (eval (.Name x p1) X.env) = eval (.Name x p1) X.env := by rfl)
    (hbase : attributeBase (.Attribute (.Name x p1) f p2) "append" X.env (eval (.Attribute (.Name x p1) f p2) X.env) = eval (.Attribute (.Name x p1) f p2) X.env := by rfl) (hfew : Few X e p4 := by rfl)
    (hline : (p3.endLine == p4.line) = true := by rfl) (hs : starEach [e] X.env = (false, eval e X.env) :: starEach [] X.env := by rfl) (hplain : (backTo p4 (starEach [] X.env)).any (·.1) = false := by rfl)
    (hsw : swapsWith (.Call (.Attribute (.Attribute (.Name x p1) f p2) "append" p3) [e] [] p4) none pos.line X.env = pure false := by rfl) : SD1 X (.Expr (.Call (.Attribute (.Attribute (.Name x p1) f p2) "append" p3) [e] [] p4) pos) δ E :=
  sd_sapp (p5 := p1) i c hi hlk he hn hnn hf nw ng hN hv hdb hc hb (fun t t' ht ht' => ps_expr (pe_bm F.plainAttrs_list F.slot_list_append F.type_list_append mt_append ht' (pa_cons ht pa_nil hs) hbase hfew hline hs hplain) hsw)
/-- name.extend(a list) -/
theorem sd_ext (i : Nat) {ds es : List D} (hi : δ[i]? = some (.ow (oLst ds))) (h : PD X e δ (.d (.list es))) (hl : ds.length + es.length < 1000000) (hn : E.nx (δ.set i (.ow (oLst (ds ++ es)))))
    (hN : X.N[i]? = some x := by rfl) (hv : Vis X.env.scope x := by first | exact Or.inl rfl | exact Or.inr (Or.inl rfl) | exact Or.inr (Or.inr rfl)) (ng : noGp δ = true := by rfl)
    (hdb : (x == ("__debug__" : Str)) = false := by decide) (hc : (x == ("__classdict__" : Str)) = false := by decide)
    (hbase : attributeBase (.Name x p1) "extend" X.env (eval (.Name x p1) X.env) = eval (.Name x p1) X.env := by rfl) (hfew : Few X e p3 := by rfl)
    (hline : (p2.endLine == p3.line) = true := by rfl) (hs : starEach [e] X.env = (false, eval e X.env) :: starEach [] X.env := by rfl) (hplain : (backTo p3 (starEach [] X.env)).any (·.1) = false := by rfl)
    (hsw : swapsWith (.Call (.Attribute (.Name x p1) "extend" p2) [e] [] p3) none pos.line X.env = pure false := by rfl) : SD1 X (.Expr (.Call (.Attribute (.Name x p1) "extend" p2) [e] [] p3) pos) δ E := by
  refine .of (ps_expr (pe_bm F.plainAttrs_list F.slot_list_extend F.type_list_extend mt_extend (pe_var hN hv hdb hc) (pa_cons h.pe pa_nil hs) hbase hfew hline hs hplain) hsw) fun σ G0 H0 G H g re => ?_
  obtain ⟨p, ob, e1, e2, e3, e4, vs, rfl, e5⟩ := re.ow hi
  refine ⟨.ref p, e1, .inl ⟨rfl, _, SqL.of e2⟩, .in g.s re fun v H1 G1 g1 a1 => ?_⟩
  obtain ⟨p', ob', f1, f2, f3, f4, us, rfl, f5⟩ := (re.grow g1).ow hi
  rw [e1] at f1
  cases f1
  cases a1 with
  | @lst b zs _ b1 b2 =>
    have hz : us.length + zs.length ≤ sizeLine := by
      rw [dpa_len f5, dpa_len b2]
      exact Nat.le_trans (Nat.le_of_lt hl) (by decide)
    exact ⟨p, b, us, zs, rfl, rfl, f2, g1.s _ _ b1, hz, G1, _, (g.trans g1).mut f4 f3, (re.grow g1).mutOw (O' := oLst (ds ++ es)) i hi e1 f3 f4 ⟨_, rfl, dpa_app f5 b2⟩ ng, hn⟩
end
end Fw
set_option maxHeartbeats 4000000
namespace Fw
open PySem PySem.Spec PyProof.Rows L2
/-- the module's name x is the def st -/
structure DefAt (K : PySem.W.Frag) (mg : Str → Option Value) (x : Str) (st : Stmt) : Prop where
  ex : ∃ f fd, Fun K x x st f fd ∧ mg x = some (.ref f)
theorem okd_mk {P : Program} {w : World} {K : PySem.W.Frag} {mg : Str → Option Value} {base : Heap} {x : Str} {st : Stmt} {N ps : List Str} {k : Nat} {C : List Ar → Ar → Prop} (T : DefAt K mg x st) (S : FnScope N ps (defScope st))
    (hbind : ∀ (kV doc pm : Value) (an : Option Addr) (cdv ct : Value) (us : List Value), us.length = ps.length → bindArgs (PySem.W.fnOf x x (defArgs st) (defBody st) (defScope st) .none kV doc pm an cdv ct) ⟨us, []⟩ = pure (ps.zip us))
    (hlen : ∀ ars q, C ars q → ars.length = ps.length) (hpl : ps.length ≤ N.length)
    (hb : ∀ ars q, C ars q → ∀ (f : Addr) (cdv : Value) (A : Around) (outer : List Env) (s : Shared) (H : Hp) (E : XK), Room k (A.deeper (envOfC x (defScope st) s.heap.objs.size f cdv)) →
      SD (Fx P w K mg base N x st f cdv A outer s H E) (defBody st) (startD N ars) { nx := fun _ => q = .d .none, rt := fun q' => q' = q }) : Okd P w K mg base (k + 1) x ps C := by
  obtain ⟨f, fd, F, m⟩ := T.ex
  exact ⟨f, fd, fn_D F S hlen hpl fun ars q c cdv A outer s H E hr => hb ars q c f cdv A outer s H E hr, F.binds hbind, F.kp, m⟩
/-- methods that only read their object, getters -/
structure MethAt (K : PySem.W.Frag) (C : Addr) (m qual : Str) (st : Stmt) : Prop where
  ex : ∃ f fd, Fun K m qual st f fd ∧ Meth K C m f
structure PropAt (K : PySem.W.Frag) (C : Addr) (m qual : Str) (st : Stmt) : Prop where
  ex : ∃ p f fd, Fun K m qual st f fd ∧ PropOf K C m p f
structure InitAt (K : PySem.W.Frag) (mg : Str → Option Value) (C : Addr) (x qual : Str) (st : Stmt) : Prop where
  ex : ∃ f fd, Fun K "__init__" qual st f fd ∧ Mk K C f ∧ mg x = some (.ref C)
section
variable {P : Program} {w : World} {K : PySem.W.Frag} {mg : Str → Option Value} {base : Heap} {C : Addr} {m x qual : Str} {st : Stmt} {N ps : List Str} {k : Nat} {Cn : List Ar → Ar → Prop}
theorem okp_mk (T : PropAt K C m qual st) (cc : Cls K C) (S : FnScope N ["self"] (defScope st))
    (hbind : ∀ (kV doc pm : Value) (an : Option Addr) (cdv ct : Value) (us : List Value), us.length = 1 → bindArgs (PySem.W.fnOf m qual (defArgs st) (defBody st) (defScope st) .none kV doc pm an cdv ct) ⟨us, []⟩ = pure ([("self" : Str)].zip us))
    (hlen : ∀ ars q, Cn ars q → ars.length = 1) (hpl : 1 ≤ N.length)
    (hb : ∀ ars q, Cn ars q → ∀ (f : Addr) (cdv : Value) (A : Around) (outer : List Env) (s : Shared) (H : Hp) (E : XK), Room k (A.deeper (envOfC qual (defScope st) s.heap.objs.size f cdv)) →
      SD (Fx P w K mg base N qual st f cdv A outer s H E) (defBody st) (startD N ars) { nx := fun _ => q = .d .none, rt := fun q' => q' = q }) : OkP P w K mg base (k + 1) C m Cn := by
  obtain ⟨p, f, fd, F, m⟩ := T.ex
  exact ⟨p, f, fd, fn_D F S hlen hpl fun ars q c cdv A outer s H E hr => hb ars q c f cdv A outer s H E hr, F.binds hbind, m, cc⟩
theorem okf_mk (T : MethAt K C m qual st) (cc : Cls K C) (S : FnScope N ps (defScope st))
    (hbind : ∀ (kV doc pm : Value) (an : Option Addr) (cdv ct : Value) (us : List Value), us.length = ps.length → bindArgs (PySem.W.fnOf m qual (defArgs st) (defBody st) (defScope st) .none kV doc pm an cdv ct) ⟨us, []⟩ = pure (ps.zip us))
    (hlen : ∀ ars q, Cn ars q → ars.length = ps.length) (hpl : ps.length ≤ N.length)
    (hb : ∀ ars q, Cn ars q → ∀ (f : Addr) (cdv : Value) (A : Around) (outer : List Env) (s : Shared) (H : Hp) (E : XK), Room k (A.deeper (envOfC qual (defScope st) s.heap.objs.size f cdv)) →
      SD (Fx P w K mg base N qual st f cdv A outer s H E) (defBody st) (startD N ars) { nx := fun _ => q = .d .none, rt := fun q' => q' = q }) : OkF P w K mg base (k + 1) C m ps Cn := by
  obtain ⟨f, fd, F, m⟩ := T.ex
  exact ⟨f, fd, fn_D F S hlen hpl fun ars q c cdv A outer s H E hr => hb ars q c f cdv A outer s H E hr, F.binds hbind, m, cc⟩
variable {M : Mc}
theorem okm_mk (T : MethAt K C m qual st) (cc : Cls K C) (S : FnScope N ps (defScope st))
    (hbind : ∀ (kV doc pm : Value) (an : Option Addr) (cdv ct : Value) (us : List Value), us.length = ps.length → bindArgs (PySem.W.fnOf m qual (defArgs st) (defBody st) (defScope st) .none kV doc pm an cdv ct) ⟨us, []⟩ = pure (ps.zip us))
    (hlen : ∀ fds ars fds' q, M fds ars fds' q → ars.length + 1 = ps.length) (hpl : ps.length ≤ N.length)
    (hb : ∀ aa fds ars fds' q, M fds ars fds' q → ∀ (f : Addr) (cdv : Value) (A : Around) (outer : List Env) (s : Shared) (H : Hp) (E : XK), Room k (A.deeper (envOfC qual (defScope st) s.heap.objs.size f cdv)) →
      SD (Fx P w K mg base N qual st f cdv A outer s H E) (defBody st) (startM N (gpO C aa fds) ars) { nx := fun δ => q = .d .none ∧ δ[0]? = some (.gp (gpO C aa fds')), rt := fun q' => q' = q, rs := fun δ => δ[0]? = some (.gp (gpO C aa fds')) }) : OkM P w K mg base (k + 1) C m ps M := by
  obtain ⟨f, fd, F, m⟩ := T.ex
  exact ⟨f, fd, fn_M F S hlen hpl fun aa fds ars fds' q c cdv A outer s H E hr => hb aa fds ars fds' q c f cdv A outer s H E hr, F.binds hbind, m, cc⟩
theorem oki_mk (T : InitAt K mg C x qual st) (S : FnScope N ps (defScope st))
    (hbind : ∀ (kV doc pm : Value) (an : Option Addr) (cdv ct : Value) (us : List Value), us.length = ps.length → bindArgs (PySem.W.fnOf "__init__" qual (defArgs st) (defBody st) (defScope st) .none kV doc pm an cdv ct) ⟨us, []⟩ = pure (ps.zip us))
    (hlen : ∀ fds ars fds' q, M fds ars fds' q → ars.length + 1 = ps.length) (hpl : ps.length ≤ N.length)
    (hb : ∀ aa fds ars fds' q, M fds ars fds' q → ∀ (f : Addr) (cdv : Value) (A : Around) (outer : List Env) (s : Shared) (H : Hp) (E : XK), Room k (A.deeper (envOfC qual (defScope st) s.heap.objs.size f cdv)) →
      SD (Fx P w K mg base N qual st f cdv A outer s H E) (defBody st) (startM N (gpO C aa fds) ars) { nx := fun δ => q = .d .none ∧ δ[0]? = some (.gp (gpO C aa fds')), rt := fun q' => q' = q, rs := fun δ => δ[0]? = some (.gp (gpO C aa fds')) }) : OkI P w K mg base (k + 1) C x ps M := by
  obtain ⟨f, fd, F, m, g⟩ := T.ex
  exact ⟨f, fd, fn_M F S hlen hpl fun aa fds ars fds' q c cdv A outer s H E hr => hb aa fds ars fds' q c f cdv A outer s H E hr, F.binds hbind, m, g⟩
end
abbrev nF_is_name : List Str := ["text", "sign"]
theorem scF_is_name : FnScope nF_is_name ["text"] (defScope sF_is_name) := ⟨rfl, rfl, rfl, by decide +kernel, rfl, by decide +kernel, by decide +kernel⟩
theorem bkF_is_name {scope : Scope} {own : List (Str × Nat)} (h : blkC nF_is_name (defScope sF_is_name) scope own = true) : BlkOk nF_is_name (defScope sF_is_name) scope own := blkOk_by h
abbrev nF_is_lot : List Str := ["names", "name", "k"]
theorem scF_is_lot : FnScope nF_is_lot ["names"] (defScope sF_is_lot) := ⟨rfl, rfl, rfl, by decide +kernel, rfl, by decide +kernel, by decide +kernel⟩
theorem bkF_is_lot {scope : Scope} {own : List (Str × Nat)} (h : blkC nF_is_lot (defScope sF_is_lot) scope own = true) : BlkOk nF_is_lot (defScope sF_is_lot) scope own := blkOk_by h
abbrev nF_is_lot_of : List Str := ["names", "known", "name"]
theorem scF_is_lot_of : FnScope nF_is_lot_of ["names", "known"] (defScope sF_is_lot_of) := ⟨rfl, rfl, rfl, by decide +kernel, rfl, by decide +kernel, by decide +kernel⟩
theorem bkF_is_lot_of {scope : Scope} {own : List (Str × Nat)} (h : blkC nF_is_lot_of (defScope sF_is_lot_of) scope own = true) : BlkOk nF_is_lot_of (defScope sF_is_lot_of) scope own := blkOk_by h
abbrev nF_are_turned : List Str := ["on", "off", "holds", "name"]
theorem scF_are_turned : FnScope nF_are_turned ["on", "off", "holds"] (defScope sF_are_turned) := ⟨rfl, rfl, rfl, by decide +kernel, rfl, by decide +kernel, by decide +kernel⟩
theorem bkF_are_turned {scope : Scope} {own : List (Str × Nat)} (h : blkC nF_are_turned (defScope sF_are_turned) scope own = true) : BlkOk nF_are_turned (defScope sF_are_turned) scope own := blkOk_by h
abbrev nF_require : List Str := ["holds"]
theorem scF_require : FnScope nF_require ["holds"] (defScope sF_require) := ⟨rfl, rfl, rfl, by decide +kernel, rfl, by decide +kernel, by decide +kernel⟩
theorem bkF_require {scope : Scope} {own : List (Str × Nat)} (h : blkC nF_require (defScope sF_require) scope own = true) : BlkOk nF_require (defScope sF_require) scope own := blkOk_by h
abbrev nF_require_names : List Str := ["names", "least", "most", "name"]
theorem scF_require_names : FnScope nF_require_names ["names", "least", "most"] (defScope sF_require_names) := ⟨rfl, rfl, rfl, by decide +kernel, rfl, by decide +kernel, by decide +kernel⟩
theorem bkF_require_names {scope : Scope} {own : List (Str × Nat)} (h : blkC nF_require_names (defScope sF_require_names) scope own = true) : BlkOk nF_require_names (defScope sF_require_names) scope own := blkOk_by h
abbrev nF_is_effect : List Str := ["on", "off", "to", "holds", "modes"]
theorem scF_is_effect : FnScope nF_is_effect ["on", "off", "to", "holds", "modes"] (defScope sF_is_effect) := ⟨rfl, rfl, rfl, by decide +kernel, rfl, by decide +kernel, by decide +kernel⟩
theorem bkF_is_effect {scope : Scope} {own : List (Str × Nat)} (h : blkC nF_is_effect (defScope sF_is_effect) scope own = true) : BlkOk nF_is_effect (defScope sF_is_effect) scope own := blkOk_by h
abbrev nF_is_step : List Str := ["step", "commands"]
theorem scF_is_step : FnScope nF_is_step ["step", "commands"] (defScope sF_is_step) := ⟨rfl, rfl, rfl, by decide +kernel, rfl, by decide +kernel, by decide +kernel⟩
theorem bkF_is_step {scope : Scope} {own : List (Str × Nat)} (h : blkC nF_is_step (defScope sF_is_step) scope own = true) : BlkOk nF_is_step (defScope sF_is_step) scope own := blkOk_by h
abbrev nF_names_of : List Str := ["parts", "part"]
theorem scF_names_of : FnScope nF_names_of ["parts"] (defScope sF_names_of) := ⟨rfl, rfl, rfl, by decide +kernel, rfl, by decide +kernel, by decide +kernel⟩
theorem bkF_names_of {scope : Scope} {own : List (Str × Nat)} (h : blkC nF_names_of (defScope sF_names_of) scope own = true) : BlkOk nF_names_of (defScope sF_names_of) scope own := blkOk_by h
abbrev nM_Book_init : List Str := ["self", "holds", "modes", "barred", "commands", "alarms", "rows", "quiet", "parts", "known", "named", "ordered", "some", "many", "part", "_", "on", "off", "lot", "to", "steps", "step", "command", "name"]
theorem scM_Book_init : FnScope nM_Book_init ["self", "holds", "modes", "barred", "commands", "alarms", "rows", "quiet"] (defScope sM_Book_init) := ⟨rfl, rfl, rfl, by decide +kernel, rfl, by decide +kernel, by decide +kernel⟩
theorem bkM_Book_init {scope : Scope} {own : List (Str × Nat)} (h : blkC nM_Book_init (defScope sM_Book_init) scope own = true) : BlkOk nM_Book_init (defScope sM_Book_init) scope own := blkOk_by h
abbrev nM_Book_modes : List Str := ["self"]
theorem scM_Book_modes : FnScope nM_Book_modes ["self"] (defScope sM_Book_modes) := ⟨rfl, rfl, rfl, by decide +kernel, rfl, by decide +kernel, by decide +kernel⟩
theorem bkM_Book_modes {scope : Scope} {own : List (Str × Nat)} (h : blkC nM_Book_modes (defScope sM_Book_modes) scope own = true) : BlkOk nM_Book_modes (defScope sM_Book_modes) scope own := blkOk_by h
abbrev nM_Book_commands : List Str := ["self"]
theorem scM_Book_commands : FnScope nM_Book_commands ["self"] (defScope sM_Book_commands) := ⟨rfl, rfl, rfl, by decide +kernel, rfl, by decide +kernel, by decide +kernel⟩
theorem bkM_Book_commands {scope : Scope} {own : List (Str × Nat)} (h : blkC nM_Book_commands (defScope sM_Book_commands) scope own = true) : BlkOk nM_Book_commands (defScope sM_Book_commands) scope own := blkOk_by h
abbrev nM_Book_alarms : List Str := ["self"]
theorem scM_Book_alarms : FnScope nM_Book_alarms ["self"] (defScope sM_Book_alarms) := ⟨rfl, rfl, rfl, by decide +kernel, rfl, by decide +kernel, by decide +kernel⟩
theorem bkM_Book_alarms {scope : Scope} {own : List (Str × Nat)} (h : blkC nM_Book_alarms (defScope sM_Book_alarms) scope own = true) : BlkOk nM_Book_alarms (defScope sM_Book_alarms) scope own := blkOk_by h
abbrev nM_Book_rows : List Str := ["self"]
theorem scM_Book_rows : FnScope nM_Book_rows ["self"] (defScope sM_Book_rows) := ⟨rfl, rfl, rfl, by decide +kernel, rfl, by decide +kernel, by decide +kernel⟩
theorem bkM_Book_rows {scope : Scope} {own : List (Str × Nat)} (h : blkC nM_Book_rows (defScope sM_Book_rows) scope own = true) : BlkOk nM_Book_rows (defScope sM_Book_rows) scope own := blkOk_by h
abbrev nM_Book_quiet : List Str := ["self"]
theorem scM_Book_quiet : FnScope nM_Book_quiet ["self"] (defScope sM_Book_quiet) := ⟨rfl, rfl, rfl, by decide +kernel, rfl, by decide +kernel, by decide +kernel⟩
theorem bkM_Book_quiet {scope : Scope} {own : List (Str × Nat)} (h : blkC nM_Book_quiet (defScope sM_Book_quiet) scope own = true) : BlkOk nM_Book_quiet (defScope sM_Book_quiet) scope own := blkOk_by h
abbrev nM_Book_safe : List Str := ["self"]
theorem scM_Book_safe : FnScope nM_Book_safe ["self"] (defScope sM_Book_safe) := ⟨rfl, rfl, rfl, by decide +kernel, rfl, by decide +kernel, by decide +kernel⟩
theorem bkM_Book_safe {scope : Scope} {own : List (Str × Nat)} (h : blkC nM_Book_safe (defScope sM_Book_safe) scope own = true) : BlkOk nM_Book_safe (defScope sM_Book_safe) scope own := blkOk_by h
abbrev nF_is_order : List Str := ["book", "order", "known"]
theorem scF_is_order : FnScope nF_is_order ["book", "order"] (defScope sF_is_order) := ⟨rfl, rfl, rfl, by decide +kernel, rfl, by decide +kernel, by decide +kernel⟩
theorem bkF_is_order {scope : Scope} {own : List (Str × Nat)} (h : blkC nF_is_order (defScope sF_is_order) scope own = true) : BlkOk nF_is_order (defScope sF_is_order) scope own := blkOk_by h
abbrev nF_is_input : List Str := ["book", "told"]
theorem scF_is_input : FnScope nF_is_input ["book", "told"] (defScope sF_is_input) := ⟨rfl, rfl, rfl, by decide +kernel, rfl, by decide +kernel, by decide +kernel⟩
theorem bkF_is_input {scope : Scope} {own : List (Str × Nat)} (h : blkC nF_is_input (defScope sF_is_input) scope own = true) : BlkOk nF_is_input (defScope sF_is_input) scope own := blkOk_by h
abbrev nF_check_inputs : List Str := ["book", "inputs", "told"]
theorem scF_check_inputs : FnScope nF_check_inputs ["book", "inputs"] (defScope sF_check_inputs) := ⟨rfl, rfl, rfl, by decide +kernel, rfl, by decide +kernel, by decide +kernel⟩
theorem bkF_check_inputs {scope : Scope} {own : List (Str × Nat)} (h : blkC nF_check_inputs (defScope sF_check_inputs) scope own = true) : BlkOk nF_check_inputs (defScope sF_check_inputs) scope own := blkOk_by h
abbrev nM_Step_init : List Str := ["self", "standing", "done", "refused", "moments"]
theorem scM_Step_init : FnScope nM_Step_init ["self", "standing", "done", "refused", "moments"] (defScope sM_Step_init) := ⟨rfl, rfl, rfl, by decide +kernel, rfl, by decide +kernel, by decide +kernel⟩
theorem bkM_Step_init {scope : Scope} {own : List (Str × Nat)} (h : blkC nM_Step_init (defScope sM_Step_init) scope own = true) : BlkOk nM_Step_init (defScope sM_Step_init) scope own := blkOk_by h
abbrev nM_Gears_init : List Str := ["self", "book", "name", "on", "off", "modes", "to", "steps"]
theorem scM_Gears_init : FnScope nM_Gears_init ["self", "book"] (defScope sM_Gears_init) := ⟨rfl, rfl, rfl, by decide +kernel, rfl, by decide +kernel, by decide +kernel⟩
theorem bkM_Gears_init {scope : Scope} {own : List (Str × Nat)} (h : blkC nM_Gears_init (defScope sM_Gears_init) scope own = true) : BlkOk nM_Gears_init (defScope sM_Gears_init) scope own := blkOk_by h
abbrev nF_turned : List Str := ["holds", "on", "off", "hold"]
theorem scF_turned : FnScope nF_turned ["holds", "on", "off"] (defScope sF_turned) := ⟨rfl, rfl, rfl, by decide +kernel, rfl, by decide +kernel, by decide +kernel⟩
theorem bkF_turned {scope : Scope} {own : List (Str × Nat)} (h : blkC nF_turned (defScope sF_turned) scope own = true) : BlkOk nF_turned (defScope sF_turned) scope own := blkOk_by h
abbrev nM_Turn_init : List Str := ["self", "gears", "standing"]
theorem scM_Turn_init : FnScope nM_Turn_init ["self", "gears", "standing"] (defScope sM_Turn_init) := ⟨rfl, rfl, rfl, by decide +kernel, rfl, by decide +kernel, by decide +kernel⟩
theorem bkM_Turn_init {scope : Scope} {own : List (Str × Nat)} (h : blkC nM_Turn_init (defScope sM_Turn_init) scope own = true) : BlkOk nM_Turn_init (defScope sM_Turn_init) scope own := blkOk_by h
abbrev nM_Turn_effect : List Str := ["self", "on", "off", "to"]
theorem scM_Turn_effect : FnScope nM_Turn_effect ["self", "on", "off", "to"] (defScope sM_Turn_effect) := ⟨rfl, rfl, rfl, by decide +kernel, rfl, by decide +kernel, by decide +kernel⟩
theorem bkM_Turn_effect {scope : Scope} {own : List (Str × Nat)} (h : blkC nM_Turn_effect (defScope sM_Turn_effect) scope own = true) : BlkOk nM_Turn_effect (defScope sM_Turn_effect) scope own := blkOk_by h
abbrev nM_Turn_halt : List Str := ["self"]
theorem scM_Turn_halt : FnScope nM_Turn_halt ["self"] (defScope sM_Turn_halt) := ⟨rfl, rfl, rfl, by decide +kernel, rfl, by decide +kernel, by decide +kernel⟩
theorem bkM_Turn_halt {scope : Scope} {own : List (Str × Nat)} (h : blkC nM_Turn_halt (defScope sM_Turn_halt) scope own = true) : BlkOk nM_Turn_halt (defScope sM_Turn_halt) scope own := blkOk_by h
abbrev nM_Turn_begin : List Str := ["self", "row", "place", "steps"]
theorem scM_Turn_begin : FnScope nM_Turn_begin ["self", "row", "place"] (defScope sM_Turn_begin) := ⟨rfl, rfl, rfl, by decide +kernel, rfl, by decide +kernel, by decide +kernel⟩
theorem bkM_Turn_begin {scope : Scope} {own : List (Str × Nat)} (h : blkC nM_Turn_begin (defScope sM_Turn_begin) scope own = true) : BlkOk nM_Turn_begin (defScope sM_Turn_begin) scope own := blkOk_by h
abbrev nM_Turn_command : List Str := ["self", "name", "modes", "on", "off", "to"]
theorem scM_Turn_command : FnScope nM_Turn_command ["self", "name"] (defScope sM_Turn_command) := ⟨rfl, rfl, rfl, by decide +kernel, rfl, by decide +kernel, by decide +kernel⟩
theorem bkM_Turn_command {scope : Scope} {own : List (Str × Nat)} (h : blkC nM_Turn_command (defScope sM_Turn_command) scope own = true) : BlkOk nM_Turn_command (defScope sM_Turn_command) scope own := blkOk_by h
abbrev nM_Turn_answer : List Str := ["self", "alarms", "name", "on", "off", "to"]
theorem scM_Turn_answer : FnScope nM_Turn_answer ["self", "alarms"] (defScope sM_Turn_answer) := ⟨rfl, rfl, rfl, by decide +kernel, rfl, by decide +kernel, by decide +kernel⟩
theorem bkM_Turn_answer {scope : Scope} {own : List (Str × Nat)} (h : blkC nM_Turn_answer (defScope sM_Turn_answer) scope own = true) : BlkOk nM_Turn_answer (defScope sM_Turn_answer) scope own := blkOk_by h
abbrev nM_Turn_obey : List Str := ["self", "order"]
theorem scM_Turn_obey : FnScope nM_Turn_obey ["self", "order"] (defScope sM_Turn_obey) := ⟨rfl, rfl, rfl, by decide +kernel, rfl, by decide +kernel, by decide +kernel⟩
theorem bkM_Turn_obey {scope : Scope} {own : List (Str × Nat)} (h : blkC nM_Turn_obey (defScope sM_Turn_obey) scope own = true) : BlkOk nM_Turn_obey (defScope sM_Turn_obey) scope own := blkOk_by h
abbrev nM_Turn_wait : List Str := ["self"]
theorem scM_Turn_wait : FnScope nM_Turn_wait ["self"] (defScope sM_Turn_wait) := ⟨rfl, rfl, rfl, by decide +kernel, rfl, by decide +kernel, by decide +kernel⟩
theorem bkM_Turn_wait {scope : Scope} {own : List (Str × Nat)} (h : blkC nM_Turn_wait (defScope sM_Turn_wait) scope own = true) : BlkOk nM_Turn_wait (defScope sM_Turn_wait) scope own := blkOk_by h
abbrev nM_Turn_go_on : List Str := ["self", "row", "place"]
theorem scM_Turn_go_on : FnScope nM_Turn_go_on ["self"] (defScope sM_Turn_go_on) := ⟨rfl, rfl, rfl, by decide +kernel, rfl, by decide +kernel, by decide +kernel⟩
theorem bkM_Turn_go_on {scope : Scope} {own : List (Str × Nat)} (h : blkC nM_Turn_go_on (defScope sM_Turn_go_on) scope own = true) : BlkOk nM_Turn_go_on (defScope sM_Turn_go_on) scope own := blkOk_by h
abbrev nM_Turn_step : List Str := ["self", "standing"]
theorem scM_Turn_step : FnScope nM_Turn_step ["self"] (defScope sM_Turn_step) := ⟨rfl, rfl, rfl, by decide +kernel, rfl, by decide +kernel, by decide +kernel⟩
theorem bkM_Turn_step {scope : Scope} {own : List (Str × Nat)} (h : blkC nM_Turn_step (defScope sM_Turn_step) scope own = true) : BlkOk nM_Turn_step (defScope sM_Turn_step) scope own := blkOk_by h
abbrev nF_tick_by : List Str := ["gears", "standing", "alarms", "order", "turn", "is_begun"]
theorem scF_tick_by : FnScope nF_tick_by ["gears", "standing", "alarms", "order"] (defScope sF_tick_by) := ⟨rfl, rfl, rfl, by decide +kernel, rfl, by decide +kernel, by decide +kernel⟩
theorem bkF_tick_by {scope : Scope} {own : List (Str × Nat)} (h : blkC nF_tick_by (defScope sF_tick_by) scope own = true) : BlkOk nF_tick_by (defScope sF_tick_by) scope own := blkOk_by h
abbrev nF_order_of : List Str := ["standing", "mode", "lot", "row", "place", "left", "silence"]
theorem scF_order_of : FnScope nF_order_of ["standing"] (defScope sF_order_of) := ⟨rfl, rfl, rfl, by decide +kernel, rfl, by decide +kernel, by decide +kernel⟩
theorem bkF_order_of {scope : Scope} {own : List (Str × Nat)} (h : blkC nF_order_of (defScope sF_order_of) scope own = true) : BlkOk nF_order_of (defScope sF_order_of) scope own := blkOk_by h
abbrev nF_ascending : List Str := ["standings", "standing"]
theorem scF_ascending : FnScope nF_ascending ["standings"] (defScope sF_ascending) := ⟨rfl, rfl, rfl, by decide +kernel, rfl, by decide +kernel, by decide +kernel⟩
theorem bkF_ascending {scope : Scope} {own : List (Str × Nat)} (h : blkC nF_ascending (defScope sF_ascending) scope own = true) : BlkOk nF_ascending (defScope sF_ascending) scope own := blkOk_by h
abbrev nF_orders_of : List Str := ["book", "found", "command", "name", "row"]
theorem scF_orders_of : FnScope nF_orders_of ["book"] (defScope sF_orders_of) := ⟨rfl, rfl, rfl, by decide +kernel, rfl, by decide +kernel, by decide +kernel⟩
theorem bkF_orders_of {scope : Scope} {own : List (Str × Nat)} (h : blkC nF_orders_of (defScope sF_orders_of) scope own = true) : BlkOk nF_orders_of (defScope sF_orders_of) scope own := blkOk_by h
abbrev nF_lots_of : List Str := ["names", "found", "many"]
theorem scF_lots_of : FnScope nF_lots_of ["names"] (defScope sF_lots_of) := ⟨rfl, rfl, rfl, by decide +kernel, rfl, by decide +kernel, by decide +kernel⟩
theorem bkF_lots_of {scope : Scope} {own : List (Str × Nat)} (h : blkC nF_lots_of (defScope sF_lots_of) scope own = true) : BlkOk nF_lots_of (defScope sF_lots_of) scope own := blkOk_by h
abbrev nF_meets : List Str := ["standing", "wish", "mode", "on", "off", "hold"]
theorem scF_meets : FnScope nF_meets ["standing", "wish"] (defScope sF_meets) := ⟨rfl, rfl, rfl, by decide +kernel, rfl, by decide +kernel, by decide +kernel⟩
theorem bkF_meets {scope : Scope} {own : List (Str × Nat)} (h : blkC nF_meets (defScope sF_meets) scope own = true) : BlkOk nF_meets (defScope sF_meets) scope own := blkOk_by h
abbrev nF_all_meet : List Str := ["crowd", "wish", "standing"]
theorem scF_all_meet : FnScope nF_all_meet ["crowd", "wish"] (defScope sF_all_meet) := ⟨rfl, rfl, rfl, by decide +kernel, rfl, by decide +kernel, by decide +kernel⟩
theorem bkF_all_meet {scope : Scope} {own : List (Str × Nat)} (h : blkC nF_all_meet (defScope sF_all_meet) scope own = true) : BlkOk nF_all_meet (defScope sF_all_meet) scope own := blkOk_by h
abbrev nF_coming : List Str := ["gears", "crowd", "order", "lots", "standing", "lot"]
theorem scF_coming : FnScope nF_coming ["gears", "crowd", "order", "lots"] (defScope sF_coming) := ⟨rfl, rfl, rfl, by decide +kernel, rfl, by decide +kernel, by decide +kernel⟩
theorem bkF_coming {scope : Scope} {own : List (Str × Nat)} (h : blkC nF_coming (defScope sF_coming) scope own = true) : BlkOk nF_coming (defScope sF_coming) scope own := blkOk_by h
abbrev nF_check_orders : List Str := ["book", "orders", "order"]
theorem scF_check_orders : FnScope nF_check_orders ["book", "orders"] (defScope sF_check_orders) := ⟨rfl, rfl, rfl, by decide +kernel, rfl, by decide +kernel, by decide +kernel⟩
theorem bkF_check_orders {scope : Scope} {own : List (Str × Nat)} (h : blkC nF_check_orders (defScope sF_check_orders) scope own = true) : BlkOk nF_check_orders (defScope sF_check_orders) scope own := blkOk_by h
abbrev nF_brings : List Str := ["book", "crowd", "orders", "wish", "alarms", "gears", "lots", "order"]
theorem scF_brings : FnScope nF_brings ["book", "crowd", "orders", "wish", "alarms"] (defScope sF_brings) := ⟨rfl, rfl, rfl, by decide +kernel, rfl, by decide +kernel, by decide +kernel⟩
theorem bkF_brings {scope : Scope} {own : List (Str × Nat)} (h : blkC nF_brings (defScope sF_brings) scope own = true) : BlkOk nF_brings (defScope sF_brings) scope own := blkOk_by h
abbrev nF_best_row : List Str := ["book", "crowd", "wish", "alarms", "most", "gears", "lots", "rows", "known", "turn", "some", "row", "later", "order", "behind"]
theorem scF_best_row : FnScope nF_best_row ["book", "crowd", "wish", "alarms", "most"] (defScope sF_best_row) := ⟨rfl, rfl, rfl, by decide +kernel, rfl, by decide +kernel, by decide +kernel⟩
theorem bkF_best_row {scope : Scope} {own : List (Str × Nat)} (h : blkC nF_best_row (defScope sF_best_row) scope own = true) : BlkOk nF_best_row (defScope sF_best_row) scope own := blkOk_by h
abbrev nF_none_paper : List Str := ["book", "crowd", "wish", "alarms", "most", "gears", "lots", "lists", "turn", "later", "some", "order", "crowds"]
theorem scF_none_paper : FnScope nF_none_paper ["book", "crowd", "wish", "alarms", "most"] (defScope sF_none_paper) := ⟨rfl, rfl, rfl, by decide +kernel, rfl, by decide +kernel, by decide +kernel⟩
theorem bkF_none_paper {scope : Scope} {own : List (Str × Nat)} (h : blkC nF_none_paper (defScope sF_none_paper) scope own = true) : BlkOk nF_none_paper (defScope sF_none_paper) scope own := blkOk_by h
abbrev nF_has_part : List Str := ["crowds", "crowd", "standing", "some"]
theorem scF_has_part : FnScope nF_has_part ["crowds", "crowd"] (defScope sF_has_part) := ⟨rfl, rfl, rfl, by decide +kernel, rfl, by decide +kernel, by decide +kernel⟩
theorem bkF_has_part {scope : Scope} {own : List (Str × Nat)} (h : blkC nF_has_part (defScope sF_has_part) scope own = true) : BlkOk nF_has_part (defScope sF_has_part) scope own := blkOk_by h
abbrev nF_check_none : List Str := ["book", "crowd", "wish", "alarms", "paper", "gears", "lots", "place", "some", "order", "crowds"]
theorem scF_check_none : FnScope nF_check_none ["book", "crowd", "wish", "alarms", "paper"] (defScope sF_check_none) := ⟨rfl, rfl, rfl, by decide +kernel, rfl, by decide +kernel, by decide +kernel⟩
theorem bkF_check_none {scope : Scope} {own : List (Str × Nat)} (h : blkC nF_check_none (defScope sF_check_none) scope own = true) : BlkOk nF_check_none (defScope sF_check_none) scope own := blkOk_by h
abbrev nF__law_row : List Str := ["_law_cell", "_law_many", "_law_row_here", "_law_rest", "_law_state", "_law_k"]
theorem scF__law_row : FnScope nF__law_row ["_law_cell", "_law_many"] (defScope sF__law_row) := ⟨rfl, rfl, rfl, by decide +kernel, rfl, by decide +kernel, by decide +kernel⟩
theorem bkF__law_row {scope : Scope} {own : List (Str × Nat)} (h : blkC nF__law_row (defScope sF__law_row) scope own = true) : BlkOk nF__law_row (defScope sF__law_row) scope own := blkOk_by h
abbrev nF__law_numbers : List Str := ["_law_script", "_law_many", "_law_cells", "_law_each", "_law_numbers_here", "_law_cell", "_law_number"]
theorem scF__law_numbers : FnScope nF__law_numbers ["_law_script", "_law_many"] (defScope sF__law_numbers) := ⟨rfl, rfl, rfl, by decide +kernel, rfl, by decide +kernel, by decide +kernel⟩
theorem bkF__law_numbers {scope : Scope} {own : List (Str × Nat)} (h : blkC nF__law_numbers (defScope sF__law_numbers) scope own = true) : BlkOk nF__law_numbers (defScope sF__law_numbers) scope own := blkOk_by h
abbrev nF__law_pick : List Str := ["_law_names", "_law_number", "_law_without", "_law_found", "_law_rest", "_law_name"]
theorem scF__law_pick : FnScope nF__law_pick ["_law_names", "_law_number", "_law_without"] (defScope sF__law_pick) := ⟨rfl, rfl, rfl, by decide +kernel, rfl, by decide +kernel, by decide +kernel⟩
theorem bkF__law_pick {scope : Scope} {own : List (Str × Nat)} (h : blkC nF__law_pick (defScope sF__law_pick) scope own = true) : BlkOk nF__law_pick (defScope sF__law_pick) scope own := blkOk_by h
abbrev nF__law_effect : List Str := ["_law_holds", "_law_modes", "_law_numbers_here", "_law_at", "_law_on", "_law_off"]
theorem scF__law_effect : FnScope nF__law_effect ["_law_holds", "_law_modes", "_law_numbers_here", "_law_at"] (defScope sF__law_effect) := ⟨rfl, rfl, rfl, by decide +kernel, rfl, by decide +kernel, by decide +kernel⟩
theorem bkF__law_effect {scope : Scope} {own : List (Str × Nat)} (h : blkC nF__law_effect (defScope sF__law_effect) scope own = true) : BlkOk nF__law_effect (defScope sF__law_effect) scope own := blkOk_by h
abbrev nF__law_parts : List Str := ["_law_numbers_here", "_law_at", "_law_holds", "_law_modes", "_law_found", "_law_k", "_law_on", "_law_off", "_law_to", "_law_barred", "_law_lot", "_law_commands", "_law_alarms", "_law_rows", "_law_steps", "_law_j", "_law_quiet"]
theorem scF__law_parts : FnScope nF__law_parts ["_law_numbers_here", "_law_at"] (defScope sF__law_parts) := ⟨rfl, rfl, rfl, by decide +kernel, rfl, by decide +kernel, by decide +kernel⟩
theorem bkF__law_parts {scope : Scope} {own : List (Str × Nat)} (h : blkC nF__law_parts (defScope sF__law_parts) scope own = true) : BlkOk nF__law_parts (defScope sF__law_parts) scope own := blkOk_by h
abbrev nF__law_made : List Str := ["_law_parts_here", "_law_holds", "_law_modes", "_law_barred", "_law_commands", "_law_alarms", "_law_rows", "_law_quiet"]
theorem scF__law_made : FnScope nF__law_made ["_law_parts_here"] (defScope sF__law_made) := ⟨rfl, rfl, rfl, by decide +kernel, rfl, by decide +kernel, by decide +kernel⟩
theorem bkF__law_made {scope : Scope} {own : List (Str × Nat)} (h : blkC nF__law_made (defScope sF__law_made) scope own = true) : BlkOk nF__law_made (defScope sF__law_made) scope own := blkOk_by h
abbrev nF__law_turned : List Str := ["_law_on", "_law_off", "_law_more", "_law_hold"]
theorem scF__law_turned : FnScope nF__law_turned ["_law_on", "_law_off", "_law_more"] (defScope sF__law_turned) := ⟨rfl, rfl, rfl, by decide +kernel, rfl, by decide +kernel, by decide +kernel⟩
theorem bkF__law_turned {scope : Scope} {own : List (Str × Nat)} (h : blkC nF__law_turned (defScope sF__law_turned) scope own = true) : BlkOk nF__law_turned (defScope sF__law_turned) scope own := blkOk_by h
abbrev nF__law_after : List Str := ["_law_parts_here", "_law_mode", "_law_on", "_law_effect_here", "_law_entered", "_law_some"]
theorem scF__law_after : FnScope nF__law_after ["_law_parts_here", "_law_mode", "_law_on", "_law_effect_here"] (defScope sF__law_after) := ⟨rfl, rfl, rfl, by decide +kernel, rfl, by decide +kernel, by decide +kernel⟩
theorem bkF__law_after {scope : Scope} {own : List (Str × Nat)} (h : blkC nF__law_after (defScope sF__law_after) scope own = true) : BlkOk nF__law_after (defScope sF__law_after) scope own := blkOk_by h
abbrev nF__law_start : List Str := ["_law_parts_here", "_law_first_here", "_law_mode", "_law_on"]
theorem scF__law_start : FnScope nF__law_start ["_law_parts_here"] (defScope sF__law_start) := ⟨rfl, rfl, rfl, by decide +kernel, rfl, by decide +kernel, by decide +kernel⟩
theorem bkF__law_start {scope : Scope} {own : List (Str × Nat)} (h : blkC nF__law_start (defScope sF__law_start) scope own = true) : BlkOk nF__law_start (defScope sF__law_start) scope own := blkOk_by h
abbrev nF__law_tick : List Str := ["_law_parts_here", "_law_state", "_law_alarms", "_law_order", "_law_mode", "_law_on", "_law_row_here", "_law_place", "_law_left", "_law_silence", "_law_done", "_law_refused", "_law_moments", "_law_fresh", "_law_name", "_law_more", "_law_less", "_law_to", "_law_command", "_law_steps", "_law_some"]
theorem scF__law_tick : FnScope nF__law_tick ["_law_parts_here", "_law_state", "_law_alarms", "_law_order"] (defScope sF__law_tick) := ⟨rfl, rfl, rfl, by decide +kernel, rfl, by decide +kernel, by decide +kernel⟩
theorem bkF__law_tick {scope : Scope} {own : List (Str × Nat)} (h : blkC nF__law_tick (defScope sF__law_tick) scope own = true) : BlkOk nF__law_tick (defScope sF__law_tick) scope own := blkOk_by h
abbrev nF__law_inputs : List Str := ["_law_parts_here", "_law_names", "_law_lots", "_law_orders", "_law_found", "_law_lot", "_law_order", "_law_part", "_law_name"]
theorem scF__law_inputs : FnScope nF__law_inputs ["_law_parts_here"] (defScope sF__law_inputs) := ⟨rfl, rfl, rfl, by decide +kernel, rfl, by decide +kernel, by decide +kernel⟩
theorem bkF__law_inputs {scope : Scope} {own : List (Str × Nat)} (h : blkC nF__law_inputs (defScope sF__law_inputs) scope own = true) : BlkOk nF__law_inputs (defScope sF__law_inputs) scope own := blkOk_by h
abbrev nF__law_crowd : List Str := ["_law_parts_here", "_law_numbers_here", "_law_at", "_law_menu", "_law_found", "_law_k", "_law_state", "_law_j", "_law_told_here"]
theorem scF__law_crowd : FnScope nF__law_crowd ["_law_parts_here", "_law_numbers_here", "_law_at"] (defScope sF__law_crowd) := ⟨rfl, rfl, rfl, by decide +kernel, rfl, by decide +kernel, by decide +kernel⟩
theorem bkF__law_crowd {scope : Scope} {own : List (Str × Nat)} (h : blkC nF__law_crowd (defScope sF__law_crowd) scope own = true) : BlkOk nF__law_crowd (defScope sF__law_crowd) scope own := blkOk_by h
abbrev nF__law_comes : List Str := ["_law_parts_here", "_law_crowd_here", "_law_order", "_law_lots", "_law_found", "_law_state", "_law_lot", "_law_after_here"]
theorem scF__law_comes : FnScope nF__law_comes ["_law_parts_here", "_law_crowd_here", "_law_order", "_law_lots"] (defScope sF__law_comes) := ⟨rfl, rfl, rfl, by decide +kernel, rfl, by decide +kernel, by decide +kernel⟩
theorem bkF__law_comes {scope : Scope} {own : List (Str × Nat)} (h : blkC nF__law_comes (defScope sF__law_comes) scope own = true) : BlkOk nF__law_comes (defScope sF__law_comes) scope own := blkOk_by h
abbrev nF__law_meets : List Str := ["_law_state", "_law_wish", "_law_hold"]
theorem scF__law_meets : FnScope nF__law_meets ["_law_state", "_law_wish"] (defScope sF__law_meets) := ⟨rfl, rfl, rfl, by decide +kernel, rfl, by decide +kernel, by decide +kernel⟩
theorem bkF__law_meets {scope : Scope} {own : List (Str × Nat)} (h : blkC nF__law_meets (defScope sF__law_meets) scope own = true) : BlkOk nF__law_meets (defScope sF__law_meets) scope own := blkOk_by h
abbrev nF__law_brings : List Str := ["_law_parts_here", "_law_crowd_here", "_law_row_here", "_law_wish", "_law_lots", "_law_order", "_law_state"]
theorem scF__law_brings : FnScope nF__law_brings ["_law_parts_here", "_law_crowd_here", "_law_row_here", "_law_wish", "_law_lots"] (defScope sF__law_brings) := ⟨rfl, rfl, rfl, by decide +kernel, rfl, by decide +kernel, by decide +kernel⟩
theorem bkF__law_brings {scope : Scope} {own : List (Str × Nat)} (h : blkC nF__law_brings (defScope sF__law_brings) scope own = true) : BlkOk nF__law_brings (defScope sF__law_brings) scope own := blkOk_by h
abbrev nF__law_some_row : List Str := ["_law_parts_here", "_law_crowd_here", "_law_orders", "_law_many", "_law_wish", "_law_lots", "_law_state", "_law_order"]
theorem scF__law_some_row : FnScope nF__law_some_row ["_law_parts_here", "_law_crowd_here", "_law_orders", "_law_many", "_law_wish", "_law_lots"] (defScope sF__law_some_row) := ⟨rfl, rfl, rfl, by decide +kernel, rfl, by decide +kernel, by decide +kernel⟩
theorem bkF__law_some_row {scope : Scope} {own : List (Str × Nat)} (h : blkC nF__law_some_row (defScope sF__law_some_row) scope own = true) : BlkOk nF__law_some_row (defScope sF__law_some_row) scope own := blkOk_by h
abbrev nF__law_key : List Str := ["_law_state"]
theorem scF__law_key : FnScope nF__law_key ["_law_state"] (defScope sF__law_key) := ⟨rfl, rfl, rfl, by decide +kernel, rfl, by decide +kernel, by decide +kernel⟩
theorem bkF__law_key {scope : Scope} {own : List (Str × Nat)} (h : blkC nF__law_key (defScope sF__law_key) scope own = true) : BlkOk nF__law_key (defScope sF__law_key) scope own := blkOk_by h
abbrev nF_law : List Str := ["_law_script", "_law_numbers_here", "_law_parts_here", "_law_book", "_law_crowd_here", "_law_names", "_law_lots", "_law_on", "_law_wish", "_law_orders", "_law_most", "_law_row_here", "_law_paper", "_law_part", "_law_name", "_law_mode", "_law_many", "_law_order"]
theorem scF_law : FnScope nF_law ["_law_script"] (defScope sF_law) := ⟨rfl, rfl, rfl, by decide +kernel, rfl, by decide +kernel, by decide +kernel⟩
theorem bkF_law {scope : Scope} {own : List (Str × Nat)} (h : blkC nF_law (defScope sF_law) scope own = true) : BlkOk nF_law (defScope sF_law) scope own := blkOk_by h
end Fw
set_option maxHeartbeats 1000000
namespace Fw
open PySem PySem.Spec PyProof.Rows L2

structure Std where
  mode : Str
  lot : List Str
  row : Option Str
  place : Int
  left : Int
  sil : Int
  deriving DecidableEq
structure Wish where
  mode : Option Str
  on : List Str
  off : List Str
structure Md where
  name : Str
  on : List Str
  off : List Str
  deriving Inhabited
structure Cm where
  name : Str
  modes : List Str
  on : List Str
  off : List Str
  to : Option Str
  deriving Inhabited
structure Al where
  name : Str
  on : List Str
  off : List Str
  to : Option Str
  deriving Inhabited
structure Rw where
  name : Str
  steps : List (Int × Str)
  deriving Inhabited
structure Bok where
  holds : List Str
  modes : List Md
  barred : List (List Str)
  commands : List Cm
  alarms : List Al
  rows : List Rw
  quiet : Option Int
inductive Ord where
  | no
  | doo (x : Str)
  | run (x : Str)
  | stop
  deriving DecidableEq

def eL (xs : List Str) : D := .tuple (xs.map .str)
def eO : Option Str → D
  | none => .none
  | some x => .str x
def eI : Option Int → D
  | none => .none
  | some x => .int x
def eS (s : Std) : D := .tuple [.str s.mode, eL s.lot, eO s.row, .int s.place, .int s.left, .int s.sil]
def eW (w : Wish) : D := .tuple [eO w.mode, eL w.on, eL w.off]
def eMd (m : Md) : D := .tuple [.str m.name, eL m.on, eL m.off]
def eCm (c : Cm) : D := .tuple [.str c.name, eL c.modes, eL c.on, eL c.off, eO c.to]
def eAl (a : Al) : D := .tuple [.str a.name, eL a.on, eL a.off, eO a.to]
def eSt (p : Int × Str) : D := .tuple [.int p.1, .str p.2]
def eRw (r : Rw) : D := .tuple [.str r.name, .tuple (r.steps.map eSt)]
def eOr : Ord → D
  | .no => .none
  | .doo x => .tuple [.str "do", .str x]
  | .run x => .tuple [.str "run", .str x]
  | .stop => .tuple [.str "stop"]

namespace Bok
variable (B : Bok)
def safe : Str := (B.modes.headD default).name
def modeOf (x : Str) : Md := (B.modes.find? fun m => decide (m.name = x)).getD default
def cmdOf (x : Str) : Cm := (B.commands.find? fun m => decide (m.name = x)).getD default
def rowOf (x : Str) : Rw := (B.rows.find? fun m => decide (m.name = x)).getD default
/-- the commands by their names -/
def cmds : List Cm := (sortS (B.commands.map (·.name))).map B.cmdOf
end Bok

def turnedM (holds on off : List Str) : List Str := setS (holds.filter (fun h => !decide (h ∈ off)) ++ on)
def effM (B : Bok) (s : Std) (on off : List Str) : Option Str → Std
  | none => { s with lot := turnedM s.lot on off }
  | some t => { s with mode := t, lot := turnedM (turnedM s.lot on off) (B.modeOf t).on (B.modeOf t).off }
def haltM (s : Std) : Std := { s with row := none, place := 0, left := 0 }
def beginM (B : Bok) (s : Std) (row : Str) (place : Int) : Std :=
  if place = ((B.rowOf row).steps.length : Int) then haltM s else { s with row := some row, place := place, left := ((B.rowOf row).steps.getD place.toNat default).1 }
def cmdOk (B : Bok) (s : Std) (name : Str) : Bool := decide (s.mode ∈ (B.cmdOf name).modes)
def cmdM (B : Bok) (s : Std) (name : Str) : Std := if cmdOk B s name then effM B s (B.cmdOf name).on (B.cmdOf name).off (B.cmdOf name).to else s
def ansM (B : Bok) (alarms : List Str) (s : Std) (a : Al) : Std := if a.name ∈ alarms then haltM (effM B s a.on a.off a.to) else s
def answerM (B : Bok) (s : Std) (alarms : List Str) : Std := B.alarms.foldl (ansM B alarms) s
def obeyM (B : Bok) (s : Std) : Ord → Std
  | .no => s
  | .doo x => cmdM B { s with sil := 0 } x
  | .run x => beginM B { s with sil := 0 } x 0
  | .stop => haltM { s with sil := 0 }
def waitM (B : Bok) (s : Std) : Std := match B.quiet with
  | none => s
  | some q => if s.sil + 1 = q then { haltM (effM B { s with sil := s.sil + 1 } [] [] (some B.safe)) with sil := 0 } else { s with sil := s.sil + 1 }
def goM (B : Bok) (s : Std) : Std := match s.row with
  | none => s
  | some r => if s.left - 1 = 0 then beginM B (cmdM B { s with left := s.left - 1 } ((B.rowOf r).steps.getD s.place.toNat default).2) r (s.place + 1) else { s with left := s.left - 1 }
def isRun : Ord → Bool
  | .run _ => true
  | _ => false
def tickM (B : Bok) (s : Std) (alarms : List Str) (o : Ord) : Std :=
  let s1 := answerM B s alarms
  let s2 := match o with
    | .no => waitM B s1
    | o => obeyM B s1 o
  if isRun o then s2 else goM B s2
def meetsM (s : Std) (w : Wish) : Bool := (match w.mode with | none => true | some m => decide (s.mode = m)) && (w.on.all (fun h => decide (h ∈ s.lot)) && !w.off.any (fun h => decide (h ∈ s.lot)))
/-- what the ordering asks of a standing -/
def eK (s : Std) : D := .tuple [.str s.mode, eL s.lot, .str (s.row.getD ""), .int s.place, .int s.left, .int s.sil]

/-- a part of the holds -/
structure VT (B : Bok) (xs : List Str) : Prop where
  up : Up xs
  sub : ∀ x ∈ xs, x ∈ B.holds
def VTo (B : Bok) (to : Option Str) : Prop := ∀ t, to = some t → t ∈ B.modes.map (·.name)
structure VB (B : Bok) : Prop where
  hn : B.holds.Nodup
  hl : B.holds.length ≤ 6
  mn : (B.modes.map (·.name)).Nodup
  ml : B.modes.length ≤ 5
  m0 : B.modes ≠ []
  md : ∀ m ∈ B.modes, VT B m.on ∧ VT B m.off
  cn : (B.commands.map (·.name)).Nodup
  cl : B.commands.length ≤ 8
  cm : ∀ c ∈ B.commands, VT B c.on ∧ VT B c.off ∧ VTo B c.to
  an : (B.alarms.map (·.name)).Nodup
  al : B.alarms.length ≤ 4
  am : ∀ c ∈ B.alarms, VT B c.on ∧ VT B c.off ∧ VTo B c.to
  rn : (B.rows.map (·.name)).Nodup
  rl : B.rows.length ≤ 3
  rm : ∀ r ∈ B.rows, r.steps ≠ [] ∧ r.steps.length ≤ 4 ∧ ∀ p ∈ r.steps, 1 ≤ p.1 ∧ p.1 ≤ 9 ∧ p.2 ∈ B.commands.map (·.name)
  so : ∀ x, (x ∈ B.holds ∨ x ∈ B.modes.map (·.name)) ∨ (x ∈ B.commands.map (·.name) ∨ x ∈ B.rows.map (·.name)) → PyData.strOk x = true
structure VS (B : Bok) (s : Std) : Prop where
  mo : s.mode ∈ B.modes.map (·.name)
  lo : VT B s.lot
  ro : ∀ r, s.row = some r → r ∈ B.rows.map (·.name) ∧ 0 ≤ s.place ∧ s.place < ((B.rowOf r).steps.length : Int)
def VO (B : Bok) : Ord → Prop
  | .doo x => x ∈ B.commands.map (·.name)
  | .run x => x ∈ B.rows.map (·.name)
  | _ => True
end Fw
set_option maxHeartbeats 1000000
namespace Fw
open PySem PySem.Spec PyProof.Rows L2
section
variable {P : Program} {w0 : World} {K : PySem.W.Frag} {mg : Str → Option Value} {base : Heap}
theorem isNo_eO {x : Option Str} : isNo (eO x) = x.isNone := by cases x <;> rfl
def cMeets (ars : List Ar) (q : Ar) : Prop := ∃ s w, ars = [.d (eS s), .d (eW w)] ∧ q = .d (.bool (meetsM s w))
theorem ok_meets (T : DefAt K mg "meets" sF_meets) (B : Bt mg) : Okd P w0 K mg base 1 "meets" ["standing", "wish"] cMeets := by
  refine okd_mk T scF_meets (fun _ _ _ _ _ _ us hl => match us, hl with | [_, _], _ => rfl) (fun ars q ⟨s, w, e, _⟩ => by rw [e]; rfl) (by decide) fun ars q c f cdv A outer s H E hr => ?_
  obtain ⟨s, w, rfl, rfl⟩ := c
  refine sd_cons (sd_asg (pd_var 1) (gd_tup rfl (gds_cons (gd_name 2 scF_meets.nd) (gds_cons (gd_name 3 scF_meets.nd) (gds_cons (gd_name 4 scF_meets.nd) gds_nil)))) ?_)
  obtain ⟨wm, won, woff⟩ := w
  have fin : ∀ E : DE, ∀ δ, δ = ((((startD nF_meets [.d (eS s), .d (eW ⟨wm, won, woff⟩)]).set 2 (.va (.d (eO wm)))).set 3 (.va (.d (eL won)))).set 4 (.va (.d (eL woff)))) → (∀ q', q' = .d (.bool ((won.all fun h => decide (h ∈ s.lot)) && !woff.any fun h => decide (h ∈ s.lot))) → E.rt q') → E.rs = (fun _ => True) → SD (Fx P w0 K mg base nF_meets "meets" sF_meets f cdv A outer ‹Shared› H ‹XK›) ((defBody sF_meets).drop 2) δ E := fun E δ hδ hE hs => by
    subst hδ
    refine sd_one (sd_ret (pd_and (pd_allT (g := fun h => decide (h ∈ s.lot)) B rfl (PF.pd (pf_lc0 (own := [("hold", 5)]) (enc := .str) (xs := won) rfl scF_meets.nd (pd_var 3) rfl (bkF_meets (by decide +kernel)) fun x hx => ⟨_, _, fun _ _ _ _ _ => gd_name 5 scF_meets.nd, by decide, fun _ _ _ _ _ => pd_in (pd_var 5) (pd_ixt (pd_var 0) pd_int rfl) (.inr rfl)⟩)))
      fun _ => pd_one (pd_not (pd_anyT (g := fun h => decide (h ∈ s.lot)) B rfl (PF.pd (pf_lc0 (own := [("hold", 5)]) (enc := .str) (xs := woff) rfl scF_meets.nd (pd_var 4) rfl (bkF_meets (by decide +kernel)) fun x hx => ⟨_, _, fun _ _ _ _ _ => gd_name 5 scF_meets.nd, by decide, fun _ _ _ _ _ => pd_in (pd_var 5) (pd_ixt (pd_var 0) pd_int rfl) (.inr rfl)⟩))))) (hE _ rfl) (by rw [hs]; trivial))
  cases wm with
  | none => exact sd_cons (sd_if (q := !isNo (eO none) && false) (PWD.ptd (pwd_and (ptd_notn (pd_var 2) pd_non) nofun)) nofun fun h => sd_nil (fin _ _ rfl (fun q' e => e) rfl))
  | some m =>
    refine sd_cons (sd_if (q := !isNo (eO (some m)) && !decide (s.mode = m)) (PWD.ptd (pwd_and (ptd_notn (pd_var 2) pd_non) fun h => pwd_and1 (ptd_nes (pd_ixt (pd_var 0) pd_int rfl) (pd_var 2)))) (fun h => sd_one (sd_ret pd_bl ?_)) fun h => sd_nil (fin _ _ rfl (fun q' e => ?_) rfl))
    · have h' : ¬ s.mode = m := by simpa [isNo, eO] using h
      simp [meetsM, h']
    · have h' : s.mode = m := by simpa [isNo, eO] using h
      rw [e]
      simp [meetsM, h']
def allM (crowd : List Std) (w : Wish) : Bool := crowd.all fun s => meetsM s w
def cAllMeet (ars : List Ar) (q : Ar) : Prop := ∃ (cr : List Std) (d : D) (w : Wish), seqD d = some (cr.map eS) ∧ ars = [.d d, .d (eW w)] ∧ q = .d (.bool (allM cr w))
theorem ok_all_meet (T : DefAt K mg "all_meet" sF_all_meet) (B : Bt mg) (O1 : Okd P w0 K mg base 1 "meets" ["standing", "wish"] cMeets) : Okd P w0 K mg base 2 "all_meet" ["crowd", "wish"] cAllMeet := by
  refine okd_mk T scF_all_meet (fun _ _ _ _ _ _ us hl => match us, hl with | [_, _], _ => rfl) (fun ars q ⟨s, d, w, _, e, _⟩ => by rw [e]; rfl) (by decide) fun ars q c f cdv A outer s H E hr => ?_
  obtain ⟨cr, d, w, hd, rfl, rfl⟩ := c
  exact sd_one (sd_ret (pd_allT (g := fun s => meetsM s w) B rfl (PF.pd (pf_lc0 (own := [("standing", 2)]) (enc := eS) (xs := cr) rfl scF_all_meet.nd (pd_var 0) hd (bkF_all_meet (by decide +kernel)) fun x hx => ⟨_, _, fun _ _ _ _ _ => gd_name 2 scF_all_meet.nd, by decide, fun _ _ _ _ _ => pd_call O1 hr (pad_cons (pd_var 2) (pad_cons (pd_var 1) pad_nil)) ⟨x, w, rfl, rfl⟩⟩))) rfl)
def cTurned (ars : List Ar) (q : Ar) : Prop := ∃ (hs on off : List Str), hs.length + on.length ≤ 4000 ∧ ars = [.d (eL hs), .d (eL on), .d (eL off)] ∧ q = .d (eL (turnedM hs on off))
theorem ok_turned (T : DefAt K mg "turned" sF_turned) (B : Bt mg) : Okd P w0 K mg base 1 "turned" ["holds", "on", "off"] cTurned := by
  refine okd_mk T scF_turned (fun _ _ _ _ _ _ us hl => match us, hl with | [_, _, _], _ => rfl) (fun ars q ⟨s, d, w, _, e, _⟩ => by rw [e]; rfl) (by decide) fun ars q c f cdv A outer s H E hr => ?_
  obtain ⟨hs, on, off, hz, rfl, rfl⟩ := c
  refine sd_one (sd_ret (pd_tuple B (PF.pd (pf_sortset B rfl hr.units (PD.is (PF.pd (pf_cat (PF.pd (pf_lc (own := [("hold", 3)]) (enc := .str) (xs := hs) (p := fun h => !decide (h ∈ off)) (f := .str) rfl scF_turned.nd (pd_var 0) rfl (bkF_turned (by decide +kernel)) fun x hx => ⟨_, _, fun _ _ _ _ _ => gd_name 3 scF_turned.nd, by decide, fun _ _ _ _ _ => ptd_notin (pd_var 3) (pd_var 2) (.inr rfl), fun _ _ _ _ _ _ => pd_var 3⟩)) (pd_list B (pd_var 1) rfl) ?_)) ?_) ?_))) rfl)
  · unfold tell; rw [List.length_map, List.length_map]; have := List.length_filter_le (fun h => !decide (h ∈ off)) hs; omega
  · exact (congrArg (fun z => Ar.d (.list z)) (by unfold tell; rw [List.map_append])).trans (rfl : Ar.d (.list (((hs.filter fun h => !decide (h ∈ off)) ++ on).map .str)) = _)
  · rw [List.length_append]; have := List.length_filter_le (fun h => !decide (h ∈ off)) hs; omega
def cKey (ars : List Ar) (q : Ar) : Prop := ∃ s, ars = [.d (eS s)] ∧ q = .d (eK s)
theorem eO_if {X : Cx} {e a b : Expr} {δ : List Sl} {pos : Pos} {x : Option Str} (h : PTD X e δ (isNo (eO x))) (ha : PD X a δ (.d (.str ""))) (hb : PD X b δ (.d (eO x))) : PD X (.IfExp e a b pos) δ (.d (.str (x.getD ""))) := by
  cases x with
  | none => exact pd_ife h (fun _ => ha) nofun
  | some y => exact pd_ife h nofun fun _ => hb
theorem ok_order_of (T : DefAt K mg "order_of" sF_order_of) (B : Bt mg) : Okd P w0 K mg base 1 "order_of" ["standing"] cKey := by
  refine okd_mk T scF_order_of (fun _ _ _ _ _ _ us hl => match us, hl with | [_], _ => rfl) (fun ars q ⟨s, e, _⟩ => by rw [e]; rfl) (by decide) fun ars q c f cdv A outer s H E hr => ?_
  obtain ⟨s, rfl, rfl⟩ := c
  refine sd_cons (sd_asg (pd_var 0) (gd_tup rfl (gds_cons (gd_name 1 scF_order_of.nd) (gds_cons (gd_name 2 scF_order_of.nd) (gds_cons (gd_name 3 scF_order_of.nd) (gds_cons (gd_name 4 scF_order_of.nd) (gds_cons (gd_name 5 scF_order_of.nd) (gds_cons (gd_name 6 scF_order_of.nd) gds_nil))))))) ?_)
  exact sd_one (sd_ret (pd_tup (pds_cons (pd_var 1) (pds_cons (pd_var 2) (pds_cons (eO_if (ptd_isn (pd_var 3) pd_non) pd_str (pd_var 3)) (pds_cons (pd_var 4) (pds_cons (pd_var 5) (pds_cons (pd_var 6) pds_nil))))))) rfl)
theorem ok_law_key (T : DefAt K mg "_law_key" sF__law_key) (B : Bt mg) : Okd P w0 K mg base 1 "_law_key" ["_law_state"] cKey := by
  refine okd_mk T scF__law_key (fun _ _ _ _ _ _ us hl => match us, hl with | [_], _ => rfl) (fun ars q ⟨s, e, _⟩ => by rw [e]; rfl) (by decide) fun ars q c f cdv A outer s H E hr => ?_
  obtain ⟨s, rfl, rfl⟩ := c
  have ix : ∀ (e : Expr) (i : Nat) (d : D), True := fun _ _ _ => trivial
  exact sd_one (sd_ret (pd_tup (pds_cons (pd_ixt (pd_var 0) pd_int rfl) (pds_cons (pd_ixt (pd_var 0) pd_int rfl) (pds_cons (eO_if (ptd_isn (pd_ixt (pd_var 0) pd_int rfl) pd_non) pd_str (pd_ixt (pd_var 0) pd_int rfl)) (pds_cons (pd_ixt (pd_var 0) pd_int rfl) (pds_cons (pd_ixt (pd_var 0) pd_int rfl) (pds_cons (pd_ixt (pd_var 0) pd_int rfl) pds_nil))))))) rfl)
end
end Fw
set_option maxHeartbeats 1000000
namespace Fw
open PySem PySem.Spec PyProof.Rows L2 PySem.W

theorem ff {P : Prop} (h : false = true) : P := nomatch h
theorem tt {P : Prop} (h : true = false) : P := nomatch h
theorem nble {n m : Nat} (h : Nat.ble n m = true) : n ≤ m := Nat.le_of_ble_eq_true h
theorem Up.nodup {xs : List Str} (h : Up xs) : xs.Nodup := h.imp fun h => h.2
theorem len_sub {xs ys : List Str} (nd : xs.Nodup) (h : ∀ x ∈ xs, x ∈ ys) : xs.length ≤ ys.length := by
  induction xs generalizing ys with
  | nil => simp
  | cons a t ih =>
    have ha : a ∈ ys := h a (List.mem_cons_self ..)
    have h1 := ih (ys := ys.erase a) (List.nodup_cons.mp nd).2 fun x hx => by
      refine (List.mem_erase_of_ne ?_).mpr (h x (List.mem_cons_of_mem _ hx))
      rintro rfl
      exact (List.nodup_cons.mp nd).1 hx
    rw [List.length_erase_of_mem ha] at h1
    have : 0 < ys.length := List.length_pos_of_mem ha
    simp only [List.length_cons]
    omega
theorem VT.len {B : Bok} (V : VB B) {xs : List Str} (h : VT B xs) : xs.length ≤ 6 := Nat.le_trans (len_sub h.up.nodup h.sub) V.hl
theorem VT.nil {B : Bok} : VT B [] := ⟨List.Pairwise.nil, nofun⟩
theorem VT.turned {B : Bok} {hs on : List Str} (off : List Str) (h : VT B hs) (h2 : VT B on) : VT B (turnedM hs on off) := ⟨up_setS _, fun x hx => by
  rcases List.mem_append.mp (mem_setS.mp hx) with z | z
  · exact h.sub x (List.mem_filter.mp z).1
  · exact h2.sub x z⟩
theorem find_name {T : Type} [Inhabited T] {f : T → Str} {x : Str} : ∀ {xs : List T}, x ∈ xs.map f → ((xs.find? fun m => decide (f m = x)).getD default) ∈ xs ∧ f ((xs.find? fun m => decide (f m = x)).getD default) = x
  | [], h => by cases h
  | a :: t, h => by
    by_cases e : f a = x
    · simp [List.find?, e]
    · have h' : x ∈ t.map f := by
        rcases List.mem_cons.mp h with z | z
        · exact absurd z.symm e
        · exact z
      obtain ⟨i1, i2⟩ := find_name h'
      simp only [List.find?, e, decide_false]
      exact ⟨List.mem_cons_of_mem _ i1, i2⟩
theorem find_lookup {T : Type} [Inhabited T] {f : T → Str} {g : T → D} {x : Str} : ∀ {xs : List T}, x ∈ xs.map f → (xs.map fun m => (f m, g m)).lookup x = some (g ((xs.find? fun m => decide (f m = x)).getD default))
  | [], h => by cases h
  | a :: t, h => by
    by_cases e : f a = x
    · subst e; simp [List.find?, List.lookup]
    · have h' : x ∈ t.map f := by
        rcases List.mem_cons.mp h with z | z
        · exact absurd z.symm e
        · exact z
      have e' : (x == f a) = false := by simpa using fun z : x = f a => e z.symm
      simp only [List.map_cons, List.find?, e, decide_false, List.lookup, e']
      exact find_lookup h'
theorem effM_VS {B : Bok} (V : VB B) {s : Std} (h : VS B s) {on off : List Str} {to : Option Str} (h1 : VT B on) (h2 : VTo B to) : VS B (effM B s on off to) := by
  cases to with
  | none => exact ⟨h.mo, h.lo.turned _ h1, h.ro⟩
  | some t =>
    have ht := h2 t rfl
    exact ⟨ht, (h.lo.turned _ h1).turned _ (V.md _ (find_name (f := Md.name) ht).1).1, h.ro⟩
theorem haltM_VS {B : Bok} {s : Std} (h : VS B s) : VS B (haltM s) := ⟨h.mo, h.lo, nofun⟩
theorem sil_VS {B : Bok} {s : Std} (h : VS B s) (n : Int) : VS B { s with sil := n } := ⟨h.mo, h.lo, h.ro⟩
theorem left_VS {B : Bok} {s : Std} (h : VS B s) (n : Int) : VS B { s with left := n } := ⟨h.mo, h.lo, h.ro⟩
theorem beginM_VS {B : Bok} {s : Std} (h : VS B s) {row : Str} {place : Int} (hr : row ∈ B.rows.map (·.name)) (h0 : 0 ≤ place) (h1 : place ≤ ((B.rowOf row).steps.length : Int)) : VS B (beginM B s row place) := by
  unfold beginM
  split
  · exact haltM_VS h
  · rename_i ne
    exact ⟨h.mo, h.lo, fun r e => by cases e; exact ⟨hr, h0, by show place < _; omega⟩⟩
theorem cmdM_VS {B : Bok} (V : VB B) {s : Std} (h : VS B s) {name : Str} (hn : name ∈ B.commands.map (·.name)) : VS B (cmdM B s name) := by
  unfold cmdM
  split
  · have := V.cm _ (find_name (f := Cm.name) hn).1
    exact effM_VS V h this.1 this.2.2
  · exact h
theorem effM_row {B : Bok} {s : Std} {on off : List Str} {to : Option Str} : (effM B s on off to).row = s.row := by cases to <;> rfl

def gearF (B : Bok) : List (Str × Ar) :=
  [("home", .d (.str B.safe)), ("patience", .d (eI B.quiet)), ("turns", .o (rSk (B.modes.map fun m => (m.name, .tuple [eL m.on, eL m.off])))),
   ("effects", .o (rSk (B.cmds.map fun c => (c.name, .tuple [eL c.modes, eL c.on, eL c.off, eO c.to])))),
   ("responses", .d (.list (B.alarms.map fun a => .tuple [.str a.name, .tuple [eL a.on, eL a.off, eO a.to]]))),
   ("series", .o (rSk (B.rows.map fun r => (r.name, .tuple (r.steps.map eSt)))))]
def tf (CG : Addr) (B : Bok) (s : Std) (n : Nat) : Fds :=
  [("gears", .a (.o (rObj CG (gearF B)))), ("mode", .a (.d (.str s.mode))), ("lot", .a (.d (eL s.lot))), ("row", .a (.d (eO s.row))), ("place", .a (.d (.int s.place))), ("left", .a (.d (.int s.left))), ("silence", .a (.d (.int s.sil))), ("done", .l n), ("refused", .l n), ("moments", .l n)]
abbrev LT : List Str := ["gears", "mode", "lot", "row", "place", "left", "silence", "done", "refused", "moments"]
abbrev LG : List Str := ["home", "patience", "turns", "effects", "responses", "series"]
abbrev LS : List Str := ["standing", "done", "refused", "moments"]
structure Cs (K : PySem.W.Frag) (CT CG CS : Addr) : Prop where
  t : CF K CT LT
  g : CF K CG LG
  s : CF K CS LS
theorem cmds_mem {B : Bok} {c : Cm} : c ∈ B.cmds → ∃ x ∈ B.commands.map (·.name), c = B.cmdOf x := fun h => by
  obtain ⟨x, h1, h2⟩ := List.mem_map.mp h
  rw [sortS_eq] at h1
  exact ⟨x, (List.mergeSort_perm _ _).mem_iff.mp h1, h2.symm⟩
theorem cmds_names {B : Bok} : B.cmds.map (·.name) = sortS (B.commands.map (·.name)) := by
  unfold Bok.cmds
  rw [List.map_map]
  refine (List.map_congr_left fun x hx => ?_).trans (List.map_id _)
  rw [sortS_eq] at hx
  exact (find_name (f := Cm.name) ((List.mergeSort_perm _ _).mem_iff.mp hx)).2
theorem cmds_lookup {B : Bok} {x : Str} (h : x ∈ B.commands.map (·.name)) {g : Cm → D} : (B.cmds.map fun c => (c.name, g c)).lookup x = some (g (B.cmdOf x)) := by
  have hx : x ∈ sortS (B.commands.map (·.name)) := by rw [sortS_eq]; exact (List.mergeSort_perm _ _).mem_iff.mpr h
  have e : B.cmds.map (fun c => (c.name, g c)) = (sortS (B.commands.map (·.name))).map fun x => (x, g (B.cmdOf x)) := by
    unfold Bok.cmds
    rw [List.map_map]
    refine List.map_congr_left fun y hy => ?_
    rw [sortS_eq] at hy
    show ((B.cmdOf y).name, _) = _
    have e2 : (B.cmdOf y).name = y := (find_name (f := Cm.name) ((List.mergeSort_perm _ _).mem_iff.mp hy)).2
    rw [e2]
  rw [e]
  generalize sortS (B.commands.map (·.name)) = ys at hx
  induction ys with
  | nil => cases hx
  | cons a t ih =>
    by_cases e : x = a
    · subst e; simp [List.lookup]
    · have e' : (x == a) = false := by simpa using e
      simp only [List.map_cons, List.lookup, e']
      exact ih ((List.mem_cons.mp hx).resolve_left e)

/-- the counts of lists may be told larger -/
inductive LeF : Fds → Fds → Prop
  | nil : LeF [] []
  | same {x : Str × Fd} {t t' : Fds} (h : LeF t t') : LeF (x :: t) (x :: t')
  | up {f : Str} {n m : Nat} {t t' : Fds} (hl : n ≤ m) (h : LeF t t') : LeF ((f, .l n) :: t) ((f, .l m) :: t')
theorem LeF.each {H0 G H : Hp} : ∀ {fs : List (Str × V)} {a b : Fds}, LeF a b → EachIs (FdR H0 G H) fs a → EachIs (FdR H0 G H) fs b
  | _, _, _, .nil, h => h
  | _, _, _, .same h, .cons q t => .cons q (h.each t)
  | _, _, _, .up hl h, .cons q t => .cons (let ⟨q1, l, vs, e1, e2, e3, e4⟩ := q; ⟨q1, l, vs, e1, e2, Nat.le_trans e3 hl, e4⟩) (h.each t)
theorem LeF.isl : ∀ {a b : Fds} {i : Nat} {d : Str × Fd}, LeF a b → b[i]? = some d → ∃ d', a[i]? = some d' ∧ isL d'.2 = isL d.2
  | _, _, _, _, .nil, h => by simp at h
  | _, _, 0, _, .same h, e => ⟨_, rfl, by simp at e; rw [e]⟩
  | _, _, i + 1, _, .same h, e => by simpa using h.isl (i := i) (by simpa using e)
  | _, _, 0, _, .up hl h, e => ⟨_, rfl, by simp at e; subst e; rfl⟩
  | _, _, i + 1, _, .up hl h, e => by simpa using h.isl (i := i) (by simpa using e)
theorem sd_weak {X : Cx} {E : DE} {sts : List Stmt} {δ : List Sl} {C aa : Addr} {fds fds' : Fds} (i : Nat) (hi : δ[i]? = some (.gp (gpO C aa fds))) (hl : LeF fds fds') (h : SD X sts (δ.set i (.gp (gpO C aa fds'))) E) : SD X sts δ E := by
  refine ⟨fun pins s σ G0 H0 G H I g re => h.run pins s σ G0 H0 G H I g ?_⟩
  refine ⟨by simpa using re.len, fun j sl e => ?_, fun j k O O' b z1 z2 z3 z4 => ?_⟩
  · by_cases z : i = j
    · subst z
      have hlt : i < δ.length := by
        rcases Nat.lt_or_ge i δ.length with z | z
        · exact z
        · rw [List.getElem?_eq_none z] at hi; cases hi
      rw [List.getElem?_set_self hlt] at e
      cases e
      obtain ⟨v, e1, ob⟩ := re.gp hi
      refine ⟨_, e1, v, rfl, ob.at_, ?_⟩
      obtain ⟨dx, fs, k1, k2, k3, k4, k5, k6, k7, k8⟩ := ob.ex
      refine ⟨dx, fs, k1, k2, k3, k4, k5, k6, hl.each k7, fun i j d d' f g l x1 x2 x3 x4 x5 x6 => ?_⟩
      obtain ⟨y1, y2, y3⟩ := hl.isl x1
      obtain ⟨y1', y2', y3'⟩ := hl.isl x2
      exact k8 i j y1 y1' f g l y2 y2' (y3.trans x3) (y3'.trans x4) x5 x6
    · rw [List.getElem?_set_ne z] at e
      exact re.sl j sl e
  · have f : ∀ (m : Nat) (O3 : Op), (δ.set i (.gp (gpO C aa fds')))[m]? = some (.ow O3) → δ[m]? = some (.ow O3) := fun m O3 z => by
      by_cases q : i = m
      · subst q
        by_cases hlt : i < δ.length
        · rw [List.getElem?_set_self hlt] at z; cases z
        · rw [List.getElem?_eq_none (by simpa using hlt)] at z; cases z
      · rw [List.getElem?_set_ne q] at z; exact z
    exact re.ap j k O O' b (f _ _ z1) (f _ _ z2) z3 z4
end Fw
set_option maxHeartbeats 1000000
namespace Fw
open PySem PySem.Spec PyProof.Rows L2 PySem.W
section
variable {P : Program} {w0 : World} {K : PySem.W.Frag} {mg : Str → Option Value} {base : Heap} {CT CG CS : Addr}
def mHalt (CG : Addr) : Mc := fun fds ars fds' q => ∃ (B : Bok) (s : Std) (n : Nat), fds = tf CG B s n ∧ ars = [] ∧ fds' = tf CG B (haltM s) n ∧ q = .d .none
theorem ok_halt (T : MethAt K CT "halt" "Turn.halt" sM_Turn_halt) (c : Cs K CT CG CS) : OkM P w0 K mg base 1 CT "halt" ["self"] (mHalt CG) := by
  refine okm_mk T c.t.cls scM_Turn_halt (fun _ _ _ _ _ _ us hl => match us, hl with | [_], _ => rfl) (fun _ ars _ _ ⟨_, _, _, _, e, _⟩ => by rw [e]; rfl) (by decide) fun aa fds ars fds' q cc f cdv A outer s H E hr => ?_
  obtain ⟨B, s, n, rfl, rfl, rfl, rfl⟩ := cc
  refine sd_cons (sd_unpA 0 c.t rfl rfl (pd_tup (pds_cons pd_non (pds_cons pd_int (pds_cons pd_int pds_nil)))) (.cons (by decide) (nble rfl) (.cons (by decide) (nble rfl) (.cons (by decide) (nble rfl) .nil rfl) rfl) rfl) ?_)
  exact sd_nil ⟨rfl, rfl⟩
def mEffect (CG : Addr) : Mc := fun fds ars fds' q => ∃ (B : Bok) (s : Std) (n : Nat) (on off : List Str) (to : Option Str), VB B ∧ VS B s ∧ VT B on ∧ VTo B to ∧ n < 1000 ∧ fds = tf CG B s n ∧ ars = [.d (eL on), .d (eL off), .d (eO to)] ∧ fds' = tf CG B (effM B s on off to) (n + 1) ∧ q = .d .none
theorem ok_effect (T : MethAt K CT "effect" "Turn.effect" sM_Turn_effect) (c : Cs K CT CG CS) (O1 : Okd P w0 K mg base 1 "turned" ["holds", "on", "off"] cTurned) : OkM P w0 K mg base 2 CT "effect" ["self", "on", "off", "to"] (mEffect CG) := by
  refine okm_mk T c.t.cls scM_Turn_effect (fun _ _ _ _ _ _ us hl => match us, hl with | [_, _, _, _], _ => rfl) (fun _ ars _ _ ⟨_, _, _, _, _, _, _, _, _, _, _, _, e, _⟩ => by rw [e]; rfl) (by decide) fun aa fds ars fds' q cc f cdv A outer s H E hr => ?_
  obtain ⟨B, s, n, on, off, to, V, vs, von, vto, hn, rfl, rfl, rfl, rfl⟩ := cc
  have l1 := vs.lo.len V
  have l2 := von.len V
  refine sd_cons (sd_sfld 0 c.t rfl (pd_call O1 hr (pad_cons (pd_self 0 c.t rfl rfl) (pad_cons (pd_var 1) (pad_cons (pd_var 2) pad_nil))) ⟨s.lot, on, off, by omega, rfl, rfl⟩) ?_)
  have last : ∀ (s' : Std) (E : DE), (E.nx = fun δ => Ar.d .none = .d .none ∧ δ[0]? = some (.gp (gpO CT aa (tf CG B s' (n + 1))))) → SD (Fx P w0 K mg base nM_Turn_effect "Turn.effect" sM_Turn_effect f cdv A outer ‹Shared› H ‹XK›) ((defBody sM_Turn_effect).drop 2) [.gp (gpO CT aa (tf CG B s' n)), .va (.d (eL on)), .va (.d (eL off)), .va (.d (eO to))] E := fun s' E hE => by
    refine sd_cons (sd_sapnd 0 (n := n) c.t rfl rfl (pd_self 0 c.t rfl rfl) ?_ (by omega))
    refine sd_weak 0 rfl (fds' := tf CG B s' (n + 1)) ?_ (sd_nil (by rw [hE]; exact ⟨rfl, rfl⟩))
    exact .same (.same (.same (.same (.same (.same (.same (.up (by omega) (.up (by omega) (.same .nil)))))))))
  cases to with
  | none => exact sd_cons (sd_if (ptd_notn (pd_var 3) pd_non) ff fun _ => sd_nil (last (effM B s on off none) _ rfl))
  | some t =>
    have ht := vto t rfl
    have hm := V.md _ (find_name (f := Md.name) ht).1
    have l3 := hm.1.len V
    have l4 := (vs.lo.turned off von).len V
    have lk := find_lookup (f := Md.name) (g := fun m : Md => PyData.tuple [eL m.on, eL m.off]) ht
    refine sd_cons (sd_if (ptd_notn (pd_var 3) pd_non) (fun _ => sd_cons (sd_sfld 0 c.t rfl (pd_var 3) (sd_cons (sd_sfld 0 c.t rfl (pd_call O1 hr (pad_cons (pd_self 0 c.t rfl rfl) (pad_cons (pd_ixt (pd_ixk hr.units (pd_fld c.g (pd_self 0 c.t rfl rfl) rfl) (pd_var 3) lk) pd_int rfl) (pad_cons (pd_ixt (pd_ixk hr.units (pd_fld c.g (pd_self 0 c.t rfl rfl) rfl) (pd_var 3) lk) pd_int rfl) pad_nil))) ⟨turnedM s.lot on off, (B.modeOf t).on, (B.modeOf t).off, by unfold Bok.modeOf; omega, rfl, rfl⟩) (sd_nil (last (effM B s on off (some t)) _ rfl)))))) tt)
end
end Fw
set_option maxHeartbeats 1000000
namespace Fw
open PySem PySem.Spec PyProof.Rows L2 PySem.W
section
variable {P : Program} {w0 : World} {K : PySem.W.Frag} {mg : Str → Option Value} {base : Heap} {CT CG CS : Addr}
def mBegin (CG : Addr) : Mc := fun fds ars fds' q => ∃ (B : Bok) (s : Std) (n : Nat) (row : Str) (place : Int), VB B ∧ row ∈ B.rows.map (·.name) ∧ 0 ≤ place ∧ place ≤ ((B.rowOf row).steps.length : Int) ∧ fds = tf CG B s n ∧ ars = [.d (.str row), .d (.int place)] ∧ fds' = tf CG B (beginM B s row place) n ∧ q = .d .none
theorem ok_begin (T : MethAt K CT "begin" "Turn.begin" sM_Turn_begin) (c : Cs K CT CG CS) (B0 : Bt mg) (O1 : OkM P w0 K mg base 1 CT "halt" ["self"] (mHalt CG)) : OkM P w0 K mg base 2 CT "begin" ["self", "row", "place"] (mBegin CG) := by
  refine okm_mk T c.t.cls scM_Turn_begin (fun _ _ _ _ _ _ us hl => match us, hl with | [_, _, _], _ => rfl) (fun _ ars _ _ ⟨_, _, _, _, _, _, _, _, _, _, e, _⟩ => by rw [e]; rfl) (by decide) fun aa fds ars fds' q cc f cdv A outer s H E hr => ?_
  obtain ⟨B, s, n, row, place, V, hrow, h0, h1, rfl, rfl, rfl, rfl⟩ := cc
  have lk := find_lookup (f := Rw.name) (g := fun r : Rw => PyData.tuple (r.steps.map eSt)) hrow
  refine sd_cons (sd_set 3 scM_Turn_begin.nd (pd_ixk hr.units (pd_fld c.g (pd_self 0 c.t rfl rfl) rfl) (pd_var 1) lk) ?_)
  refine sd_one (sd_if (q := decide (place = ((B.rowOf row).steps.length : Int))) ((ptd_eqi (pd_var 2) (pd_len B0 (pd_var 3) rfl)).is (by rw [List.length_map]; rfl)) (fun h => ?_) fun h => ?_)
  · refine sd_cons (sd_exprM (pm_meth0 0 O1 hr rfl rfl ⟨B, s, n, rfl, rfl, rfl, rfl⟩) (sd_nil ⟨rfl, ?_⟩))
    have e : beginM B s row place = haltM s := by unfold beginM; rw [if_pos (of_decide_eq_true h)]
    rw [e]; rfl
  · have ne : ¬ place = ((B.rowOf row).steps.length : Int) := of_decide_eq_false h
    have hlt : place.toNat < (B.rowOf row).steps.length := by omega
    have e0 : ((B.rowOf row).steps.map eSt)[place.toNat]? = some (eSt ((B.rowOf row).steps.getD place.toNat default)) := by
      rw [List.getElem?_map, List.getD_eq_getElem?_getD, List.getElem?_eq_getElem hlt]; rfl
    refine sd_cons (sd_unpA 0 c.t rfl rfl (pd_tup (pds_cons (pd_var 1) (pds_cons (pd_var 2) (pds_cons (pd_ixt (pd_ixt (pd_var 3) (pd_var 2) (ati_nn h0 e0)) pd_int rfl) pds_nil)))) (.cons (by decide) (nble rfl) (.cons (by decide) (nble rfl) (.cons (by decide) (nble rfl) .nil rfl) rfl) rfl) (sd_nil ⟨rfl, ?_⟩))
    have e : beginM B s row place = { s with row := some row, place := place, left := ((B.rowOf row).steps.getD place.toNat default).1 } := by unfold beginM; rw [if_neg ne]
    rw [e]; rfl
def mCommand (CG : Addr) : Mc := fun fds ars fds' q => ∃ (B : Bok) (s : Std) (n : Nat) (name : Str), VB B ∧ VS B s ∧ name ∈ B.commands.map (·.name) ∧ n < 900 ∧ fds = tf CG B s n ∧ ars = [.d (.str name)] ∧ fds' = tf CG B (cmdM B s name) (n + 2) ∧ q = .d (.bool (cmdOk B s name))
theorem ok_command (T : MethAt K CT "command" "Turn.command" sM_Turn_command) (c : Cs K CT CG CS) (O1 : OkM P w0 K mg base 2 CT "effect" ["self", "on", "off", "to"] (mEffect CG)) : OkM P w0 K mg base 3 CT "command" ["self", "name"] (mCommand CG) := by
  refine okm_mk T c.t.cls scM_Turn_command (fun _ _ _ _ _ _ us hl => match us, hl with | [_, _], _ => rfl) (fun _ ars _ _ ⟨_, _, _, _, _, _, _, _, _, e, _⟩ => by rw [e]; rfl) (by decide) fun aa fds ars fds' q cc f cdv A outer s H E hr => ?_
  obtain ⟨B, s, n, name, V, vs, hnm, hn, rfl, rfl, rfl, rfl⟩ := cc
  have lk := cmds_lookup (B := B) hnm (g := fun c => PyData.tuple [eL c.modes, eL c.on, eL c.off, eO c.to])
  have vc := V.cm _ (find_name (f := Cm.name) hnm).1
  have nd := scM_Turn_command.nd
  refine sd_cons (sd_asg (pd_ixk hr.units (pd_fld c.g (pd_self 0 c.t rfl rfl) rfl) (pd_var 1) lk) (gd_tup rfl (gds_cons (gd_name 2 nd) (gds_cons (gd_name 3 nd) (gds_cons (gd_name 4 nd) (gds_cons (gd_name 5 nd) gds_nil))))) ?_)
  refine sd_cons (sd_if (q := !decide (s.mode ∈ (B.cmdOf name).modes)) (ptd_notin (pd_self 0 c.t rfl rfl) (pd_var 2) (.inr rfl)) (fun h => ?_) fun h => sd_nil ?_)
  · have h' : ¬ s.mode ∈ (B.cmdOf name).modes := by simpa using h
    have e : cmdM B s name = s := by unfold cmdM cmdOk; rw [if_neg (by simpa using h')]
    have e2 : cmdOk B s name = false := decide_eq_false h'
    rw [e, e2]
    refine sd_weak 0 rfl (fds' := tf CG B s (n + 2)) ?_ (sd_one (sd_ret pd_bl rfl rfl))
    exact .same (.same (.same (.same (.same (.same (.same (.up (by omega) (.up (by omega) (.up (by omega) .nil)))))))))
  · have h' : s.mode ∈ (B.cmdOf name).modes := by simpa using h
    have e : cmdM B s name = effM B s (B.cmdOf name).on (B.cmdOf name).off (B.cmdOf name).to := by unfold cmdM cmdOk; rw [if_pos (by simpa using h')]
    have e2 : cmdOk B s name = true := decide_eq_true h'
    rw [e, e2]
    refine sd_cons (sd_exprM (pm_meth 0 (O1.lift (by decide)) hr rfl rfl (pad_cons (pd_var 3) (pad_cons (pd_var 4) (pad_cons (pd_var 5) pad_nil))) ⟨B, s, n, (B.cmdOf name).on, (B.cmdOf name).off, (B.cmdOf name).to, V, vs, vc.1, vc.2.2, by omega, rfl, rfl, rfl, rfl⟩) ?_)
    refine sd_cons (sd_sapnd 0 (n := n + 1) c.t rfl rfl (pd_var 1) ?_ (by omega))
    refine sd_weak 0 rfl (fds' := tf CG B (effM B s (B.cmdOf name).on (B.cmdOf name).off (B.cmdOf name).to) (n + 2)) ?_ (sd_one (sd_ret pd_bl rfl rfl))
    exact .same (.same (.same (.same (.same (.same (.same (.same (.up (by omega) (.up (by omega) .nil)))))))))
end
end Fw
set_option maxHeartbeats 1000000
namespace Fw
open PySem PySem.Spec PyProof.Rows L2 PySem.W
section
variable {P : Program} {w0 : World} {K : PySem.W.Frag} {mg : Str → Option Value} {base : Heap} {CT CG CS : Addr}
def mObey (CG : Addr) : Mc := fun fds ars fds' q => ∃ (B : Bok) (s : Std) (n : Nat) (o : Ord), VB B ∧ VS B s ∧ VO B o ∧ o ≠ .no ∧ n < 800 ∧ fds = tf CG B s n ∧ ars = [.d (eOr o)] ∧ fds' = tf CG B (obeyM B s o) (n + 3) ∧ q = .d (.bool (isRun o))
theorem leT {CG : Addr} {B : Bok} {s : Std} {n m : Nat} (h : n ≤ m) : LeF (tf CG B s n) (tf CG B s m) := .same (.same (.same (.same (.same (.same (.same (.up h (.up h (.up h .nil)))))))))
theorem ok_obey (T : MethAt K CT "obey" "Turn.obey" sM_Turn_obey) (c : Cs K CT CG CS) (O1 : OkM P w0 K mg base 1 CT "halt" ["self"] (mHalt CG)) (O2 : OkM P w0 K mg base 2 CT "begin" ["self", "row", "place"] (mBegin CG)) (O3 : OkM P w0 K mg base 3 CT "command" ["self", "name"] (mCommand CG)) : OkM P w0 K mg base 4 CT "obey" ["self", "order"] (mObey CG) := by
  refine okm_mk T c.t.cls scM_Turn_obey (fun _ _ _ _ _ _ us hl => match us, hl with | [_, _], _ => rfl) (fun _ ars _ _ ⟨_, _, _, _, _, _, _, _, _, _, e, _⟩ => by rw [e]; rfl) (by decide) fun aa fds ars fds' q cc f cdv A outer s H E hr => ?_
  obtain ⟨B, s, n, o, V, vs, vo, ho, hn, rfl, rfl, rfl, rfl⟩ := cc
  refine sd_cons (sd_sfld 0 c.t rfl pd_int ?_)
  cases o with
  | no => exact absurd rfl ho
  | doo x =>
    refine sd_cons (sd_ifAM (c := true) (d := cmdOk B { s with sil := 0 } x) ((ptd_eqs (pd_ixt (pd_var 1) pd_int rfl) pd_str).is (by decide)) (fun _ => pm_meth 0 O3 hr rfl rfl (pad_cons (pd_ixt (pd_var 1) pd_int rfl) pad_nil) ⟨B, { s with sil := 0 }, n, x, V, sil_VS vs 0, vo, by omega, rfl, rfl, rfl, rfl⟩) (fun _ _ => ?_) (fun _ _ => ?_) tt)
    · refine sd_cons (sd_sapnd 0 (n := n + 2) c.t rfl rfl (pd_ixt (pd_var 1) pd_int rfl) ?_ (by omega))
      refine sd_weak 0 rfl (fds' := tf CG B (cmdM B { s with sil := 0 } x) (n + 3)) (.same (.same (.same (.same (.same (.same (.same (.up (by omega) (.same (.up (by omega) .nil)))))))))) (sd_nil ?_)
      refine sd_cons (sd_if ((ptd_eqs (pd_ixt (pd_var 1) pd_int rfl) pd_str).is (by decide : _ = false)) ff fun _ => sd_nil ?_)
      refine sd_cons (sd_if ((ptd_eqs (pd_ixt (pd_var 1) pd_int rfl) pd_str).is (by decide : _ = false)) ff fun _ => sd_nil ?_)
      exact sd_one (sd_ret ((pd_eqs (pd_ixt (pd_var 1) pd_int rfl) pd_str).is (congrArg (fun b => Ar.d (.bool b)) (by decide : decide (("do" : Str) = "run") = false))) rfl rfl)
    · refine sd_weak 0 rfl (fds' := tf CG B (cmdM B { s with sil := 0 } x) (n + 3)) (leT (by omega)) ?_
      refine sd_cons (sd_if ((ptd_eqs (pd_ixt (pd_var 1) pd_int rfl) pd_str).is (by decide : _ = false)) ff fun _ => sd_nil ?_)
      refine sd_cons (sd_if ((ptd_eqs (pd_ixt (pd_var 1) pd_int rfl) pd_str).is (by decide : _ = false)) ff fun _ => sd_nil ?_)
      exact sd_one (sd_ret ((pd_eqs (pd_ixt (pd_var 1) pd_int rfl) pd_str).is (congrArg (fun b => Ar.d (.bool b)) (by decide : decide (("do" : Str) = "run") = false))) rfl rfl)
  | run x =>
    refine sd_cons (sd_ifAM (δ' := []) (c := false) (d := true) ((ptd_eqs (pd_ixt (pd_var 1) pd_int rfl) pd_str).is (by decide)) ff ff ff fun _ => ?_)
    refine sd_cons (sd_if ((ptd_eqs (pd_ixt (pd_var 1) pd_int rfl) pd_str).is (by decide : _ = false)) ff fun _ => sd_nil ?_)
    refine sd_cons (sd_if ((ptd_eqs (pd_ixt (pd_var 1) pd_int rfl) pd_str).is (by decide : _ = true)) (fun _ => sd_cons (sd_exprM (pm_meth 0 (O2.lift (by decide)) hr rfl rfl (pad_cons (pd_ixt (pd_var 1) pd_int rfl) (pad_cons pd_int pad_nil)) ⟨B, { s with sil := 0 }, n, x, 0, V, vo, by decide, Int.natCast_nonneg _, rfl, rfl, rfl, rfl⟩) (sd_nil ?_))) tt)
    exact sd_weak 0 rfl (fds' := tf CG B (obeyM B s (.run x)) (n + 3)) (leT (by omega)) (sd_one (sd_ret ((pd_eqs (pd_ixt (pd_var 1) pd_int rfl) pd_str).is (congrArg (fun b => Ar.d (.bool b)) (by decide : decide (("run" : Str) = "run") = true))) rfl rfl))
  | stop =>
    refine sd_cons (sd_ifAM (δ' := []) (c := false) (d := true) ((ptd_eqs (pd_ixt (pd_var 1) pd_int rfl) pd_str).is (by decide)) ff ff ff fun _ => ?_)
    refine sd_cons (sd_if ((ptd_eqs (pd_ixt (pd_var 1) pd_int rfl) pd_str).is (by decide : _ = true)) (fun _ => sd_cons (sd_exprM (pm_meth0 0 (O1.lift (by decide)) hr rfl rfl ⟨B, { s with sil := 0 }, n, rfl, rfl, rfl, rfl⟩) (sd_nil ?_))) tt)
    refine sd_cons (sd_if ((ptd_eqs (pd_ixt (pd_var 1) pd_int rfl) pd_str).is (by decide : _ = false)) ff fun _ => sd_nil ?_)
    exact sd_weak 0 rfl (fds' := tf CG B (obeyM B s .stop) (n + 3)) (leT (by omega)) (sd_one (sd_ret ((pd_eqs (pd_ixt (pd_var 1) pd_int rfl) pd_str).is (congrArg (fun b => Ar.d (.bool b)) (by decide : decide (("stop" : Str) = "run") = false))) rfl rfl))
def mWait (CG : Addr) : Mc := fun fds ars fds' q => ∃ (B : Bok) (s : Std) (n : Nat), VB B ∧ VS B s ∧ n < 800 ∧ fds = tf CG B s n ∧ ars = [] ∧ fds' = tf CG B (waitM B s) (n + 1) ∧ q = .d .none
theorem safe_mem {B : Bok} (V : VB B) : B.safe ∈ B.modes.map (·.name) := by
  have := V.m0
  unfold Bok.safe
  cases h : B.modes with
  | nil => exact absurd h this
  | cons a t => simp
theorem ok_wait (T : MethAt K CT "wait" "Turn.wait" sM_Turn_wait) (c : Cs K CT CG CS) (O1 : OkM P w0 K mg base 1 CT "halt" ["self"] (mHalt CG)) (O2 : OkM P w0 K mg base 2 CT "effect" ["self", "on", "off", "to"] (mEffect CG)) : OkM P w0 K mg base 3 CT "wait" ["self"] (mWait CG) := by
  refine okm_mk T c.t.cls scM_Turn_wait (fun _ _ _ _ _ _ us hl => match us, hl with | [_], _ => rfl) (fun _ ars _ _ ⟨_, _, _, _, _, _, _, e, _⟩ => by rw [e]; rfl) (by decide) fun aa fds ars fds' q cc f cdv A outer s H E hr => ?_
  obtain ⟨B, s, n, V, vs, hn, rfl, rfl, rfl, rfl⟩ := cc
  cases hq : B.quiet with
  | none =>
    refine sd_one (sd_if (q := false) ((ptd_notn (pd_fld c.g (pd_self 0 c.t rfl rfl) rfl) pd_non).is (by rw [hq]; rfl)) ff fun _ => ?_)
    refine sd_weak 0 rfl (fds' := tf CG B (waitM B s) (n + 1)) ?_ (sd_nil ⟨rfl, rfl⟩)
    have e : waitM B s = s := by unfold waitM; rw [hq]
    rw [e]; exact leT (by omega)
  | some k =>
    refine sd_one (sd_if (q := true) ((ptd_notn (pd_fld c.g (pd_self 0 c.t rfl rfl) rfl) pd_non).is (by rw [hq]; rfl)) (fun _ => ?_) tt)
    refine sd_cons (sd_saug 0 c.t (g := fun a b => a + b) in_add rfl rfl pd_int ?_)
    refine sd_one (sd_if (q := decide (s.sil + 1 = k)) (ptd_eqi (pd_self 0 c.t rfl rfl) ((pd_fld c.g (pd_self 0 c.t rfl rfl) rfl).is (by rw [hq]; rfl))) (fun h => ?_) fun h => ?_)
    · have e : waitM B s = { haltM (effM B { s with sil := s.sil + 1 } [] [] (some B.safe)) with sil := 0 } := by unfold waitM; rw [hq]; exact if_pos (of_decide_eq_true h)
      rw [e]
      refine sd_cons (sd_exprM (pm_meth 0 (O2.lift (by decide)) hr rfl rfl (pad_cons (pd_tup pds_nil) (pad_cons (pd_tup pds_nil) (pad_cons (pd_fld c.g (pd_self 0 c.t rfl rfl) rfl) pad_nil))) ⟨B, { s with sil := s.sil + 1 }, n, [], [], some B.safe, V, sil_VS vs _, .nil, fun t e => by cases e; exact safe_mem V, by omega, rfl, rfl, rfl, rfl⟩) ?_)
      refine sd_cons (sd_exprM (pm_meth0 0 (O1.lift (by decide)) hr rfl rfl ⟨B, effM B { s with sil := s.sil + 1 } [] [] (some B.safe), n + 1, rfl, rfl, rfl, rfl⟩) ?_)
      exact sd_cons (sd_sfld 0 c.t rfl pd_int (sd_nil ⟨rfl, rfl⟩))
    · have e : waitM B s = { s with sil := s.sil + 1 } := by unfold waitM; rw [hq]; exact if_neg (of_decide_eq_false h)
      rw [e]
      exact sd_weak 0 rfl (fds' := tf CG B { s with sil := s.sil + 1 } (n + 1)) (leT (s := { s with sil := s.sil + 1 }) (n := n) (by omega)) (sd_nil ⟨rfl, rfl⟩)
def mGo (CG : Addr) : Mc := fun fds ars fds' q => ∃ (B : Bok) (s : Std) (n : Nat), VB B ∧ VS B s ∧ n < 800 ∧ fds = tf CG B s n ∧ ars = [] ∧ fds' = tf CG B (goM B s) (n + 2) ∧ q = .d .none
theorem ok_go_on (T : MethAt K CT "go_on" "Turn.go_on" sM_Turn_go_on) (c : Cs K CT CG CS) (O2 : OkM P w0 K mg base 2 CT "begin" ["self", "row", "place"] (mBegin CG)) (O3 : OkM P w0 K mg base 3 CT "command" ["self", "name"] (mCommand CG)) : OkM P w0 K mg base 4 CT "go_on" ["self"] (mGo CG) := by
  refine okm_mk T c.t.cls scM_Turn_go_on (fun _ _ _ _ _ _ us hl => match us, hl with | [_], _ => rfl) (fun _ ars _ _ ⟨_, _, _, _, _, _, _, e, _⟩ => by rw [e]; rfl) (by decide) fun aa fds ars fds' q cc f cdv A outer s H E hr => ?_
  obtain ⟨B, s, n, V, vs, hn, rfl, rfl, rfl, rfl⟩ := cc
  cases hq : s.row with
  | none =>
    refine sd_one (sd_if (q := false) ((ptd_notn (pd_self 0 c.t rfl rfl) pd_non).is (by rw [hq]; rfl)) ff fun _ => ?_)
    refine sd_weak 0 rfl (fds' := tf CG B (goM B s) (n + 2)) ?_ (sd_nil ⟨rfl, rfl⟩)
    have e : goM B s = s := by unfold goM; rw [hq]
    rw [e]; exact leT (by omega)
  | some r =>
    obtain ⟨vr, h0, h1⟩ := vs.ro r hq
    refine sd_one (sd_if (q := true) ((ptd_notn (pd_self 0 c.t rfl rfl) pd_non).is (by rw [hq]; rfl)) (fun _ => ?_) tt)
    refine sd_cons (sd_saug 0 c.t (g := fun a b => a - b) in_sub rfl rfl pd_int ?_)
    refine sd_one (sd_if (q := decide (s.left - 1 = 0)) (ptd_eqi (pd_self 0 c.t rfl rfl) pd_int) (fun h => ?_) fun h => ?_)
    · have lk := find_lookup (f := Rw.name) (g := fun r : Rw => PyData.tuple (r.steps.map eSt)) vr
      have hlt : s.place.toNat < (B.rowOf r).steps.length := by omega
      have e0 : ((B.rowOf r).steps.map eSt)[s.place.toNat]? = some (eSt ((B.rowOf r).steps.getD s.place.toNat default)) := by
        rw [List.getElem?_map, List.getD_eq_getElem?_getD, List.getElem?_eq_getElem hlt]; rfl
      have hc : ((B.rowOf r).steps.getD s.place.toNat default).2 ∈ B.commands.map (·.name) := by
        refine ((V.rm _ (find_name (f := Rw.name) vr).1).2.2 _ ?_).2.2
        rw [List.getD_eq_getElem?_getD, List.getElem?_eq_getElem hlt]
        exact List.getElem_mem hlt
      have e : goM B s = beginM B (cmdM B { s with left := s.left - 1 } ((B.rowOf r).steps.getD s.place.toNat default).2) r (s.place + 1) := by unfold goM; rw [hq]; exact if_pos (of_decide_eq_true h)
      rw [e]
      have er : (Ar.d (eO s.row)) = .d (.str r) := by rw [hq]; rfl
      refine sd_cons (sd_par 1 2 rfl scM_Turn_go_on.nd ((pd_self 0 c.t rfl rfl).is er) (pd_self 0 c.t rfl rfl) ?_)
      refine sd_cons (sd_exprM (pm_meth 0 O3 hr rfl rfl (pad_cons (pd_ixt (pd_ixt (pd_ixk hr.units (pd_fld c.g (pd_self 0 c.t rfl rfl) rfl) (pd_var 1) lk) (pd_var 2) (ati_nn h0 e0)) pd_int rfl) pad_nil) ⟨B, { s with left := s.left - 1 }, n, _, V, left_VS vs _, hc, by omega, rfl, rfl, rfl, rfl⟩) ?_)
      exact sd_cons (sd_exprM (pm_meth 0 (O2.lift (by decide)) hr rfl rfl (pad_cons (pd_var 1) (pad_cons (pd_add (pd_var 2) pd_int) pad_nil)) ⟨B, cmdM B { s with left := s.left - 1 } ((B.rowOf r).steps.getD s.place.toNat default).2, n + 2, r, s.place + 1, V, vr, by omega, by omega, rfl, rfl, rfl, rfl⟩) (sd_nil ⟨rfl, rfl⟩))
    · have e : goM B s = { s with left := s.left - 1 } := by unfold goM; rw [hq]; exact if_neg (of_decide_eq_false h)
      rw [e]
      exact sd_weak 0 rfl (fds' := tf CG B { s with left := s.left - 1 } (n + 2)) (leT (s := { s with left := s.left - 1 }) (n := n) (by omega)) (sd_nil ⟨rfl, rfl⟩)
end
end Fw
set_option maxHeartbeats 1000000
namespace Fw
open PySem PySem.Spec PyProof.Rows L2 PySem.W
section
variable {P : Program} {w0 : World} {K : PySem.W.Frag} {mg : Str → Option Value} {base : Heap} {CT CG CS : Addr}
theorem OkF.lift {C : Addr} {m : Str} {ps : List Str} {Cn : List Ar → Ar → Prop} {k k' : Nat} (O : OkF P w0 K mg base k C m ps Cn) (h : k ≤ k') : OkF P w0 K mg base k' C m ps Cn := by
  obtain ⟨f, fd, F, r⟩ := O.ex
  exact ⟨f, fd, F.mono h, r⟩
theorem OkI.lift {C : Addr} {m : Str} {ps : List Str} {Cn : Mc} {k k' : Nat} (O : OkI P w0 K mg base k C m ps Cn) (h : k ≤ k') : OkI P w0 K mg base k' C m ps Cn := by
  obtain ⟨f, fd, F, r⟩ := O.ex
  exact ⟨f, fd, F.mono h, r⟩
theorem OkP.lift {C : Addr} {m : Str} {Cn : List Ar → Ar → Prop} {k k' : Nat} (O : OkP P w0 K mg base k C m Cn) (h : k ≤ k') : OkP P w0 K mg base k' C m Cn := by
  obtain ⟨p, f, fd, F, r⟩ := O.ex
  exact ⟨p, f, fd, F.mono h, r⟩
theorem ansM_VS {B : Bok} (V : VB B) {al : List Str} {s : Std} (h : VS B s) {a : Al} (ha : a ∈ B.alarms) : VS B (ansM B al s a) := by
  unfold ansM
  split
  · exact haltM_VS (effM_VS V h (V.am _ ha).1 (V.am _ ha).2.2)
  · exact h
theorem fold_VS {B : Bok} (V : VB B) {al : List Str} : ∀ {as : List Al} {s : Std}, VS B s → (∀ a ∈ as, a ∈ B.alarms) → VS B (as.foldl (ansM B al) s)
  | [], _, h, _ => h
  | a :: t, s, h, k => fold_VS (as := t) (s := ansM B al s a) V (ansM_VS V h (k _ (List.mem_cons_self ..))) fun a ha => k a (List.mem_cons_of_mem _ ha)
theorem foldl_take {S T : Type} {g : S → T → S} {s : S} {xs : List T} {i : Nat} {x : T} (h : xs[i]? = some x) : (xs.take (i + 1)).foldl g s = g ((xs.take i).foldl g s) x := by
  rw [List.take_succ, h]
  simp
def mAnswer (CG : Addr) : Mc := fun fds ars fds' q => ∃ (B : Bok) (s : Std) (n : Nat) (al : List Str), VB B ∧ VS B s ∧ n < 700 ∧ fds = tf CG B s n ∧ ars = [.d (eL al)] ∧ fds' = tf CG B (answerM B s al) (n + B.alarms.length) ∧ q = .d .none
theorem ok_answer (T : MethAt K CT "answer" "Turn.answer" sM_Turn_answer) (c : Cs K CT CG CS) (O1 : OkM P w0 K mg base 1 CT "halt" ["self"] (mHalt CG)) (O2 : OkM P w0 K mg base 2 CT "effect" ["self", "on", "off", "to"] (mEffect CG)) : OkM P w0 K mg base 3 CT "answer" ["self", "alarms"] (mAnswer CG) := by
  refine okm_mk T c.t.cls scM_Turn_answer (fun _ _ _ _ _ _ us hl => match us, hl with | [_, _], _ => rfl) (fun _ ars _ _ ⟨_, _, _, _, _, _, _, _, e, _⟩ => by rw [e]; rfl) (by decide) fun aa fds ars fds' q cc f cdv A outer s H E hr => ?_
  obtain ⟨B, s, n, al, V, vs, hn, rfl, rfl, rfl, rfl⟩ := cc
  have nd := scM_Turn_answer.nd
  refine sd_one (sd_for (fun i δ => δ = [.gp (gpO CT aa (tf CG B ((B.alarms.take i).foldl (ansM B al) s) (n + i))), .va (.d (eL al)), .no, .no, .no, .no]) (pd_fld c.g (pd_self 0 c.t rfl rfl) rfl) rfl rfl (fun i x δ1 hx hδ => ?_) (fun δ1 hδ => ?_) PassesOwn.never rfl)
  · subst hδ
    rw [List.getElem?_map] at hx
    obtain ⟨a, ha, rfl⟩ := Option.map_eq_some_iff.mp hx
    have hi : i < B.alarms.length := (List.getElem?_eq_some_iff.mp ha).1
    have am := List.mem_of_getElem? ha
    have va := V.am _ am
    have vs1 : VS B ((B.alarms.take i).foldl (ansM B al) s) := fold_VS V vs fun a h => List.mem_of_mem_take h
    have hal := V.al
    rw [foldl_take ha]
    generalize (B.alarms.take i).foldl (ansM B al) s = s1 at vs1
    refine ⟨_, _, gd_tup rfl (gds_cons (gd_name 2 nd) (gds_cons (gd_tup rfl (gds_cons (gd_name 3 nd) (gds_cons (gd_name 4 nd) (gds_cons (gd_name 5 nd) gds_nil)))) gds_nil)), ?_⟩
    refine sd_one (sd_if (q := decide (a.name ∈ al)) (ptd_in (pd_var 2) (pd_var 1) (.inr rfl)) (fun h => ?_) fun h => ?_)
    · have e : ansM B al s1 a = haltM (effM B s1 a.on a.off a.to) := by unfold ansM; exact if_pos (of_decide_eq_true h)
      rw [e]
      refine sd_cons (sd_exprM (pm_meth 0 O2 hr rfl rfl (pad_cons (pd_var 3) (pad_cons (pd_var 4) (pad_cons (pd_var 5) pad_nil))) ⟨B, s1, n + i, a.on, a.off, a.to, V, vs1, va.1, va.2.2, by omega, rfl, rfl, rfl, rfl⟩) ?_)
      refine sd_cons (sd_exprM (pm_meth0 0 (O1.lift (by decide)) hr rfl rfl ⟨B, effM B s1 a.on a.off a.to, n + i + 1, rfl, rfl, rfl, rfl⟩) ?_)
      exact sd_drop 2 (sd_drop 3 (sd_drop 4 (sd_drop 5 (sd_nil rfl))))
    · have e : ansM B al s1 a = s1 := by unfold ansM; exact if_neg (of_decide_eq_false h)
      rw [e]
      exact sd_weak 0 rfl (fds' := tf CG B s1 (n + (i + 1))) (leT (s := s1) (n := n + i) (by omega)) (sd_drop 2 (sd_drop 3 (sd_drop 4 (sd_drop 5 (sd_nil rfl)))))
  · subst hδ
    rw [List.length_map, List.take_length]
    exact ⟨rfl, rfl⟩
def stepF (s : Std) (n : Nat) : List (Str × Ar) := [("standing", .d (eS s)), ("done", .o (rLst n)), ("refused", .o (rLst n)), ("moments", .o (rLst n))]
def mStep : Mc := fun fds ars fds' q => ∃ (s : Std) (n : Nat), fds = [] ∧ ars = [.d (eS s), .o (rLst n), .o (rLst n), .o (rLst n)] ∧ fds' = fdA (stepF s n) ∧ q = .d .none
theorem ok_Step (T : InitAt K mg CS "Step" "Step.__init__" sM_Step_init) (c : Cs K CT CG CS) (B0 : Bt mg) : OkI P w0 K mg base 1 CS "Step" ["self", "standing", "done", "refused", "moments"] mStep := by
  refine oki_mk T scM_Step_init (fun _ _ _ _ _ _ us hl => match us, hl with | [_, _, _, _, _], _ => rfl) (fun _ ars _ _ ⟨_, _, _, e, _⟩ => by rw [e]; rfl) (by decide) fun aa fds ars fds' q cc f cdv A outer s H E hr => ?_
  obtain ⟨s, n, rfl, rfl, rfl, rfl⟩ := cc
  refine sd_cons (sd_sfld 0 c.s rfl (pd_var 1) ?_)
  refine sd_cons (sd_sfld 0 c.s rfl (pd_listR B0 (pd_var 2)) ?_)
  refine sd_cons (sd_sfld 0 c.s rfl (pd_listR B0 (pd_var 3)) ?_)
  exact sd_cons (sd_sfld 0 c.s rfl (pd_listR B0 (pd_var 4)) (sd_nil ⟨rfl, rfl⟩))
def mTurn (CG : Addr) : Mc := fun fds ars fds' q => ∃ (B : Bok) (s : Std), fds = [] ∧ ars = [.o (rObj CG (gearF B)), .d (eS s)] ∧ fds' = tf CG B s 0 ∧ q = .d .none
theorem ok_Turn (T : InitAt K mg CT "Turn" "Turn.__init__" sM_Turn_init) (c : Cs K CT CG CS) : OkI P w0 K mg base 1 CT "Turn" ["self", "gears", "standing"] (mTurn CG) := by
  refine oki_mk T scM_Turn_init (fun _ _ _ _ _ _ us hl => match us, hl with | [_, _, _], _ => rfl) (fun _ ars _ _ ⟨_, _, _, e, _⟩ => by rw [e]; rfl) (by decide) fun aa fds ars fds' q cc f cdv A outer s H E hr => ?_
  obtain ⟨B, s, rfl, rfl, rfl, rfl⟩ := cc
  refine sd_cons (sd_sfld 0 c.t rfl (pd_var 1) ?_)
  refine sd_cons (sd_unpA 0 c.t rfl rfl (pd_var 2) (.cons (by decide) (nble rfl) (.cons (by decide) (nble rfl) (.cons (by decide) (nble rfl) (.cons (by decide) (nble rfl) (.cons (by decide) (nble rfl) (.cons (by decide) (nble rfl) .nil rfl) rfl) rfl) rfl) rfl) rfl) ?_)
  refine sd_cons (sd_slst 0 c.t rfl ?_)
  refine sd_cons (sd_slst 0 c.t rfl ?_)
  exact sd_cons (sd_slst 0 c.t rfl (sd_nil ⟨rfl, rfl⟩))
def cStep (CG CT CS : Addr) (ars : List Ar) (q : Ar) : Prop := ∃ (B : Bok) (s : Std) (n : Nat), ars = [.o (rObj CT (frF (tf CG B s n)))] ∧ q = .o (rObj CS (stepF s n))
theorem ok_step (T : MethAt K CT "step" "Turn.step" sM_Turn_step) (c : Cs K CT CG CS) (O1 : OkI P w0 K mg base 1 CS "Step" ["self", "standing", "done", "refused", "moments"] mStep) : OkF P w0 K mg base 3 CT "step" ["self"] (cStep CG CT CS) := by
  refine okf_mk T c.t.cls scM_Turn_step (fun _ _ _ _ _ _ us hl => match us, hl with | [_], _ => rfl) (fun ars q ⟨_, _, _, e, _⟩ => by rw [e]; rfl) (by decide) fun ars q cc f cdv A outer s H E hr => ?_
  obtain ⟨B, s, n, rfl, rfl⟩ := cc
  refine sd_cons (sd_set 1 scM_Turn_step.nd (pd_tup (pds_cons (pd_fld c.t (pd_var 0) rfl) (pds_cons (pd_fld c.t (pd_var 0) rfl) (pds_cons (pd_fld c.t (pd_var 0) rfl) (pds_cons (pd_fld c.t (pd_var 0) rfl) (pds_cons (pd_fld c.t (pd_var 0) rfl) (pds_cons (pd_fld c.t (pd_var 0) rfl) pds_nil))))))) ?_)
  exact sd_one (sd_ret (pd_make O1 hr (pad_cons (pd_var 1) (pad_cons (pd_fld c.t (pd_var 0) rfl) (pad_cons (pd_fld c.t (pd_var 0) rfl) (pad_cons (pd_fld c.t (pd_var 0) rfl) pad_nil)))) ⟨s, n, rfl, rfl, rfl, rfl⟩) rfl)
def cTick (CG CS : Addr) (ars : List Ar) (q : Ar) : Prop := ∃ (B : Bok) (s : Std) (al : List Str) (o : Ord), VB B ∧ VS B s ∧ VO B o ∧ ars = [.o (rObj CG (gearF B)), .d (eS s), .d (eL al), .d (eOr o)] ∧ q = .o (rObj CS (stepF (tickM B s al o) (B.alarms.length + 8)))
theorem answerM_VS {B : Bok} (V : VB B) {al : List Str} {s : Std} (h : VS B s) : VS B (answerM B s al) := fold_VS V h fun _ h => h
theorem obeyM_VS {B : Bok} (V : VB B) {s : Std} (h : VS B s) {o : Ord} (vo : VO B o) : VS B (obeyM B s o) := by
  cases o with
  | no => exact h
  | doo x => exact cmdM_VS V (sil_VS h 0) vo
  | run x => exact beginM_VS (sil_VS h 0) vo (by decide) (Int.natCast_nonneg _)
  | stop => exact haltM_VS (sil_VS h 0)
theorem waitM_VS {B : Bok} (V : VB B) {s : Std} (h : VS B s) : VS B (waitM B s) := by
  unfold waitM
  split
  · exact h
  · split
    · exact sil_VS (haltM_VS (effM_VS V (sil_VS h _) .nil fun t e => by cases e; exact safe_mem V)) 0
    · exact sil_VS h _
theorem cmdM_row {B : Bok} {s : Std} {x : Str} : (cmdM B s x).row = s.row := by
  unfold cmdM; split
  · exact effM_row
  · rfl
theorem goM_VS {B : Bok} (V : VB B) {s : Std} (h : VS B s) : VS B (goM B s) := by
  unfold goM
  split
  · exact h
  · rename_i r hq
    obtain ⟨vr, h0, h1⟩ := h.ro r hq
    split
    · have hlt : s.place.toNat < (B.rowOf r).steps.length := by omega
      have hc : ((B.rowOf r).steps.getD s.place.toNat default).2 ∈ B.commands.map (·.name) := by
        refine ((V.rm _ (find_name (f := Rw.name) vr).1).2.2 _ ?_).2.2
        rw [List.getD_eq_getElem?_getD, List.getElem?_eq_getElem hlt]
        exact List.getElem_mem hlt
      exact beginM_VS (cmdM_VS V (left_VS h _) hc) vr (by omega) (by omega)
    · exact left_VS h _
theorem tickM_VS {B : Bok} (V : VB B) {s : Std} (h : VS B s) {al : List Str} {o : Ord} (vo : VO B o) : VS B (tickM B s al o) := by
  have h1 := answerM_VS V (al := al) h
  cases o with
  | no => exact goM_VS V (waitM_VS V h1)
  | doo x => exact goM_VS V (obeyM_VS V h1 vo)
  | run x => exact obeyM_VS V h1 vo
  | stop => exact goM_VS V (obeyM_VS V h1 vo)
theorem ok_tick_by (T : DefAt K mg "tick_by" sF_tick_by) (c : Cs K CT CG CS) (O1 : OkI P w0 K mg base 1 CT "Turn" ["self", "gears", "standing"] (mTurn CG)) (O2 : OkM P w0 K mg base 3 CT "answer" ["self", "alarms"] (mAnswer CG)) (O3 : OkM P w0 K mg base 3 CT "wait" ["self"] (mWait CG))
    (O4 : OkM P w0 K mg base 4 CT "obey" ["self", "order"] (mObey CG)) (O5 : OkM P w0 K mg base 4 CT "go_on" ["self"] (mGo CG)) (O6 : OkF P w0 K mg base 3 CT "step" ["self"] (cStep CG CT CS)) : Okd P w0 K mg base 5 "tick_by" ["gears", "standing", "alarms", "order"] (cTick CG CS) := by
  refine okd_mk T scF_tick_by (fun _ _ _ _ _ _ us hl => match us, hl with | [_, _, _, _], _ => rfl) (fun ars q ⟨_, _, _, _, _, _, _, e, _⟩ => by rw [e]; rfl) (by decide) fun ars q cc f cdv A outer s H E hr => ?_
  obtain ⟨B, s, al, o, V, vs, vo, rfl, rfl⟩ := cc
  have nd := scF_tick_by.nd
  have hal := V.al
  have vs1 := answerM_VS V (al := al) vs
  refine sd_cons (sd_make 4 nd O1 (hr.mono (by decide)) (pad_cons (pd_var 0) (pad_cons (pd_var 1) pad_nil)) ⟨B, s, rfl, rfl, rfl, rfl⟩ fun aa => ?_)
  refine sd_cons (sd_exprM (pm_meth 4 (O2.lift (by decide)) hr rfl rfl (pad_cons (pd_var 2) pad_nil) ⟨B, s, 0, al, V, vs, by decide, rfl, rfl, rfl, rfl⟩) ?_)
  refine sd_cons (sd_set 5 nd pd_bl ?_)
  have last : ∀ (s1 : Std) (n : Nat) (b : Bool) (E : DE), VS B s1 → n ≤ B.alarms.length + 4 → (E.rt = fun q' => q' = .o (rObj CS (stepF (if b then s1 else goM B s1) (B.alarms.length + 8)))) → (E.rs = fun _ => True) → SD (Fx P w0 K mg base nF_tick_by "tick_by" sF_tick_by f cdv A outer ‹Shared› H ‹XK›) ((defBody sF_tick_by).drop 4) [.va (.o (rObj CG (gearF B))), .va (.d (eS s)), .va (.d (eL al)), .va (.d (eOr o)), .gp (gpO CT aa (tf CG B s1 n)), .va (.d (.bool b))] E := fun s1 n b E v1 hn h1 h2 => by
    have fin : ∀ s2, (if b then s1 else goM B s1) = s2 → SD (Fx P w0 K mg base nF_tick_by "tick_by" sF_tick_by f cdv A outer ‹Shared› H ‹XK›) ((defBody sF_tick_by).drop 5) [.va (.o (rObj CG (gearF B))), .va (.d (eS s)), .va (.d (eL al)), .va (.d (eOr o)), .gp (gpO CT aa (tf CG B s2 (B.alarms.length + 8))), .va (.d (.bool b))] E := fun s2 e2 =>
      sd_frzG 4 rfl (sd_one (sd_ret (pd_methF (O6.lift (by decide)) hr (pd_var 4) rfl ⟨B, s2, B.alarms.length + 8, rfl, rfl⟩) (by rw [h1, e2]) (by rw [h2]; trivial)))
    refine sd_cons (sd_if (ptd_not (ptd_val (pd_var 5))) (fun h => ?_) fun h => ?_)
    · have hb : b = false := by simpa using h
      subst hb
      refine sd_cons (sd_exprM (pm_meth0 4 O5 hr rfl rfl ⟨B, s1, n, V, v1, by omega, rfl, rfl, rfl, rfl⟩) ?_)
      exact sd_weak 4 rfl (fds' := tf CG B (goM B s1) (B.alarms.length + 8)) (leT (s := goM B s1) (n := n + 2) (by omega)) (sd_nil (fin _ rfl))
    · have hb : b = true := by simpa using h
      subst hb
      exact sd_weak 4 rfl (fds' := tf CG B s1 (B.alarms.length + 8)) (leT (s := s1) (n := n) (by omega)) (sd_nil (fin _ rfl))
  cases o with
  | no => exact sd_cons (sd_if (ptd_isn (pd_var 3) pd_non) (fun _ => sd_cons (sd_exprM (pm_meth0 4 (O3.lift (by decide)) hr rfl rfl ⟨B, answerM B s al, 0 + B.alarms.length, V, vs1, by omega, rfl, rfl, rfl, rfl⟩) (sd_nil (last (waitM B (answerM B s al)) _ false _ (waitM_VS V vs1) (by omega) rfl rfl)))) tt)
  | doo x => exact sd_cons (sd_if (ptd_isn (pd_var 3) pd_non) ff fun _ => sd_cons (sd_setM 5 nd (pm_meth 4 O4 hr rfl rfl (pad_cons (pd_var 3) pad_nil) ⟨B, answerM B s al, 0 + B.alarms.length, .doo x, V, vs1, vo, nofun, by omega, rfl, rfl, rfl, rfl⟩) (sd_nil (last (obeyM B (answerM B s al) (.doo x)) _ _ _ (obeyM_VS V vs1 vo) (by omega) rfl rfl))))
  | run x => exact sd_cons (sd_if (ptd_isn (pd_var 3) pd_non) ff fun _ => sd_cons (sd_setM 5 nd (pm_meth 4 O4 hr rfl rfl (pad_cons (pd_var 3) pad_nil) ⟨B, answerM B s al, 0 + B.alarms.length, .run x, V, vs1, vo, nofun, by omega, rfl, rfl, rfl, rfl⟩) (sd_nil (last (obeyM B (answerM B s al) (.run x)) _ _ _ (obeyM_VS V vs1 vo) (by omega) rfl rfl))))
  | stop => exact sd_cons (sd_if (ptd_isn (pd_var 3) pd_non) ff fun _ => sd_cons (sd_setM 5 nd (pm_meth 4 O4 hr rfl rfl (pad_cons (pd_var 3) pad_nil) ⟨B, answerM B s al, 0 + B.alarms.length, .stop, V, vs1, vo, nofun, by omega, rfl, rfl, rfl, rfl⟩) (sd_nil (last (obeyM B (answerM B s al) .stop) _ _ _ (obeyM_VS V vs1 vo) (by omega) rfl rfl))))
end
end Fw
set_option maxHeartbeats 1000000
namespace Fw
open PySem PySem.Spec PyProof.Rows L2 PySem.W
section
variable {S W : Type}
theorem putW_new {kvs : List (Str × W)} {k : Str} {v : W} (h : k ∉ kvs.map (·.1)) : putW kvs k v = kvs ++ [(k, v)] := by
  unfold putW
  rw [if_neg]
  intro q
  obtain ⟨e, h1, h2⟩ := List.any_eq_true.mp q
  exact h (List.mem_map.mpr ⟨e, h1, of_decide_eq_true h2⟩)
theorem fold_put {kf : S → Str} {vf : S → W} : ∀ {xs : List S} {acc : List (Str × W)}, (xs.map kf).Nodup → (∀ x ∈ xs, kf x ∉ acc.map (·.1)) → xs.foldl (fun acc x => putW acc (kf x) (vf x)) acc = acc ++ xs.map fun x => (kf x, vf x)
  | [], acc, _, _ => by simp
  | x :: t, acc, nd, h => by
    rw [List.map_cons, List.nodup_cons] at nd
    rw [List.foldl_cons, putW_new (h x (List.mem_cons_self ..)), fold_put nd.2 fun y hy => ?_]
    · simp
    · rw [List.map_append, List.mem_append]
      rintro (z | z)
      · exact h y (List.mem_cons_of_mem _ hy) z
      · have : kf y = kf x := by simpa using z
        exact nd.1 (List.mem_map.mpr ⟨y, hy, this⟩)
theorem putAll_map {kf : S → Str} {vf : S → W} {xs : List S} (nd : (xs.map kf).Nodup) : putAll kf vf xs = xs.map fun x => (kf x, vf x) := by
  unfold putAll
  rw [fold_put nd (fun _ _ => by simp)]
  rfl
end
section
variable {P : Program} {w0 : World} {K : PySem.W.Frag} {mg : Str → Option Value} {base : Heap} {CT CG CS CB : Addr}
/-- the module's texts -/
structure Ks (mg : Str → Option Value) : Prop where
  mode : ∃ u, mg "MODE" = some u ∧ RelV (.str "mode") u
  command : ∃ u, mg "COMMAND" = some u ∧ RelV (.str "command") u
  alarm : ∃ u, mg "ALARM" = some u ∧ RelV (.str "alarm") u
  row : ∃ u, mg "ROW" = some u ∧ RelV (.str "row") u
  letters : ∃ u, mg "LETTERS" = some u ∧ RelV (.str "abcdefghijklmnopqrstuvwxyz0123456789") u
  most : ∃ u, mg "MOST_CROWDS" = some u ∧ RelV (.int 500) u
def partF (B : Bok) : List (Str × D) := [("mode", .list (B.modes.map eMd)), ("command", .list (B.cmds.map eCm)), ("alarm", .list (B.alarms.map eAl)), ("row", .list (B.rows.map eRw))]
def bookF (B : Bok) : List (Str × Ar) := [("_holds", .d (.list ((sortS B.holds).map .str))), ("_barred", .d (.list ((FwC.sortT B.barred).map FwC.eT))), ("_parts", .o (rSk (partF B))), ("_quiet", .d (eI B.quiet))]
def rBook (CB : Addr) (B : Bok) : Ar := .o (rObj CB (bookF B))
abbrev LB : List Str := ["_holds", "_barred", "_parts", "_quiet"]
def cProp (CB : Addr) (g : Bok → D) (ars : List Ar) (q : Ar) : Prop := ∃ B, VB B ∧ ars = [rBook CB B] ∧ q = .d (g B)
theorem ok_modes (T : PropAt K CB "modes" "Book.modes" sM_Book_modes) (c : CF K CB LB) (B0 : Bt mg) (Z : Ks mg) : OkP P w0 K mg base 1 CB "modes" (cProp CB fun B => .list (B.modes.map eMd)) := by
  refine okp_mk T c.cls scM_Book_modes (fun _ _ _ _ _ _ us hl => match us, hl with | [_], _ => rfl) (fun ars q ⟨_, _, e, _⟩ => by rw [e]; rfl) (by decide) fun ars q cc f cdv A outer s H E hr => ?_
  obtain ⟨B, V, rfl, rfl⟩ := cc
  exact sd_one (sd_ret (pd_list B0 (pd_ixk hr.units (pd_fld c (pd_var 0) rfl) (pd_gs Z.mode) rfl) rfl) rfl)
theorem ok_commands (T : PropAt K CB "commands" "Book.commands" sM_Book_commands) (c : CF K CB LB) (B0 : Bt mg) (Z : Ks mg) : OkP P w0 K mg base 1 CB "commands" (cProp CB fun B => .list (B.cmds.map eCm)) := by
  refine okp_mk T c.cls scM_Book_commands (fun _ _ _ _ _ _ us hl => match us, hl with | [_], _ => rfl) (fun ars q ⟨_, _, e, _⟩ => by rw [e]; rfl) (by decide) fun ars q cc f cdv A outer s H E hr => ?_
  obtain ⟨B, V, rfl, rfl⟩ := cc
  exact sd_one (sd_ret (pd_list B0 (pd_ixk hr.units (pd_fld c (pd_var 0) rfl) (pd_gs Z.command) rfl) rfl) rfl)
theorem ok_alarms (T : PropAt K CB "alarms" "Book.alarms" sM_Book_alarms) (c : CF K CB LB) (B0 : Bt mg) (Z : Ks mg) : OkP P w0 K mg base 1 CB "alarms" (cProp CB fun B => .list (B.alarms.map eAl)) := by
  refine okp_mk T c.cls scM_Book_alarms (fun _ _ _ _ _ _ us hl => match us, hl with | [_], _ => rfl) (fun ars q ⟨_, _, e, _⟩ => by rw [e]; rfl) (by decide) fun ars q cc f cdv A outer s H E hr => ?_
  obtain ⟨B, V, rfl, rfl⟩ := cc
  exact sd_one (sd_ret (pd_list B0 (pd_ixk hr.units (pd_fld c (pd_var 0) rfl) (pd_gs Z.alarm) rfl) rfl) rfl)
theorem ok_rows (T : PropAt K CB "rows" "Book.rows" sM_Book_rows) (c : CF K CB LB) (B0 : Bt mg) (Z : Ks mg) : OkP P w0 K mg base 1 CB "rows" (cProp CB fun B => .list (B.rows.map eRw)) := by
  refine okp_mk T c.cls scM_Book_rows (fun _ _ _ _ _ _ us hl => match us, hl with | [_], _ => rfl) (fun ars q ⟨_, _, e, _⟩ => by rw [e]; rfl) (by decide) fun ars q cc f cdv A outer s H E hr => ?_
  obtain ⟨B, V, rfl, rfl⟩ := cc
  exact sd_one (sd_ret (pd_list B0 (pd_ixk hr.units (pd_fld c (pd_var 0) rfl) (pd_gs Z.row) rfl) rfl) rfl)
theorem ok_quiet (T : PropAt K CB "quiet" "Book.quiet" sM_Book_quiet) (c : CF K CB LB) : OkP P w0 K mg base 1 CB "quiet" (cProp CB fun B => eI B.quiet) := by
  refine okp_mk T c.cls scM_Book_quiet (fun _ _ _ _ _ _ us hl => match us, hl with | [_], _ => rfl) (fun ars q ⟨_, _, e, _⟩ => by rw [e]; rfl) (by decide) fun ars q cc f cdv A outer s H E hr => ?_
  obtain ⟨B, V, rfl, rfl⟩ := cc
  exact sd_one (sd_ret (pd_fld c (pd_var 0) rfl) rfl)
theorem ok_safe (T : PropAt K CB "safe" "Book.safe" sM_Book_safe) (c : CF K CB LB) (B0 : Bt mg) (Z : Ks mg) : OkP P w0 K mg base 1 CB "safe" (cProp CB fun B => .str B.safe) := by
  refine okp_mk T c.cls scM_Book_safe (fun _ _ _ _ _ _ us hl => match us, hl with | [_], _ => rfl) (fun ars q ⟨_, _, e, _⟩ => by rw [e]; rfl) (by decide) fun ars q cc f cdv A outer s H E hr => ?_
  obtain ⟨B, V, rfl, rfl⟩ := cc
  have h0 : ((B.modes.map eMd))[(0 : Int).toNat]? = some (eMd (B.modes.headD default)) := by
    have := V.m0
    cases h : B.modes with
    | nil => exact absurd h this
    | cons a t => rfl
  exact sd_one (sd_ret (pd_ixt (pd_ixl (pd_ixk hr.units (pd_fld c (pd_var 0) rfl) (pd_gs Z.mode) rfl) pd_int (ati_nn (by decide) h0)) pd_int rfl) rfl)
/-- what Gears asks of the book -/
structure Bp (P : Program) (w0 : World) (K : PySem.W.Frag) (mg : Str → Option Value) (base : Heap) (CB : Addr) : Prop where
  modes : OkP P w0 K mg base 1 CB "modes" (cProp CB fun B => .list (B.modes.map eMd))
  commands : OkP P w0 K mg base 1 CB "commands" (cProp CB fun B => .list (B.cmds.map eCm))
  alarms : OkP P w0 K mg base 1 CB "alarms" (cProp CB fun B => .list (B.alarms.map eAl))
  rows : OkP P w0 K mg base 1 CB "rows" (cProp CB fun B => .list (B.rows.map eRw))
  quiet : OkP P w0 K mg base 1 CB "quiet" (cProp CB fun B => eI B.quiet)
  safe : OkP P w0 K mg base 1 CB "safe" (cProp CB fun B => .str B.safe)
theorem cmds_nd {B : Bok} (V : VB B) : (B.cmds.map (·.name)).Nodup := by
  rw [cmds_names, sortS_eq]
  exact (List.mergeSort_perm _ _).nodup_iff.mpr V.cn
theorem cmds_len {B : Bok} : B.cmds.length = B.commands.length := by
  unfold Bok.cmds
  rw [List.length_map, sortS_eq, List.length_mergeSort, List.length_map]
def mGears (CB : Addr) : Mc := fun fds ars fds' q => ∃ (B : Bok), VB B ∧ fds = [] ∧ ars = [rBook CB B] ∧ fds' = fdA (gearF B) ∧ q = .d .none
theorem ok_Gears (T : InitAt K mg CG "Gears" "Gears.__init__" sM_Gears_init) (c : Cs K CT CG CS) (B0 : Bt mg) (O : Bp P w0 K mg base CB) : OkI P w0 K mg base 3 CG "Gears" ["self", "book"] (mGears CB) := by
  refine oki_mk T scM_Gears_init (fun _ _ _ _ _ _ us hl => match us, hl with | [_, _], _ => rfl) (fun _ ars _ _ ⟨_, _, _, e, _⟩ => by rw [e]; rfl) (by decide) fun aa fds ars fds' q cc f cdv A outer s H E hr => ?_
  obtain ⟨B, V, rfl, rfl, rfl, rfl⟩ := cc
  have nd := scM_Gears_init.nd
  have m1 : putAll Md.name (fun m : Md => PyData.tuple [eL m.on, eL m.off]) B.modes = B.modes.map fun m => (m.name, .tuple [eL m.on, eL m.off]) := putAll_map V.mn
  have m2 : putAll Cm.name (fun c : Cm => PyData.tuple [eL c.modes, eL c.on, eL c.off, eO c.to]) B.cmds = B.cmds.map fun c => (c.name, .tuple [eL c.modes, eL c.on, eL c.off, eO c.to]) := putAll_map (cmds_nd V)
  have m3 : putAll Rw.name (fun r : Rw => PyData.tuple (r.steps.map eSt)) B.rows = B.rows.map fun r => (r.name, .tuple (r.steps.map eSt)) := putAll_map V.rn
  have l1 := V.ml
  have l2 : B.cmds.length ≤ 8 := by rw [cmds_len]; exact V.cl
  have l3 := V.rl
  refine sd_cons (sd_sfld 0 c.g rfl (pd_prop O.safe hr (pd_var 1) ⟨B, V, rfl, rfl⟩) ?_)
  refine sd_cons (sd_sfld 0 c.g rfl (pd_prop O.quiet hr (pd_var 1) ⟨B, V, rfl, rfl⟩) ?_)
  refine sd_cons (sd_sfld 0 c.g rfl (pd_dcS (own := [("name", 2), ("on", 3), ("off", 4)]) (enc := eMd) (xs := B.modes) (kf := Md.name) (vf := fun m => PyData.tuple [eL m.on, eL m.off]) rfl nd (pd_prop O.modes hr (pd_var 1) ⟨B, V, rfl, rfl⟩) rfl (by omega) (bkM_Gears_init (by decide +kernel)) fun x hx => ⟨_, _, fun _ _ _ _ _ => gd_tup rfl (gds_cons (gd_name 2 nd) (gds_cons (gd_name 3 nd) (gds_cons (gd_name 4 nd) gds_nil))), by decide, fun _ _ _ _ _ => pd_var 2, fun _ _ _ _ _ => pd_tup (pds_cons (pd_var 3) (pds_cons (pd_var 4) pds_nil))⟩) ?_)
  rw [m1]
  refine sd_cons (sd_sfld 0 c.g rfl (pd_dcS (own := [("name", 2), ("modes", 5), ("on", 3), ("off", 4), ("to", 6)]) (enc := eCm) (xs := B.cmds) (kf := Cm.name) (vf := fun c => PyData.tuple [eL c.modes, eL c.on, eL c.off, eO c.to]) rfl nd (pd_prop O.commands hr (pd_var 1) ⟨B, V, rfl, rfl⟩) rfl (by omega) (bkM_Gears_init (by decide +kernel)) fun x hx => ⟨_, _, fun _ _ _ _ _ => gd_tup rfl (gds_cons (gd_name 2 nd) (gds_cons (gd_name 5 nd) (gds_cons (gd_name 3 nd) (gds_cons (gd_name 4 nd) (gds_cons (gd_name 6 nd) gds_nil))))), by decide, fun _ _ _ _ _ => pd_var 2, fun _ _ _ _ _ => pd_tup (pds_cons (pd_var 5) (pds_cons (pd_var 3) (pds_cons (pd_var 4) (pds_cons (pd_var 6) pds_nil))))⟩) ?_)
  rw [m2]
  refine sd_cons (sd_sfld 0 c.g rfl (PF.pd (pf_lc0 (own := [("name", 2), ("on", 3), ("off", 4), ("to", 6)]) (enc := eAl) (xs := B.alarms) (f := fun a => .tuple [.str a.name, .tuple [eL a.on, eL a.off, eO a.to]]) rfl nd (pd_prop O.alarms hr (pd_var 1) ⟨B, V, rfl, rfl⟩) rfl (bkM_Gears_init (by decide +kernel)) fun x hx => ⟨_, _, fun _ _ _ _ _ => gd_tup rfl (gds_cons (gd_name 2 nd) (gds_cons (gd_name 3 nd) (gds_cons (gd_name 4 nd) (gds_cons (gd_name 6 nd) gds_nil)))), by decide, fun _ _ _ _ _ => pd_tup (pds_cons (pd_var 2) (pds_cons (pd_tup (pds_cons (pd_var 3) (pds_cons (pd_var 4) (pds_cons (pd_var 6) pds_nil)))) pds_nil))⟩)) ?_)
  refine sd_cons (sd_sfld 0 c.g rfl (pd_dcS (own := [("name", 2), ("steps", 7)]) (enc := eRw) (xs := B.rows) (kf := Rw.name) (vf := fun r => PyData.tuple (r.steps.map eSt)) rfl nd (pd_prop O.rows hr (pd_var 1) ⟨B, V, rfl, rfl⟩) rfl (by omega) (bkM_Gears_init (by decide +kernel)) fun x hx => ⟨_, _, fun _ _ _ _ _ => gd_tup rfl (gds_cons (gd_name 2 nd) (gds_cons (gd_name 7 nd) gds_nil)), by decide, fun _ _ _ _ _ => pd_var 2, fun _ _ _ _ _ => pd_var 7⟩) ?_)
  rw [m3]
  exact sd_nil ⟨rfl, rfl⟩
end
end Fw
set_option maxHeartbeats 1000000
namespace Fw
open PySem PySem.Spec PyProof.Rows L2 PySem.W
theorem lc_str {x : Str} {g : TG} {tt : TT} {te : TE} {vs : List Nat} {σ : L2.St} {H1 : Hp} {D : Addr} {Qd : Hp → Prop} (Pv : Nat → Hp → Prop) (h0 : Pv 0 (upd H1 D (.lst [])))
    (hs : ∀ i c H, x.cps[i]? = some c → Pv i H → g (.str ⟨#[c]⟩) (wipe σ vs) H fun σ2 H2 => wipe σ2 vs = wipe σ vs ∧ tt σ2 H2 fun b H3 =>
      if b = true then te σ2 H3 fun y H4 => ∃ acc, H4 D = some (.lst acc) ∧ acc.length < sizeLine ∧ Pv (i + 1) (upd H4 D (.lst (acc ++ [y]))) else Pv (i + 1) H3) (hd : ∀ H, Pv x.cps.size H → Qd H) :
    ∃ W : Nat → Nat → Hp → Prop, (∃ m, W 0 m (upd H1 D (.lst []))) ∧ ∀ i m H, W i m H →
      ((Its x).stop i H ∧ Qd H) ∨ ((Its x).go i H ∧ ∃ Nx : Hp → Prop, (∀ H', Nx H' → ∃ m', m' < m ∧ W (i + 1) m' H') ∧ ∀ y H', (Its x).yld i H y H' → g y (wipe σ vs) H' fun σ2 H2 => wipe σ2 vs = wipe σ vs ∧ tt σ2 H2 fun b H3 =>
        if b = true then te σ2 H3 fun y H4 => ∃ acc, H4 D = some (.lst acc) ∧ acc.length < sizeLine ∧ Nx (upd H4 D (.lst (acc ++ [y]))) else Nx H3) := by
  refine ⟨fun i m H => m = x.cps.size - i ∧ i ≤ x.cps.size ∧ Pv i H, ⟨x.cps.size, by simp, Nat.zero_le _, h0⟩, ?_⟩
  rintro i m H ⟨rfl, hi, p⟩
  by_cases hlt : i < x.cps.size
  · refine .inr ⟨hlt, Pv (i + 1), fun H' p' => ⟨x.cps.size - (i + 1), by omega, rfl, hlt, p'⟩, fun y H' z => ?_⟩
    obtain ⟨e, c, ec, ey⟩ := z
    subst e ey
    exact hs i c _ ec p
  · have e : i = x.cps.size := by omega
    subst e
    exact .inl ⟨Nat.le_refl _, hd H p⟩
section
variable {X : Cx} {e elt tg it c : Expr} {δ : List Sl} {pos : Pos} {scope : Scope} {own : List (Str × Nat)}
/-- [elt for sign in a text] -/
theorem pf_lcs {x : Str} {f : Nat → D} (hc : X.calm = true) (hN : X.N.Nodup) (hi : PD X it δ (.d (.str x))) (hz : x.cps.size ≤ 1000) (ok : BlkOk X.N X.env.scope scope own)
    (ht : ∀ c : Nat, ∃ δ' js, GB X scope tg (.d (.str ⟨#[c]⟩)) (wipeD δ (own.map (·.2))) δ' js ∧ (∀ j ∈ js, j ∈ own.map (·.2)) ∧ PB X scope elt δ' (.d (f c)))
    (hs : ∀ y, foldedSetIterable it X.env y = pure y := by intro _; rfl) :
    PF X (.ListComp elt [⟨tg, it, [], 0⟩] scope pos) δ (x.cps.toList.map f) := by
  refine .of (pe_lc hc hN (pi_str hi.pe) ok (fun s H C cl fp => pg_ub s H C cl fp) (fun s H C cl fp => pts_nil) (fun s H C cl fp => pe_ub s H C cl fp) hs) fun σ H0 G H Q gs re k => .in gs re fun v H1 G1 g1 a1 => ?_
  cases a1
  have re1 := re.grow g1
  refine ⟨x, rfl, fun P hP => lc_str (fun i H' => ∃ G' acc, Gr G1 H1 G' H' ∧ G' P = none ∧ H' P = some (.lst acc) ∧ DqAll G' acc ((x.cps.toList.take i).map f)) ⟨G1, [], .own g1.s hP, g1.s.free hP, upd_same, by simpa using DqAll.nil⟩ ?_ ?_⟩
  · rintro i c H' hx ⟨G', acc, g', h1, h2, h3⟩
    obtain ⟨δ2, js, hg2, hj, he⟩ := ht c
    refine ⟨.d (.str ⟨#[c]⟩), _, δ2, js, H0, G', hg2, g'.s, (re1.grow g').wipe _, Dq.str _, fun σ2 H2 G2 g2 re2 ag => ⟨?_, ?_⟩⟩
    · rw [ag.wipe hj, wipe_twice]
    · have hP2 := gone h1 h2 g2
      refine tyes_in (ite2 (fun _ => ?_) (fun z => absurd rfl z))
      refine ⟨δ2, _, H0, G2, he, g2.s, re2, fun z H4 G4 g4 a4 => ?_⟩
      obtain ⟨k1, k2, k3, k4⟩ := lc_put g' hP h1 h2 h3 (g2.trans g4) a4
      have hl := dpa_len h3
      rw [List.length_map, List.length_take] at hl
      have acclen : acc.length < sizeLine := by
        rw [sizeLine_eq]
        have : x.cps.toList.length = x.cps.size := Array.length_toList
        omega
      have ex : x.cps.toList[i]? = some c := by rw [Array.getElem?_toList]; exact hx
      exact ⟨acc, k1, acclen, G4, _, k3, k2, upd_same, by rw [List.take_add_one, ex, List.map_append]; exact k4⟩
  · rintro H' ⟨G', acc, g', h1, h2, h3⟩
    rw [← Array.length_toList, List.take_length] at h3
    exact k P acc H' G' (g1.trans g') (g1.h.free hP) h1 h2 h3
end
def letters : Str := "abcdefghijklmnopqrstuvwxyz0123456789"
def isNameM (x : Str) : Bool := (decide ((1 : Int) ≤ (x.length : Int)) && decide ((x.length : Int) ≤ 12)) && x.cps.toList.all fun c => decide (c ∈ letters.cps.toList)
def ltM (x y : Str) : Bool := decide (x.cps.toList < y.cps.toList)
def isLotM (xs : List Str) : Bool := if !(xs.all isNameM) then false else (List.range ((xs.length : Int) - 1).toNat).all fun k => ltM (xs.getD k "") (xs.getD (k + 1) "")
def isLotOfM (xs known : List Str) : Bool := isLotM xs && xs.all fun x => decide (x ∈ known)
def areTurnedM (on off holds : List Str) : Bool := isLotOfM on holds && (isLotOfM off holds && !on.any fun x => decide (x ∈ off))
def toOkM (to : Option Str) (modes : List Str) : Bool := match to with
  | none => true
  | some t => decide (t ∈ modes)
def isEffectM (on off : List Str) (to : Option Str) (holds modes : List Str) : Bool := areTurnedM on off holds && toOkM to modes
def isStepM (p : Int × Str) (commands : List Str) : Bool := (decide (1 ≤ p.1) && decide (p.1 ≤ 9)) && decide (p.2 ∈ commands)
def Short (xs : List Str) : Prop := xs.length ≤ 1000 ∧ ∀ x ∈ xs, x.cps.size ≤ 1000
section
variable {P : Program} {w0 : World} {K : PySem.W.Frag} {mg : Str → Option Value} {base : Heap} {CT CG CS CB : Addr}
def cIsName (ars : List Ar) (q : Ar) : Prop := ∃ x : Str, x.cps.size ≤ 1000 ∧ ars = [.d (.str x)] ∧ q = .d (.bool (isNameM x))
theorem ok_is_name (T : DefAt K mg "is_name" sF_is_name) (B0 : Bt mg) (Z : Ks mg) : Okd P w0 K mg base 1 "is_name" ["text"] cIsName := by
  refine okd_mk T scF_is_name (fun _ _ _ _ _ _ us hl => match us, hl with | [_], _ => rfl) (fun ars q ⟨_, _, e, _⟩ => by rw [e]; rfl) (by decide) fun ars q cc f cdv A outer s H E hr => ?_
  obtain ⟨x, hz, rfl, rfl⟩ := cc
  have nd := scF_is_name.nd
  exact sd_one (sd_ret (pd_and (pd_chain pd_int (pd_lens B0 (pd_var 0) (Nat.le_trans hz (by decide))) pd_int) fun _ => pd_one (pd_allT (g := fun c => decide (c ∈ letters.cps.toList)) B0 rfl (PF.pd (pf_lcs (own := [("sign", 1)]) rfl nd (pd_var 0) hz (bkF_is_name (by decide +kernel)) fun c => ⟨_, _, fun _ _ _ _ _ => gd_name 1 nd, by decide, fun _ _ _ _ _ => pd_sign (pd_var 1) (pd_gs Z.letters)⟩)))) rfl)
def cIsLot (ars : List Ar) (q : Ar) : Prop := ∃ xs : List Str, Short xs ∧ ars = [.d (eL xs)] ∧ q = .d (.bool (isLotM xs))
theorem ok_is_lot (T : DefAt K mg "is_lot" sF_is_lot) (B0 : Bt mg) (O1 : Okd P w0 K mg base 1 "is_name" ["text"] cIsName) : Okd P w0 K mg base 2 "is_lot" ["names"] cIsLot := by
  refine okd_mk T scF_is_lot (fun _ _ _ _ _ _ us hl => match us, hl with | [_], _ => rfl) (fun ars q ⟨_, _, e, _⟩ => by rw [e]; rfl) (by decide) fun ars q cc f cdv A outer s H E hr => ?_
  obtain ⟨xs, hz, rfl, rfl⟩ := cc
  have nd := scF_is_lot.nd
  have hl := hz.1
  refine sd_cons (sd_if (q := !(xs.all isNameM)) (ptd_not (ptd_val (pd_allT (g := isNameM) B0 rfl (PF.pd (pf_lc0 (own := [("name", 1)]) (enc := .str) (xs := xs) rfl nd (pd_var 0) rfl (bkF_is_lot (by decide +kernel)) fun x hx => ⟨_, _, fun _ _ _ _ _ => gd_name 1 nd, by decide, fun _ _ _ _ _ => pd_call O1 hr (pad_cons (pd_var 1) pad_nil) ⟨x, hz.2 x hx, rfl, rfl⟩⟩))))) (fun h => sd_one (sd_ret pd_bl ?_)) fun h => sd_nil (sd_one (sd_ret (pd_allT (g := fun k => ltM (xs.getD k "") (xs.getD (k + 1) "")) B0 rfl (PF.pd (pf_lcr (own := [("k", 2)]) B0 rfl nd (pd_sub (pd_len B0 (pd_var 0) rfl) pd_int) ?_ ?_ (bkF_is_lot (by decide +kernel)) fun k hk => ?_))) ?_)))
  · unfold isLotM; rw [if_pos h]
  · rw [List.length_map]; omega
  · rw [List.length_map]; omega
  · rw [List.length_map] at hk
    have h1 : k < xs.length := by omega
    have h2 : k + 1 < xs.length := by omega
    have e1 : (xs.map PyData.str)[((k : Int)).toNat]? = some (.str (xs.getD k "")) := by
      rw [List.getElem?_map, Int.toNat_natCast, List.getD_eq_getElem?_getD, List.getElem?_eq_getElem h1]; rfl
    have e2 : (xs.map PyData.str)[((k : Int) + 1).toNat]? = some (.str (xs.getD (k + 1) "")) := by
      have : ((k : Int) + 1).toNat = k + 1 := by omega
      rw [List.getElem?_map, this, List.getD_eq_getElem?_getD, List.getElem?_eq_getElem h2]; rfl
    exact ⟨_, _, fun _ _ _ _ _ => gd_name 2 nd, by decide, fun _ _ _ _ _ => pd_lts (pd_ixt (pd_var 0) (pd_var 2) (ati_nn (Int.natCast_nonneg _) e1)) (pd_ixt (pd_var 0) (pd_add (pd_var 2) pd_int) (ati_nn (by omega) e2))⟩
  · unfold isLotM; rw [if_neg (by rw [h]; decide), List.length_map]
def cIsLotOf (ars : List Ar) (q : Ar) : Prop := ∃ (xs ks : List Str) (d : D), Short xs ∧ SeqS d ks ∧ ars = [.d (eL xs), .d d] ∧ q = .d (.bool (isLotOfM xs ks))
theorem ok_is_lot_of (T : DefAt K mg "is_lot_of" sF_is_lot_of) (B0 : Bt mg) (O1 : Okd P w0 K mg base 2 "is_lot" ["names"] cIsLot) : Okd P w0 K mg base 3 "is_lot_of" ["names", "known"] cIsLotOf := by
  refine okd_mk T scF_is_lot_of (fun _ _ _ _ _ _ us hl => match us, hl with | [_, _], _ => rfl) (fun ars q ⟨_, _, _, _, _, e, _⟩ => by rw [e]; rfl) (by decide) fun ars q cc f cdv A outer s H E hr => ?_
  obtain ⟨xs, ks, d, hz, hd, rfl, rfl⟩ := cc
  have nd := scF_is_lot_of.nd
  exact sd_one (sd_ret (pd_and (pd_call O1 hr (pad_cons (pd_var 0) pad_nil) ⟨xs, hz, rfl, rfl⟩) fun _ => pd_one (pd_allT (g := fun x => decide (x ∈ ks)) B0 rfl (PF.pd (pf_lc0 (own := [("name", 2)]) (enc := .str) (xs := xs) rfl nd (pd_var 0) rfl (bkF_is_lot_of (by decide +kernel)) fun x hx => ⟨_, _, fun _ _ _ _ _ => gd_name 2 nd, by decide, fun _ _ _ _ _ => pd_in (pd_var 2) (pd_var 1) hd⟩)))) rfl)
def cAreTurned (ars : List Ar) (q : Ar) : Prop := ∃ (on off hs : List Str), Short on ∧ Short off ∧ ars = [.d (eL on), .d (eL off), .d (.list (hs.map .str))] ∧ q = .d (.bool (areTurnedM on off hs))
theorem ok_are_turned (T : DefAt K mg "are_turned" sF_are_turned) (B0 : Bt mg) (O1 : Okd P w0 K mg base 3 "is_lot_of" ["names", "known"] cIsLotOf) : Okd P w0 K mg base 4 "are_turned" ["on", "off", "holds"] cAreTurned := by
  refine okd_mk T scF_are_turned (fun _ _ _ _ _ _ us hl => match us, hl with | [_, _, _], _ => rfl) (fun ars q ⟨_, _, _, _, _, e, _⟩ => by rw [e]; rfl) (by decide) fun ars q cc f cdv A outer s H E hr => ?_
  obtain ⟨on, off, hs, h1, h2, rfl, rfl⟩ := cc
  have nd := scF_are_turned.nd
  exact sd_one (sd_ret (pd_and (pd_call O1 hr (pad_cons (pd_var 0) (pad_cons (pd_var 2) pad_nil)) ⟨on, hs, _, h1, .inl rfl, rfl, rfl⟩) fun _ => pd_and (pd_call O1 hr (pad_cons (pd_var 1) (pad_cons (pd_var 2) pad_nil)) ⟨off, hs, _, h2, .inl rfl, rfl, rfl⟩) fun _ => pd_one (pd_not (pd_anyT (g := fun x => decide (x ∈ off)) B0 rfl (PF.pd (pf_lc0 (own := [("name", 3)]) (enc := .str) (xs := on) rfl nd (pd_var 0) rfl (bkF_are_turned (by decide +kernel)) fun x hx => ⟨_, _, fun _ _ _ _ _ => gd_name 3 nd, by decide, fun _ _ _ _ _ => pd_in (pd_var 3) (pd_var 1) (.inr rfl)⟩))))) rfl)
def cRequire (ars : List Ar) (q : Ar) : Prop := ars = [.d (.bool true)] ∧ q = .d .none
theorem ok_require (T : DefAt K mg "require" sF_require) : Okd P w0 K mg base 1 "require" ["holds"] cRequire := by
  refine okd_mk T scF_require (fun _ _ _ _ _ _ us hl => match us, hl with | [_], _ => rfl) (fun ars q ⟨e, _⟩ => by rw [e]; rfl) (by decide) fun ars q cc f cdv A outer s H E hr => ?_
  obtain ⟨rfl, rfl⟩ := cc
  exact sd_one (sd_if (ptd_not (ptd_val (pd_var 0))) ff fun _ => sd_nil rfl)
def cReqNames (ars : List Ar) (q : Ar) : Prop := ∃ (xs : List Str) (a b : Int), Short xs ∧ (∀ x ∈ xs, isNameM x = true) ∧ xs.Nodup ∧ a ≤ xs.length ∧ (xs.length : Int) ≤ b ∧ ars = [.d (.list (xs.map .str)), .d (.int a), .d (.int b)] ∧ q = .d .none
theorem ok_require_names (T : DefAt K mg "require_names" sF_require_names) (B0 : Bt mg) (O1 : Okd P w0 K mg base 1 "is_name" ["text"] cIsName) (O2 : Okd P w0 K mg base 1 "require" ["holds"] cRequire) : Okd P w0 K mg base 2 "require_names" ["names", "least", "most"] cReqNames := by
  refine okd_mk T scF_require_names (fun _ _ _ _ _ _ us hl => match us, hl with | [_, _, _], _ => rfl) (fun ars q ⟨_, _, _, _, _, _, _, _, e, _⟩ => by rw [e]; rfl) (by decide) fun ars q cc f cdv A outer s H E hr => ?_
  obtain ⟨xs, a, b, hz, hv, nd', h1, h2, rfl, rfl⟩ := cc
  have nd := scF_require_names.nd
  have hl := hz.1
  refine sd_one (sd_expr (pd_call O2 hr (pad_cons (PD.is (r' := .d (.bool true)) (pd_and (pd_chain (pd_var 1) (pd_len B0 (pd_var 0) rfl) (pd_var 2)) fun _ => pd_and (pd_allT (g := isNameM) B0 rfl (PF.pd (pf_lc0 (own := [("name", 3)]) (enc := .str) (xs := xs) rfl nd (pd_var 0) rfl (bkF_require_names (by decide +kernel)) fun x hx => ⟨_, _, fun _ _ _ _ _ => gd_name 3 nd, by decide, fun _ _ _ _ _ => pd_call O1 hr (pad_cons (pd_var 3) pad_nil) ⟨x, hz.2 x hx, rfl, rfl⟩⟩))) fun _ => pd_one (pd_eqi (pd_lenset B0 rfl (pd_var 0) (by omega) nd') (pd_len B0 (pd_var 0) rfl))) ?_) pad_nil) ⟨rfl, rfl⟩) rfl)
  have hv' : xs.all isNameM = true := List.all_eq_true.mpr hv
  rw [List.length_map, hv', decide_eq_true h1, decide_eq_true h2, decide_eq_true rfl]
  rfl
def cIsEffect (ars : List Ar) (q : Ar) : Prop := ∃ (on off : List Str) (to : Option Str) (hs ms : List Str), Short on ∧ Short off ∧ ars = [.d (eL on), .d (eL off), .d (eO to), .d (.list (hs.map .str)), .d (.list (ms.map .str))] ∧ q = .d (.bool (isEffectM on off to hs ms))
theorem ok_is_effect (T : DefAt K mg "is_effect" sF_is_effect) (B0 : Bt mg) (O1 : Okd P w0 K mg base 4 "are_turned" ["on", "off", "holds"] cAreTurned) : Okd P w0 K mg base 5 "is_effect" ["on", "off", "to", "holds", "modes"] cIsEffect := by
  refine okd_mk T scF_is_effect (fun _ _ _ _ _ _ us hl => match us, hl with | [_, _, _, _, _], _ => rfl) (fun ars q ⟨_, _, _, _, _, _, _, e, _⟩ => by rw [e]; rfl) (by decide) fun ars q cc f cdv A outer s H E hr => ?_
  obtain ⟨on, off, to, hs, ms, h1, h2, rfl, rfl⟩ := cc
  refine sd_one (sd_ret (r := .d (.bool (isEffectM on off to hs ms))) (pd_and (pd_call O1 hr (pad_cons (pd_var 0) (pad_cons (pd_var 1) (pad_cons (pd_var 3) pad_nil))) ⟨on, off, hs, h1, h2, rfl, rfl⟩) fun _ => pd_one ?_) rfl)
  cases to with
  | none => exact (pd_or (q' := false) (pd_isn (pd_var 2) pd_non) tt).is rfl
  | some t => exact (pd_or (pd_isn (pd_var 2) pd_non) fun _ => pd_one (pd_in (pd_var 2) (pd_var 4) (.inl rfl))).is rfl
def cIsStep (ars : List Ar) (q : Ar) : Prop := ∃ (p : Int × Str) (cs : List Str), ars = [.d (eSt p), .d (.list (cs.map .str))] ∧ q = .d (.bool (isStepM p cs))
theorem ok_is_step (T : DefAt K mg "is_step" sF_is_step) (B0 : Bt mg) : Okd P w0 K mg base 1 "is_step" ["step", "commands"] cIsStep := by
  refine okd_mk T scF_is_step (fun _ _ _ _ _ _ us hl => match us, hl with | [_, _], _ => rfl) (fun ars q ⟨_, _, e, _⟩ => by rw [e]; rfl) (by decide) fun ars q cc f cdv A outer s H E hr => ?_
  obtain ⟨p, cs, rfl, rfl⟩ := cc
  exact sd_one (sd_ret ((pd_and (pd_eqi (pd_len B0 (pd_var 0) rfl) pd_int) fun _ => pd_and (pd_chain pd_int (pd_ixt (pd_var 0) pd_int rfl) pd_int) fun _ => pd_one (pd_in (pd_ixt (pd_var 0) pd_int rfl) (pd_var 1) (.inl rfl))).is rfl) rfl)
def cNamesOf (ars : List Ar) (q : Ar) : Prop := ∃ (T : Type) (xs : List T) (enc : T → D) (nm : T → Str), (∀ x, ∃ rest, enc x = .tuple (.str (nm x) :: rest)) ∧ ars = [.d (.list (xs.map enc))] ∧ q = .d (.list ((xs.map nm).map .str))
theorem ok_names_of (T : DefAt K mg "names_of" sF_names_of) : Okd P w0 K mg base 1 "names_of" ["parts"] cNamesOf := by
  refine okd_mk T scF_names_of (fun _ _ _ _ _ _ us hl => match us, hl with | [_], _ => rfl) (fun ars q ⟨_, _, _, _, _, e, _⟩ => by rw [e]; rfl) (by decide) fun ars q cc f cdv A outer s H E hr => ?_
  obtain ⟨T, xs, enc, nm, he, rfl, rfl⟩ := cc
  have nd := scF_names_of.nd
  refine sd_one (sd_ret ((PF.pd (pf_lc0 (own := [("part", 1)]) (enc := enc) (xs := xs) (f := fun x => .str (nm x)) rfl nd (pd_var 0) rfl (bkF_names_of (by decide +kernel)) fun x hx => ?_)).is (by rw [List.map_map]; rfl)) rfl)
  obtain ⟨rest, e⟩ := he x
  refine ⟨_, _, fun _ _ _ _ _ => gd_name 1 nd, by decide, fun _ _ _ _ _ => ?_⟩
  rw [e]
  exact pd_ixt (pd_var 1) pd_int (ati_nn (by decide) rfl)
end
end Fw
set_option maxHeartbeats 1000000
namespace Fw
open PySem PySem.Spec PyProof.Rows L2 PySem.W
def Names (xs : List Str) (a b : Int) : Prop := Short xs ∧ (∀ x ∈ xs, isNameM x = true) ∧ xs.Nodup ∧ a ≤ xs.length ∧ (xs.length : Int) ≤ b
/-- what the making of a book checks -/
structure VC (B : Bok) : Prop where
  ho : Names B.holds 1 6
  mo : Names (B.modes.map (·.name)) 1 5
  co : Names (B.commands.map (·.name)) 0 8
  al : Names (B.alarms.map (·.name)) 0 4
  ro : Names (B.rows.map (·.name)) 0 3
  md : ∀ m ∈ B.modes, Short m.on ∧ Short m.off ∧ areTurnedM m.on m.off B.holds = true
  bn : B.barred.length ≤ 3
  bd : B.barred.Nodup
  bv : ∀ l ∈ B.barred, Short l ∧ 1 < l.length ∧ isLotOfM l B.holds = true
  cm : ∀ c ∈ B.commands, Short c.modes ∧ Short c.on ∧ Short c.off ∧ isLotOfM c.modes (B.modes.map (·.name)) = true ∧ isEffectM c.on c.off c.to B.holds (B.modes.map (·.name)) = true
  am : ∀ c ∈ B.alarms, Short c.on ∧ Short c.off ∧ isEffectM c.on c.off c.to B.holds (B.modes.map (·.name)) = true
  rm : ∀ r ∈ B.rows, 1 ≤ r.steps.length ∧ r.steps.length ≤ 4 ∧ ∀ p ∈ r.steps, isStepM p (B.commands.map (·.name)) = true
  qu : ∀ q, B.quiet = some q → 1 ≤ q ∧ q ≤ 30
def bookA (B : Bok) : List Ar := [.d (.list (B.holds.map .str)), .d (.list (B.modes.map eMd)), .d (.list (B.barred.map FwC.eT)), .d (.list (B.commands.map eCm)), .d (.list (B.alarms.map eAl)), .d (.list (B.rows.map eRw)), .d (eI B.quiet)]
def mBook : Mc := fun fds ars fds' q => ∃ (B : Bok), VC B ∧ fds = [] ∧ ars = bookA B ∧ fds' = fdA (bookF B) ∧ q = .d .none
theorem all_flat {T T1 : Type} {ys : T → List T1} {g : T → T1 → Bool} : ∀ {xs : List T}, (∀ x ∈ xs, ∀ y ∈ ys x, g x y = true) → flat2 ys (fun x y => .bool (g x y)) xs = (List.replicate (xs.flatMap ys).length true).map PyData.bool
  | [], _ => rfl
  | x :: t, h => by
    unfold flat2 at *
    rw [List.flatMap_cons, List.flatMap_cons, List.length_append, ← List.replicate_append_replicate, List.map_append, ← all_flat (xs := t) fun x hx => h x (List.mem_cons_of_mem _ hx)]
    congr 1
    have := h x (List.mem_cons_self ..)
    generalize ys x = zs at this
    induction zs with
    | nil => rfl
    | cons z zs ih =>
      rw [List.map_cons, List.length_cons, List.replicate_succ, List.map_cons]
      show PyData.bool (g x z) :: _ = _
      rw [this z (List.mem_cons_self ..), ih fun y hy => this y (List.mem_cons_of_mem _ hy)]
theorem all_rep (n : Nat) : (List.replicate n true).all id = true := by
  rw [List.all_eq_true]; intro b hb; rw [(List.mem_replicate.mp hb).2]; rfl
section
variable {P : Program} {w0 : World} {K : PySem.W.Frag} {mg : Str → Option Value} {base : Heap} {CT CG CS CB : Addr}
set_option maxHeartbeats 8000000 in
theorem ok_Book (T : InitAt K mg CB "Book" "Book.__init__" sM_Book_init) (c : CF K CB LB) (B0 : Bt mg) (Z : Ks mg) (O1 : Okd P w0 K mg base 1 "require" ["holds"] cRequire) (O2 : Okd P w0 K mg base 2 "require_names" ["names", "least", "most"] cReqNames) (O3 : Okd P w0 K mg base 1 "names_of" ["parts"] cNamesOf)
    (O4 : Okd P w0 K mg base 4 "are_turned" ["on", "off", "holds"] cAreTurned) (O5 : Okd P w0 K mg base 3 "is_lot_of" ["names", "known"] cIsLotOf) (O6 : Okd P w0 K mg base 5 "is_effect" ["on", "off", "to", "holds", "modes"] cIsEffect) (O7 : Okd P w0 K mg base 1 "is_step" ["step", "commands"] cIsStep) :
    OkI P w0 K mg base 6 CB "Book" ["self", "holds", "modes", "barred", "commands", "alarms", "rows", "quiet"] mBook := by
  refine oki_mk T scM_Book_init (fun _ _ _ _ _ _ us hl => match us, hl with | [_, _, _, _, _, _, _, _], _ => rfl) (fun _ ars _ _ ⟨_, _, _, e, _⟩ => by rw [e]; rfl) (by decide) fun aa fds ars fds' q cc f cdv A outer s H E hr => ?_
  obtain ⟨B, V, rfl, rfl, rfl, rfl⟩ := cc
  have nd := scM_Book_init.nd
  have r1 := hr.mono (show 1 ≤ 5 by decide)
  have r2 := hr.mono (show 2 ≤ 5 by decide)
  have nm : ∀ (xs : List Md), cNamesOf [.d (.list (xs.map eMd))] (.d (.list ((xs.map Md.name).map .str))) := fun xs => ⟨Md, xs, eMd, Md.name, fun x => ⟨_, rfl⟩, rfl, rfl⟩
  have nc : ∀ (xs : List Cm), cNamesOf [.d (.list (xs.map eCm))] (.d (.list ((xs.map Cm.name).map .str))) := fun xs => ⟨Cm, xs, eCm, Cm.name, fun x => ⟨_, rfl⟩, rfl, rfl⟩
  have na : ∀ (xs : List Al), cNamesOf [.d (.list (xs.map eAl))] (.d (.list ((xs.map Al.name).map .str))) := fun xs => ⟨Al, xs, eAl, Al.name, fun x => ⟨_, rfl⟩, rfl, rfl⟩
  have nr : ∀ (xs : List Rw), cNamesOf [.d (.list (xs.map eRw))] (.d (.list ((xs.map Rw.name).map .str))) := fun xs => ⟨Rw, xs, eRw, Rw.name, fun x => ⟨_, rfl⟩, rfl, rfl⟩
  refine sd_cons (sd_set 8 nd (pd_lst (pds_cons (pd_tup (pds_cons (pd_var 2) (pds_cons pd_int pds_nil))) (pds_cons (pd_tup (pds_cons (pd_var 4) (pds_cons pd_int pds_nil))) (pds_cons (pd_tup (pds_cons (pd_var 5) (pds_cons pd_int pds_nil))) (pds_cons (pd_tup (pds_cons (pd_var 6) (pds_cons pd_int pds_nil))) pds_nil))))) ?_)
  -- the lengths of the parts
  have ps : ∀ p ∈ ([(B.modes.map eMd, 3), (B.commands.map eCm, 5), (B.alarms.map eAl, 4), (B.rows.map eRw, 2)] : List (List D × Int)), ∀ y ∈ p.1, ∃ ds : List D, y = .tuple ds ∧ (ds.length : Int) = p.2 := by
    intro p hp y hy
    rcases List.mem_cons.mp hp with rfl | hp
    · obtain ⟨x, _, rfl⟩ := List.mem_map.mp hy; exact ⟨_, rfl, rfl⟩
    rcases List.mem_cons.mp hp with rfl | hp
    · obtain ⟨x, _, rfl⟩ := List.mem_map.mp hy; exact ⟨_, rfl, rfl⟩
    rcases List.mem_cons.mp hp with rfl | hp
    · obtain ⟨x, _, rfl⟩ := List.mem_map.mp hy; exact ⟨_, rfl, rfl⟩
    rcases List.mem_cons.mp hp with rfl | hp
    · obtain ⟨x, _, rfl⟩ := List.mem_map.mp hy; exact ⟨_, rfl, rfl⟩
    · cases hp
  have pl : ∀ p ∈ ([(B.modes.map eMd, 3), (B.commands.map eCm, 5), (B.alarms.map eAl, 4), (B.rows.map eRw, 2)] : List (List D × Int)), p.1.length ≤ 1000 := by
    have h1 := V.mo.1.1; have h2 := V.co.1.1; have h3 := V.al.1.1; have h4 := V.ro.1.1
    rw [List.length_map] at h1 h2 h3 h4
    intro p hp
    rcases List.mem_cons.mp hp with rfl | hp
    · simpa using h1
    rcases List.mem_cons.mp hp with rfl | hp
    · simpa using h2
    rcases List.mem_cons.mp hp with rfl | hp
    · simpa using h3
    rcases List.mem_cons.mp hp with rfl | hp
    · simpa using h4
    · cases hp
  refine sd_cons (sd_expr (pd_call O1 r1 (pad_cons ((pd_all (bs := List.replicate _ true) B0 rfl (PF.pd (pf_lc2 (own := [("some", 12), ("many", 13), ("part", 14)]) (vs1 := [14]) (T := List D × Int) (T1 := D) (xs := [(B.modes.map eMd, 3), (B.commands.map eCm, 5), (B.alarms.map eAl, 4), (B.rows.map eRw, 2)]) (enc := fun p => .tuple [.list p.1, .int p.2]) (d1 := fun p => .list p.1) (ys := fun p => p.1) (enc1 := fun d => d) (f := fun _ _ => .bool true) rfl nd (pd_var 8) rfl (bkM_Book_init (by decide +kernel)) (by decide) (nble rfl) pl fun p hp => ⟨_, _, fun _ _ _ _ _ => gd_tup rfl (gds_cons (gd_name 12 nd) (gds_cons (gd_name 13 nd) gds_nil)), by decide, fun _ _ _ _ _ => pd_var 12, by simp [seqD], fun y hy => ?_⟩)) (all_flat fun _ _ _ _ => rfl)).is (r' := .d (.bool true)) (by rw [all_rep])) pad_nil) ⟨rfl, rfl⟩) ?_)
  · obtain ⟨ds, rfl, e2⟩ := ps p hp y hy
    exact ⟨_, _, fun _ _ _ _ _ => gd_name 14 nd, by decide, fun _ _ _ _ _ => (pd_eqi (pd_len B0 (pd_var 14) rfl) (pd_var 13)).is (by rw [decide_eq_true e2])⟩
  refine sd_cons (sd_expr (pd_call O2 r2 (pad_cons (pd_var 1) (pad_cons pd_int (pad_cons pd_int pad_nil))) ⟨B.holds, 1, 6, V.ho.1, V.ho.2.1, V.ho.2.2.1, V.ho.2.2.2.1, V.ho.2.2.2.2, rfl, rfl⟩) ?_)
  refine sd_cons (sd_expr (pd_call O2 r2 (pad_cons (pd_call O3 r1 (pad_cons (pd_var 2) pad_nil) (nm _)) (pad_cons pd_int (pad_cons pd_int pad_nil))) ⟨_, 1, 5, V.mo.1, V.mo.2.1, V.mo.2.2.1, V.mo.2.2.2.1, V.mo.2.2.2.2, rfl, rfl⟩) ?_)
  refine sd_cons (sd_expr (pd_call O2 r2 (pad_cons (pd_call O3 r1 (pad_cons (pd_var 4) pad_nil) (nc _)) (pad_cons pd_int (pad_cons pd_int pad_nil))) ⟨_, 0, 8, V.co.1, V.co.2.1, V.co.2.2.1, V.co.2.2.2.1, V.co.2.2.2.2, rfl, rfl⟩) ?_)
  refine sd_cons (sd_expr (pd_call O2 r2 (pad_cons (pd_call O3 r1 (pad_cons (pd_var 5) pad_nil) (na _)) (pad_cons pd_int (pad_cons pd_int pad_nil))) ⟨_, 0, 4, V.al.1, V.al.2.1, V.al.2.2.1, V.al.2.2.2.1, V.al.2.2.2.2, rfl, rfl⟩) ?_)
  refine sd_cons (sd_expr (pd_call O2 r2 (pad_cons (pd_call O3 r1 (pad_cons (pd_var 6) pad_nil) (nr _)) (pad_cons pd_int (pad_cons pd_int pad_nil))) ⟨_, 0, 3, V.ro.1, V.ro.2.1, V.ro.2.2.1, V.ro.2.2.2.1, V.ro.2.2.2.2, rfl, rfl⟩) ?_)
  refine sd_cons (sd_set 9 nd (pd_call O3 r1 (pad_cons (pd_var 2) pad_nil) (nm _)) ?_)
  have allT : ∀ {T : Type} {xs : List T} {g : T → Bool}, (∀ x ∈ xs, g x = true) → (Ar.d (.bool (xs.all g))) = .d (.bool true) := fun h => by rw [List.all_eq_true.mpr h]
  refine sd_cons (sd_expr (pd_call O1 r1 (pad_cons ((pd_allT (g := fun m : Md => areTurnedM m.on m.off B.holds) B0 rfl (PF.pd (pf_lc0 (own := [("_", 15), ("on", 16), ("off", 17)]) (enc := eMd) (xs := B.modes) rfl nd (pd_var 2) rfl (bkM_Book_init (by decide +kernel)) fun x hx => ⟨_, _, fun _ _ _ _ _ => gd_tup rfl (gds_cons (gd_name 15 nd) (gds_cons (gd_name 16 nd) (gds_cons (gd_name 17 nd) gds_nil))), by decide, fun _ _ _ _ _ => pd_call O4 (hr.mono (by decide)) (pad_cons (pd_var 16) (pad_cons (pd_var 17) (pad_cons (pd_var 1) pad_nil))) ⟨x.on, x.off, B.holds, (V.md x hx).1, (V.md x hx).2.1, rfl, rfl⟩⟩))).is (allT fun x hx => (V.md x hx).2.2)) pad_nil) ⟨rfl, rfl⟩) ?_)
  have lb := V.bn
  refine sd_cons (sd_expr (pd_call O1 r1 (pad_cons ((pd_and (pd_le (pd_len B0 (pd_var 3) rfl) pd_int) fun _ => pd_one (pd_eqi (pd_lensetT (xs := B.barred) B0 rfl hr.units (pd_var 3) V.bn V.bd) (pd_len B0 (pd_var 3) rfl))).is (r' := .d (.bool true)) (by rw [List.length_map, decide_eq_true (show (B.barred.length : Int) ≤ 8 by omega), decide_eq_true rfl]; rfl)) pad_nil) ⟨rfl, rfl⟩) ?_)
  refine sd_cons (sd_expr (pd_call O1 r1 (pad_cons ((pd_allT (g := fun l : List Str => decide ((1 : Int) < (l.length : Int)) && isLotOfM l B.holds) B0 rfl (PF.pd (pf_lc0 (own := [("lot", 18)]) (enc := FwC.eT) (xs := B.barred) rfl nd (pd_var 3) rfl (bkM_Book_init (by decide +kernel)) fun x hx => ⟨_, _, fun _ _ _ _ _ => gd_name 18 nd, by decide, fun _ _ _ _ _ => (pd_and (pd_gt (pd_len B0 (pd_var 18) rfl) pd_int) fun _ => pd_one (pd_call O5 (hr.mono (by decide)) (pad_cons (pd_var 18) (pad_cons (pd_var 1) pad_nil)) ⟨x, B.holds, _, (V.bv x hx).1, .inl rfl, rfl, rfl⟩)).is (by rw [List.length_map])⟩))).is (allT fun x hx => by rw [decide_eq_true (show (1 : Int) < (x.length : Int) by have := (V.bv x hx).2.1; omega), (V.bv x hx).2.2]; rfl)) pad_nil) ⟨rfl, rfl⟩) ?_)
  refine sd_cons (sd_expr (pd_call O1 r1 (pad_cons ((pd_allT (g := fun c : Cm => isLotOfM c.modes (B.modes.map (·.name))) B0 rfl (PF.pd (pf_lc0 (own := [("_", 15), ("some", 12)]) (enc := eCm) (xs := B.commands) rfl nd (pd_var 4) rfl (bkM_Book_init (by decide +kernel)) fun x hx => ⟨_, _, fun _ _ _ _ _ => gd_tup rfl (gds_cons (gd_name 15 nd) (gds_cons (gd_name 12 nd) (gds_cons (gd_name 15 nd) (gds_cons (gd_name 15 nd) (gds_cons (gd_name 15 nd) gds_nil))))), by decide, fun _ _ _ _ _ => pd_call O5 (hr.mono (by decide)) (pad_cons (pd_var 12) (pad_cons (pd_var 9) pad_nil)) ⟨x.modes, _, _, (V.cm x hx).1, .inl rfl, rfl, rfl⟩⟩))).is (allT fun x hx => (V.cm x hx).2.2.2.1)) pad_nil) ⟨rfl, rfl⟩) ?_)
  refine sd_cons (sd_expr (pd_call O1 r1 (pad_cons ((pd_allT (g := fun c : Cm => isEffectM c.on c.off c.to B.holds (B.modes.map (·.name))) B0 rfl (PF.pd (pf_lc0 (own := [("_", 15), ("on", 16), ("off", 17), ("to", 19)]) (enc := eCm) (xs := B.commands) rfl nd (pd_var 4) rfl (bkM_Book_init (by decide +kernel)) fun x hx => ⟨_, _, fun _ _ _ _ _ => gd_tup rfl (gds_cons (gd_name 15 nd) (gds_cons (gd_name 15 nd) (gds_cons (gd_name 16 nd) (gds_cons (gd_name 17 nd) (gds_cons (gd_name 19 nd) gds_nil))))), by decide, fun _ _ _ _ _ => pd_call O6 hr (pad_cons (pd_var 16) (pad_cons (pd_var 17) (pad_cons (pd_var 19) (pad_cons (pd_var 1) (pad_cons (pd_var 9) pad_nil))))) ⟨x.on, x.off, x.to, B.holds, _, (V.cm x hx).2.1, (V.cm x hx).2.2.1, rfl, rfl⟩⟩))).is (allT fun x hx => (V.cm x hx).2.2.2.2)) pad_nil) ⟨rfl, rfl⟩) ?_)
  refine sd_cons (sd_expr (pd_call O1 r1 (pad_cons ((pd_allT (g := fun c : Al => isEffectM c.on c.off c.to B.holds (B.modes.map (·.name))) B0 rfl (PF.pd (pf_lc0 (own := [("_", 15), ("on", 16), ("off", 17), ("to", 19)]) (enc := eAl) (xs := B.alarms) rfl nd (pd_var 5) rfl (bkM_Book_init (by decide +kernel)) fun x hx => ⟨_, _, fun _ _ _ _ _ => gd_tup rfl (gds_cons (gd_name 15 nd) (gds_cons (gd_name 16 nd) (gds_cons (gd_name 17 nd) (gds_cons (gd_name 19 nd) gds_nil)))), by decide, fun _ _ _ _ _ => pd_call O6 hr (pad_cons (pd_var 16) (pad_cons (pd_var 17) (pad_cons (pd_var 19) (pad_cons (pd_var 1) (pad_cons (pd_var 9) pad_nil))))) ⟨x.on, x.off, x.to, B.holds, _, (V.am x hx).1, (V.am x hx).2.1, rfl, rfl⟩⟩))).is (allT fun x hx => (V.am x hx).2.2)) pad_nil) ⟨rfl, rfl⟩) ?_)
  refine sd_cons (sd_expr (pd_call O1 r1 (pad_cons ((pd_allT (g := fun r : Rw => decide ((1 : Int) ≤ (r.steps.length : Int)) && decide ((r.steps.length : Int) ≤ 4)) B0 rfl (PF.pd (pf_lc0 (own := [("_", 15), ("steps", 20)]) (enc := eRw) (xs := B.rows) rfl nd (pd_var 6) rfl (bkM_Book_init (by decide +kernel)) fun x hx => ⟨_, _, fun _ _ _ _ _ => gd_tup rfl (gds_cons (gd_name 15 nd) (gds_cons (gd_name 20 nd) gds_nil)), by decide, fun _ _ _ _ _ => (pd_chain pd_int (pd_len B0 (pd_var 20) rfl) pd_int).is (by rw [List.length_map])⟩))).is (allT fun x hx => by rw [decide_eq_true (show (1 : Int) ≤ (x.steps.length : Int) by have := (V.rm x hx).1; omega), decide_eq_true (show (x.steps.length : Int) ≤ 4 by have := (V.rm x hx).2.1; omega)]; rfl)) pad_nil) ⟨rfl, rfl⟩) ?_)
  have lr : B.rows.length ≤ 1000 := by have h4 := V.ro.1.1; rwa [List.length_map] at h4
  refine sd_cons (sd_expr (pd_call O1 r1 (pad_cons ((pd_all (bs := List.replicate _ true) B0 rfl (PF.pd (pf_lc2 (own := [("_", 15), ("steps", 20), ("step", 21)]) (vs1 := [21]) (xs := B.rows) (enc := eRw) (d1 := fun r => .tuple (r.steps.map eSt)) (ys := fun r => r.steps) (enc1 := eSt) (f := fun _ p => .bool (isStepM p (B.commands.map (·.name)))) rfl nd (pd_var 6) rfl (bkM_Book_init (by decide +kernel)) (by decide) lr (fun r hr => by have := (V.rm r hr).2.1; omega) fun r hr' => ⟨_, _, fun _ _ _ _ _ => gd_tup rfl (gds_cons (gd_name 15 nd) (gds_cons (gd_name 20 nd) gds_nil)), by decide, fun _ _ _ _ _ => pd_var 20, rfl, fun y hy => ⟨_, _, fun _ _ _ _ _ => gd_name 21 nd, by decide, fun _ _ _ _ _ => pd_call O7 r1 (pad_cons (pd_var 21) (pad_cons (pd_call O3 r1 (pad_cons (pd_var 4) pad_nil) (nc _)) pad_nil)) ⟨y, _, rfl, rfl⟩⟩⟩)) (all_flat fun r hr y hy => (V.rm r hr).2.2 y hy)).is (r' := .d (.bool true)) (by rw [all_rep])) pad_nil) ⟨rfl, rfl⟩) ?_)
  have hq : PD (Fx P w0 K mg base nM_Book_init "Book.__init__" sM_Book_init f cdv A outer ‹Shared› H ‹XK›) (match (defBody sM_Book_init).getD 16 (.Pass ⟨0, 0, 0, 0⟩) with | .Expr (.Call _ [e] _ _) _ => e | _ => .Constant .none 0 ⟨0, 0, 0, 0⟩) ((((startM nM_Book_init (gpO CB aa []) (bookA B)).set 8 (.va (.d (.list [.tuple [.list (B.modes.map eMd), .int 3], .tuple [.list (B.commands.map eCm), .int 5], .tuple [.list (B.alarms.map eAl), .int 4], .tuple [.list (B.rows.map eRw), .int 2]])))).set 9 (.va (.d (.list ((B.modes.map Md.name).map .str)))))) (.d (.bool true)) := by
    have vq := V.qu
    have e7 : ((startM nM_Book_init (gpO CB aa []) (bookA B)).set 8 (.va (.d (.list [.tuple [.list (B.modes.map eMd), .int 3], .tuple [.list (B.commands.map eCm), .int 5], .tuple [.list (B.alarms.map eAl), .int 4], .tuple [.list (B.rows.map eRw), .int 2]]))))[7]? = some (.va (.d (eI B.quiet))) := rfl
    cases h : B.quiet with
    | none =>
      exact (pd_or (q' := false) ((pd_isn (d := .none) (pd_var 7 (hi := by rw [List.getElem?_set_ne (by decide), e7, h]; rfl)) pd_non)) tt).is rfl
    | some k =>
      obtain ⟨k1, k2⟩ := vq k h
      exact (pd_or ((pd_isn (d := .int k) (pd_var 7 (hi := by rw [List.getElem?_set_ne (by decide), e7, h]; rfl)) pd_non)) fun _ => pd_one (pd_chain (j := k) pd_int (pd_var 7 (hi := by rw [List.getElem?_set_ne (by decide), e7, h]; rfl)) pd_int)).is (by rw [decide_eq_true k1, decide_eq_true k2]; rfl)
  refine sd_cons (sd_expr (pd_call O1 r1 (pad_cons hq pad_nil) ⟨rfl, rfl⟩) ?_)
  refine sd_cons (sd_sfld 0 c rfl ((PF.pd (pf_sortedSq (xs := B.holds) B0 hr.units (pd_var 1) rfl)).is (by rw [← sortS_eq])) ?_)
  refine sd_cons (sd_sfld 0 c rfl (PF.pd (pf_sortedQ (ts := B.barred) (enc := FwC.eT) B0 hr.units (pd_var 3) rfl (FwC.tps_alike _) (.inl fun d hd => ?_) fun t _ => FwC.eT_depth t)) ?_)
  · obtain ⟨l, hl, rfl⟩ := List.mem_map.mp hd
    have := (V.bv l hl).2.1
    cases l with
    | nil => simp at this
    | cons a t => exact ⟨_, _, rfl⟩
  have lc : B.commands.length ≤ 1000 := by have h4 := V.co.1.1; rwa [List.length_map] at h4
  have m1 : putAll Cm.name eCm B.commands = B.commands.map fun c => (c.name, eCm c) := putAll_map V.co.2.2.1
  refine sd_cons (sd_set 10 nd (pd_dcS (own := [("command", 22)]) (enc := eCm) (xs := B.commands) (kf := Cm.name) (vf := eCm) rfl nd (pd_var 4) rfl lc (bkM_Book_init (by decide +kernel)) fun x hx => ⟨_, _, fun _ _ _ _ _ => gd_name 22 nd, by decide, fun _ _ _ _ _ => pd_ixt (pd_var 22) pd_int rfl, fun _ _ _ _ _ => pd_var 22⟩) ?_)
  rw [m1]
  have ek : ((B.commands.map fun c => (c.name, eCm c)).map (·.1)).mergeSort leS = sortS (B.commands.map (·.name)) := by rw [List.map_map, sortS_eq]; rfl
  have eo : tell (sortS (B.commands.map (·.name))) (fun _ => true) (fun x => eCm (B.cmdOf x)) = B.cmds.map eCm := by rw [tell_all]; unfold Bok.cmds; rw [List.map_map]; rfl
  refine sd_cons (sd_setlc 11 (own := [("name", 23)]) (enc := .str) (xs := sortS (B.commands.map (·.name))) (p := fun _ => true) (f := fun x => eCm (B.cmdOf x)) (ifs := []) rfl nd ((PF.pd (pf_sortedk B0 rfl hr.units (pd_var 10))).is (by rw [ek])) rfl (bkM_Book_init (by decide +kernel)) (fun x hx => ⟨_, _, fun _ _ _ _ _ => gd_name 23 nd, by decide, rfl, fun _ _ _ _ _ _ => pd_ixk hr.units (pd_var 10) (pd_var 23) ?_⟩) ?_ rfl)
  · rw [sortS_eq] at hx
    exact find_lookup (f := Cm.name) ((List.mergeSort_perm _ _).mem_iff.mp hx)
  rw [eo]
  refine sd_cons (sd_sfld 0 c rfl (pd_disp (.cons (pd_gs Z.mode) (pd_list B0 (pd_var 2) rfl) (.cons (pd_gs Z.command) (pd_var 11) (.cons (pd_gs Z.alarm) (pd_list B0 (pd_var 5) rfl) (.cons (pd_gs Z.row) (pd_list B0 (pd_var 6) rfl) .nil)))) (h15 := nble rfl) (h15' := nble rfl)) ?_)
  exact sd_cons (sd_sfld 0 c rfl (pd_var 7) (sd_nil ⟨rfl, rfl⟩))
end
end Fw
set_option maxHeartbeats 1000000
namespace Fw
open PySem PySem.Spec PyProof.Rows L2 PySem.W
section
variable {P : Program} {w0 : World} {K : PySem.W.Frag} {mg : Str → Option Value} {base : Heap} {CT CG CS CB : Addr}
/-- a book's orders -/
def orderMs (B : Bok) : List Ord := (Ord.no :: B.cmds.map fun c => .doo c.name) ++ (sortS (B.rows.map (·.name))).map .run ++ [.stop]
def cOrders (CB : Addr) (ars : List Ar) (q : Ar) : Prop := ∃ B, VB B ∧ ars = [rBook CB B] ∧ q = .d (.list ((orderMs B).map eOr))
theorem ok_orders_of (T : DefAt K mg "orders_of" sF_orders_of) (B0 : Bt mg) (O : Bp P w0 K mg base CB) : Okd P w0 K mg base 3 "orders_of" ["book"] (cOrders CB) := by
  refine okd_mk T scF_orders_of (fun _ _ _ _ _ _ us hl => match us, hl with | [_], _ => rfl) (fun ars q ⟨_, _, e, _⟩ => by rw [e]; rfl) (by decide) fun ars q cc f cdv A outer s H E hr => ?_
  obtain ⟨B, V, rfl, rfl⟩ := cc
  have nd := scF_orders_of.nd
  have l2 : B.cmds.length ≤ 8 := by rw [cmds_len]; exact V.cl
  have l3 := V.rl
  have r1 := hr.mono (show 2 ≤ 2 by decide)
  refine sd_cons (sd_set 1 nd ((PF.pd (pf_cat (pd_lst (pds_cons pd_non pds_nil)) (PF.pd (pf_lc0 (own := [("command", 2)]) (enc := eCm) (xs := B.cmds) (f := fun c => eOr (.doo c.name)) rfl nd (pd_prop O.commands r1 (pd_var 0) ⟨B, V, rfl, rfl⟩) rfl (bkF_orders_of (by decide +kernel)) fun x hx => ⟨_, _, fun _ _ _ _ _ => gd_name 2 nd, by decide, fun _ _ _ _ _ => pd_tup (pds_cons pd_str (pds_cons (pd_ixt (pd_var 2) pd_int rfl) pds_nil))⟩)) ?_))) ?_)
  · simp; omega
  refine sd_one (sd_ret ((PF.pd (pf_cat (PF.pd (pf_cat (pd_var 1) (PF.pd (pf_lc0 (own := [("name", 3)]) (enc := .str) (xs := sortS (B.rows.map (·.name))) (f := fun n => eOr (.run n)) rfl nd ((PF.pd (pf_sortedSq (xs := B.rows.map (·.name)) B0 hr.units ((PF.pd (pf_lc0 (own := [("row", 4)]) (enc := eRw) (xs := B.rows) (f := fun r => .str r.name) rfl nd (pd_prop O.rows r1 (pd_var 0) ⟨B, V, rfl, rfl⟩) rfl (bkF_orders_of (by decide +kernel)) fun x hx => ⟨_, _, fun _ _ _ _ _ => gd_name 4 nd, by decide, fun _ _ _ _ _ => pd_ixt (pd_var 4) pd_int rfl⟩)).is (by rw [show (fun r : Rw => PyData.str r.name) = PyData.str ∘ Rw.name from rfl, ← List.map_map])) rfl)).is (by rw [← sortS_eq])) rfl (bkF_orders_of (by decide +kernel)) fun x hx => ⟨_, _, fun _ _ _ _ _ => gd_name 3 nd, by decide, fun _ _ _ _ _ => pd_tup (pds_cons pd_str (pds_cons (pd_var 3) pds_nil))⟩)) ?_)) (pd_lst (pds_cons (pd_tup (pds_cons pd_str pds_nil)) pds_nil)) ?_)).is ?_) rfl)
  · simp [sortS_eq]; omega
  · simp [sortS_eq]; omega
  · simp [orderMs, eOr, Function.comp_def]
end
end Fw
set_option maxHeartbeats 1000000
namespace Fw
open PySem PySem.Spec PyProof.Rows L2 PySem.W
mutual
theorem eqv_key : ∀ {d e : D}, keyable d = true → keyable e = true → (PyData.eqv d e = true ↔ d = e)
  | .none, e, _, h => by cases e <;> simp_all [keyable, PyData.eqv]
  | .bool _, _, h, _ => by simp [keyable] at h
  | .int i, e, _, h => by cases e <;> simp_all [keyable, PyData.eqv]
  | .str i, e, _, h => by cases e <;> simp_all [keyable, PyData.eqv]
  | .list _, _, h, _ => by simp [keyable] at h
  | .dict _, _, h, _ => by simp [keyable] at h
  | .tuple ds, e, h1, h2 => by
    cases e with
    | tuple es =>
      have := eqvs_key (ds := ds) (es := es) (by simpa [keyable] using h1) (by simpa [keyable] using h2)
      simp only [PyData.eqv, this, PyData.tuple.injEq]
    | _ => simp_all [keyable, PyData.eqv]
theorem eqvs_key : ∀ {ds es : List D}, keyables ds = true → keyables es = true → (PyData.eqvAll ds es = true ↔ ds = es)
  | [], es, _, _ => by cases es <;> simp [PyData.eqvAll]
  | d :: ds, es, h1, h2 => by
    cases es with
    | nil => simp [PyData.eqvAll]
    | cons e es =>
      simp only [keyables, Bool.and_eq_true] at h1 h2
      have a := eqv_key h1.1 h2.1
      have b := eqvs_key h1.2 h2.2
      simp only [PyData.eqvAll, Bool.and_eq_true, a, b, List.cons.injEq]
end
theorem keyables_strs : ∀ xs : List Str, keyables (xs.map .str) = true
  | [] => rfl
  | _ :: xs => by simp only [List.map_cons, keyables, keyable, keyables_strs xs, Bool.and_self]
theorem keyables_map {T : Type} {f : T → D} (h : ∀ x, keyable (f x) = true) : ∀ xs : List T, keyables (xs.map f) = true
  | [] => rfl
  | x :: xs => by simp only [List.map_cons, keyables, h x, keyables_map h xs, Bool.and_self]
theorem eO_key (x : Option Str) : keyable (eO x) = true := by cases x <;> rfl
theorem eL_key (xs : List Str) : keyable (eL xs) = true := keyables_strs xs
theorem eS_key (s : Std) : keyable (eS s) = true := by
  show keyables _ = true
  simp only [keyables, keyable, eL_key, eO_key, Bool.and_self]
theorem strs_inj {xs ys : List Str} (h : xs.map PyData.str = ys.map PyData.str) : xs = ys := List.map_inj_right (fun _ _ h => PyData.str.inj h) |>.mp h
theorem eL_inj {xs ys : List Str} (h : eL xs = eL ys) : xs = ys := strs_inj (PyData.tuple.inj h)
theorem eO_inj {x y : Option Str} (h : eO x = eO y) : x = y := by
  cases x <;> cases y
  · rfl
  · cases h
  · cases h
  · cases h; rfl
theorem eS_inj {a b : Std} (h : eS a = eS b) : a = b := by
  obtain ⟨a1, a2, a3, a4, a5, a6⟩ := a
  obtain ⟨b1, b2, b3, b4, b5, b6⟩ := b
  have h := PyData.tuple.inj h
  simp only [List.cons.injEq, PyData.str.injEq, PyData.int.injEq] at h
  obtain ⟨h1, h2, h3, h4, h5, h6, _⟩ := h
  rw [h1, eL_inj h2, eO_inj h3, h4, h5, h6]
theorem depthAll_texts : ∀ xs : List Str, NestedKey.depthAll (keysOf (xs.map .str)) = 0
  | [] => rfl
  | x :: xs => by
    show max (NestedKey.depth (.text x)) (NestedKey.depthAll (keysOf (xs.map .str))) = 0
    rw [depthAll_texts xs]; rfl
theorem eS_low (s : Std) : (keyOf (eS s)).depth ≤ 2 := by
  have h : (keyOf (eL s.lot)).depth ≤ 1 := by
    show NestedKey.depthAll (keysOf (s.lot.map .str)) + 1 ≤ 1
    rw [depthAll_texts]; exact Nat.le_refl _
  have h2 : (keyOf (eO s.row)).depth = 0 := by cases s.row <;> rfl
  have e : (keyOf (eS s)).depth = NestedKey.depthAll [.text s.mode, keyOf (eL s.lot), keyOf (eO s.row), .num s.place, .num s.left, .num s.sil] + 1 := rfl
  rw [e]
  simp only [NestedKey.depthAll, NestedKey.depth, h2]
  omega
theorem depthAll_eS : ∀ xs : List Std, NestedKey.depthAll (keysOf (xs.map eS)) ≤ 2
  | [] => by show (0 : Nat) ≤ 2; omega
  | x :: xs => by
    show max (keyOf (eS x)).depth (NestedKey.depthAll (keysOf (xs.map eS))) ≤ 2
    have h1 := depthAll_eS xs
    have h2 := eS_low x
    omega
def KyS : Ky Std where
  enc := eS
  tup := fun s => ⟨_, rfl⟩
  ok := eS_key
  low := fun s => Nat.le_trans (eS_low s) (by decide)
  inj := fun _ _ h => eS_inj h
def eC (cr : List Std) : D := .tuple (cr.map eS)
def KyC : Ky (List Std) where
  enc := eC
  tup := fun s => ⟨_, rfl⟩
  ok := fun cr => keyables_map eS_key cr
  low := fun cr => by
    show NestedKey.depthAll (keysOf (cr.map eS)) + 1 ≤ 8
    have := depthAll_eS cr
    omega
  inj := fun a b h => List.map_inj_right (fun _ _ h => eS_inj h) |>.mp (PyData.tuple.inj h)
theorem eqv_eS {a b : Std} : PyData.eqv (eS a) (eS b) = decide (a = b) := by
  have h := eqv_key (eS_key a) (eS_key b)
  by_cases e : a = b
  · subst e; rw [decide_eq_true rfl]; exact h.mpr rfl
  · rw [decide_eq_false e]
    cases q : PyData.eqv (eS a) (eS b) with
    | false => rfl
    | true => exact absurd (eS_inj (h.mp q)) e
theorem depth_texts1 : ∀ xs : List Str, PyData.depthAll (xs.map .str) = 0
  | [] => rfl
  | x :: xs => by
    show max (PyData.depth (.str x)) (PyData.depthAll (xs.map .str)) = 0
    rw [depth_texts1 xs]; rfl
theorem lay_texts : ∀ {xs : List Str}, (∀ x ∈ xs, PyData.strOk x = true) → PyData.canLayAll0 (xs.map .str) = true
  | [], _ => rfl
  | x :: xs, h => by
    show (PyData.strOk x && PyData.canLayAll0 (xs.map .str)) = true
    rw [h x (List.mem_cons_self ..), lay_texts fun y hy => h y (List.mem_cons_of_mem _ hy)]; rfl
/-- the texts of a standing may be laid -/
structure OkS (s : Std) : Prop where
  mo : PyData.strOk s.mode = true
  lo : ∀ x ∈ s.lot, PyData.strOk x = true
  ro : ∀ r, s.row = some r → PyData.strOk r = true
theorem eS_lay {s : Std} (h : OkS s) : (eS s).canLay0 = true := by
  have h1 := h.mo
  have h2 := lay_texts h.lo
  have h3 : (eO s.row).canLay0 = true := by
    cases q : s.row with
    | none => rfl
    | some r => exact h.ro r q
  show (PyData.strOk s.mode && (PyData.canLayAll0 (s.lot.map .str) && ((eO s.row).canLay0 && (true && (true && (true && true)))))) = true
  rw [h1, h2, h3]; rfl
theorem eS_depth (s : Std) : (eS s).depth ≤ 2 := by
  have h : (eL s.lot).depth ≤ 1 := by
    show PyData.depthAll (s.lot.map .str) + 1 ≤ 1
    rw [depth_texts1]; exact Nat.le_refl _
  have h2 : (eO s.row).depth = 0 := by cases s.row <;> rfl
  have e : (eS s).depth = PyData.depthAll [.str s.mode, eL s.lot, eO s.row, .int s.place, .int s.left, .int s.sil] + 1 := rfl
  rw [e]
  simp only [PyData.depthAll, PyData.depth, h2]
  omega
theorem eK_depth (s : Std) : (eK s).depth ≤ 2 := by
  have h : (eL s.lot).depth ≤ 1 := by
    show PyData.depthAll (s.lot.map .str) + 1 ≤ 1
    rw [depth_texts1]; exact Nat.le_refl _
  have e : (eK s).depth = PyData.depthAll [.str s.mode, eL s.lot, .str (s.row.getD ""), .int s.place, .int s.left, .int s.sil] + 1 := rfl
  rw [e]
  simp only [PyData.depthAll, PyData.depth]
  omega
theorem depth_eSs : ∀ xs : List Std, PyData.depthAll (xs.map eS) ≤ 2
  | [] => by show (0 : Nat) ≤ 2; omega
  | x :: xs => by
    show max (eS x).depth (PyData.depthAll (xs.map eS)) ≤ 2
    have h1 := depth_eSs xs
    have h2 := eS_depth x
    omega
theorem lay_eSs : ∀ {xs : List Std}, (∀ x ∈ xs, OkS x) → PyData.canLayAll0 (xs.map eS) = true
  | [], _ => rfl
  | x :: xs, h => by
    show ((eS x).canLay0 && PyData.canLayAll0 (xs.map eS)) = true
    rw [eS_lay (h x (List.mem_cons_self ..)), lay_eSs fun y hy => h y (List.mem_cons_of_mem _ hy)]; rfl
theorem shp {d : D} (h1 : d.canLay0 = true) (h2 : d.depth ≤ 64) : SeqAt.shaped d = true := by
  unfold SeqAt.shaped
  rw [h1, decide_eq_true h2]; rfl
theorem shp_eS {s : Std} (h : OkS s) : SeqAt.shaped (eS s) = true := shp (eS_lay h) (Nat.le_trans (eS_depth s) (by decide))
theorem shp_eSs {xs : List Std} (h : ∀ x ∈ xs, OkS x) : SeqAt.shaped (.list (xs.map eS)) = true := shp (lay_eSs h) (by
  show PyData.depthAll (xs.map eS) + 1 ≤ 64
  have := depth_eSs xs
  omega)
theorem any_eS {s : Std} {xs : List Std} : ((xs.map eS).any fun z => PyData.eqv z (eS s)) = decide (s ∈ xs) := by
  rw [List.any_map]
  by_cases h : s ∈ xs
  · rw [decide_eq_true h, List.any_eq_true]
    exact ⟨s, h, by show PyData.eqv (eS s) (eS s) = true; rw [eqv_eS, decide_eq_true rfl]⟩
  · rw [decide_eq_false h, List.any_eq_false]
    intro x hx
    show ¬ PyData.eqv (eS x) (eS s) = true
    rw [eqv_eS, decide_eq_true_eq]
    rintro rfl; exact h hx
end Fw
set_option maxHeartbeats 1000000
namespace Fw
open PySem PySem.Spec PyProof.Rows L2 PySem.W
section
variable {P : Program} {w0 : World} {K : PySem.W.Frag} {mg : Str → Option Value} {base : Heap} {CT CG CS CB : Addr}
theorem alike_eK (xs : List Std) : AllAlike (xs.map eK) := .of fun a b => by simp [alike, alikeAll, eK, eL, FwC.alikeAll_strs]
/-- the standings in their order, once each -/
def ascM (xs : List Std) : List Std := ((putAll (fun s => s) (fun _ => true) xs).map (·.1)).mergeSort (dataLe false eK)
def cAsc (ars : List Ar) (q : Ar) : Prop := ∃ (xs : List Std) (d : D), seqD d = some (xs.map eS) ∧ ars = [.d d] ∧ q = .d (.list ((ascM xs).map eS))
theorem ok_ascending (T : DefAt K mg "ascending" sF_ascending) (B0 : Bt mg) (O1 : Okd P w0 K mg base 1 "order_of" ["standing"] cKey) : Okd P w0 K mg base 4 "ascending" ["standings"] cAsc := by
  refine okd_mk T scF_ascending (fun _ _ _ _ _ _ us hl => match us, hl with | [_], _ => rfl) (fun ars q ⟨_, _, _, e, _⟩ => by rw [e]; rfl) (by decide) fun ars q cc f cdv A outer s H E hr => ?_
  obtain ⟨xs, d, hd, rfl, rfl⟩ := cc
  have nd := scF_ascending.nd
  refine sd_one (sd_ret (PF.pd (rSortK_pd (ts := (putAll (fun s => s) (fun _ => true) xs).map (·.1)) (enc := eS) (key := eK) B0 (col_dk (K := KyS) (eW := fun b : Bool => .bool b) rfl) O1 (hr.mono (by decide)) (pd_dcK (K := KyS) (eW := fun b : Bool => .bool b) (own := [("standing", 1)]) (xs := xs) (enc := eS) (kf := fun s => s) (vf := fun _ => true) rfl nd hr.units (pd_var 0) hd (bkF_ascending (by decide +kernel)) fun x hx => ⟨_, _, fun _ _ _ _ _ => gd_name 1 nd, by decide, fun _ _ _ _ _ => pd_var 1, fun _ _ _ _ _ => pd_bl⟩) (fun v H G Q gs a k => ?_) (alike_eK _) (.tuples fun b => ⟨_, _, rfl⟩) fun t ht => ⟨Nat.le_trans (eK_depth t) (by decide), t, rfl, rfl⟩)) rfl)
  obtain ⟨ad, o, rfl, h1, h2⟩ := a
  exact ⟨ad, o, _, G, rfl, gs _ _ h1, h2, gs, fun vs hv => k vs G (.refl _) (.refl gs) (by rw [List.map_map]; exact hv)⟩
/-- the crowd behind an order -/
def comM (B : Bok) (crowd : List Std) (o : Ord) (lots : List (List Str)) : List Std := ascM (crowd.flatMap fun s => lots.map fun l => tickM B s l o)
def cComing (CG : Addr) (ars : List Ar) (q : Ar) : Prop := ∃ (B : Bok) (cr : List Std) (d : D) (o : Ord) (lots : List (List Str)), VB B ∧ (∀ s ∈ cr, VS B s) ∧ VO B o ∧ seqD d = some (cr.map eS) ∧ cr.length ≤ 1000 ∧ lots.length ≤ 1000 ∧
  ars = [.o (rObj CG (gearF B)), .d d, .d (eOr o), .d (.list (lots.map FwC.eT))] ∧ q = .d (.list ((comM B cr o lots).map eS))
theorem ok_coming (T : DefAt K mg "coming" sF_coming) (c : Cs K CT CG CS) (B0 : Bt mg) (O1 : Okd P w0 K mg base 4 "ascending" ["standings"] cAsc) (O2 : Okd P w0 K mg base 5 "tick_by" ["gears", "standing", "alarms", "order"] (cTick CG CS)) : Okd P w0 K mg base 6 "coming" ["gears", "crowd", "order", "lots"] (cComing CG) := by
  refine okd_mk T scF_coming (fun _ _ _ _ _ _ us hl => match us, hl with | [_, _, _, _], _ => rfl) (fun ars q ⟨_, _, _, _, _, _, _, _, _, _, _, e, _⟩ => by rw [e]; rfl) (by decide) fun ars q cc f cdv A outer s H E hr => ?_
  obtain ⟨B, cr, d, o, lots, V, vs, vo, hd, h1, h2, rfl, rfl⟩ := cc
  have nd := scF_coming.nd
  refine sd_one (sd_ret (pd_call O1 (hr.mono (by decide)) (pad_cons (PF.pd (pf_lc2 (own := [("standing", 4), ("lot", 5)]) (vs1 := [5]) (xs := cr) (enc := eS) (d1 := fun _ => .list (lots.map FwC.eT)) (ys := fun _ => lots) (enc1 := FwC.eT) (f := fun s l => eS (tickM B s l o)) rfl nd (pd_var 1) hd (bkF_coming (by decide +kernel)) (by decide) h1 (fun _ _ => h2) fun x hx => ⟨_, _, fun _ _ _ _ _ => gd_name 4 nd, by decide, fun _ _ _ _ _ => pd_var 3, rfl, fun y hy => ⟨_, _, fun _ _ _ _ _ => gd_name 5 nd, by decide, fun _ _ _ _ _ => pd_fld c.s (pd_call O2 hr (pad_cons (pd_var 0) (pad_cons (pd_var 4) (pad_cons (pd_var 5) (pad_cons (pd_var 2) pad_nil)))) ⟨B, x, y, o, V, vs x hx, vo, rfl, rfl⟩) rfl⟩⟩)) pad_nil) ⟨cr.flatMap fun s => lots.map fun l => tickM B s l o, _, ?_, rfl, rfl⟩) rfl)
  show some (flat2 _ _ cr) = _
  unfold flat2
  rw [List.map_flatMap]
  congr 2
  funext s
  rw [List.map_map]
  rfl
/-- the lots of names -/
def lotsTo (names : List Str) (n : Nat) : List (List Str) := (List.range n).flatMap fun r => FwC.sortT (FwC.combosM (names.mergeSort leS) r)
def lotsM (names : List Str) : List (List Str) := lotsTo names (names.length + 1)
theorem combos_len {xs : List Str} (h : xs.length ≤ 2) (r : Nat) : (FwC.combosM xs r).length ≤ 2 := by
  unfold FwC.combosM
  rw [List.length_map]
  unfold FwC.picks
  split <;> simp
theorem lotsTo_len {names : List Str} (h : names.length ≤ 2) (n : Nat) : (lotsTo names n).length ≤ 2 * n := by
  unfold lotsTo
  induction n with
  | zero => simp
  | succ n ih =>
    rw [List.range_succ, List.flatMap_append, List.length_append, List.flatMap_singleton]
    have h2 := combos_len (xs := names.mergeSort leS) (by rw [List.length_mergeSort]; exact h) n
    have h3 : (FwC.sortT (FwC.combosM (names.mergeSort leS) n)).length ≤ 2 := by unfold FwC.sortT; rw [List.length_mergeSort]; exact h2
    omega
def cLots (ars : List Ar) (q : Ar) : Prop := ∃ (names : List Str), names.length ≤ 2 ∧ ars = [.d (eL names)] ∧ q = .d (.list ((lotsM names).map FwC.eT))
theorem ok_lots_of (T : DefAt K mg "lots_of" sF_lots_of) (B0 : Bt mg) (hx : mg "combinations" = some (.type FwC.TC)) : Okd P w0 K mg base 1 "lots_of" ["names"] cLots := by
  refine okd_mk T scF_lots_of (fun _ _ _ _ _ _ us hl => match us, hl with | [_], _ => rfl) (fun ars q ⟨_, _, e, _⟩ => by rw [e]; rfl) (by decide) fun ars q cc f cdv A outer s H E hr => ?_
  obtain ⟨names, hn, rfl, rfl⟩ := cc
  have nd := scF_lots_of.nd
  refine sd_cons (sd_own 1 nd (pf_lst pds_nil) ?_)
  refine sd_cons (sd_range B0 (fun i δ => δ = [.va (.d (eL names)), .ow (oLst ((lotsTo names i).map FwC.eT)), .no]) (pd_add (pd_len B0 (pd_var 0) rfl) pd_int) ?_ ?_ rfl (fun i δ1 hi hδ => ?_) (fun δ1 hδ => ?_) PassesOwn.never rfl)
  · rw [List.length_map]; omega
  · rw [List.length_map]; omega
  · rw [List.length_map] at hi
    subst hδ
    have hl := lotsTo_len hn i
    have hr2 := combos_len (xs := names.mergeSort leS) (by rw [List.length_mergeSort]; exact hn) i
    refine ⟨_, _, gd_name 2 nd, sd_cons (sd_ext 1 rfl (PF.pd (FwC.pf_combs (xs := names.mergeSort leS) (r := i) B0 rfl hr.units hx (PF.pd (pf_sortedSq (xs := names) B0 hr.units (pd_var 0) rfl)) (pd_var 2) (by rw [List.length_mergeSort]; omega) (by rw [List.length_mergeSort]; exact hn))) ?_ (sd_drop 2 (sd_nil ?_)))⟩
    · rw [List.length_map, List.length_map]; unfold FwC.sortT; rw [List.length_mergeSort]; omega
    · unfold lotsTo
      rw [List.range_succ, List.flatMap_append, List.flatMap_singleton, List.map_append]
      rfl
  · subst hδ
    rw [List.length_map]
    refine sd_frz 1 rfl (sd_one (sd_ret (pd_var 1) ?_))
    have e : ((names.length : Int) + 1).toNat = names.length + 1 := by omega
    rw [e]; rfl
end
end Fw
set_option maxHeartbeats 1000000
namespace Fw
open PySem PySem.Spec PyProof.Rows L2 PySem.W
section
variable {P : Program} {w0 : World} {K : PySem.W.Frag} {mg : Str → Option Value} {base : Heap} {CT CG CS CB : Addr}
/-- orders of the book, the names told -/
def VOb (B : Bok) (o : Ord) : Prop := VO B o
theorem shp_do {a b : Str} (ha : PyData.strOk a = true) (hb : PyData.strOk b = true) : SeqAt.shaped (.tuple [.str a, .str b]) = true := shp (by
  show (PyData.strOk a && (PyData.strOk b && true)) = true
  rw [ha, hb]; rfl) (nble rfl)
theorem names_cmds {B : Bok} (ps : List Cm) : cNamesOf [.d (.list (ps.map eCm))] (.d (.list ((ps.map Cm.name).map .str))) := ⟨Cm, ps, eCm, Cm.name, fun x => ⟨_, rfl⟩, rfl, rfl⟩
def cIsOrder (CB : Addr) (ars : List Ar) (q : Ar) : Prop := ∃ (B : Bok) (o : Ord), VB B ∧ VO B o ∧ o ≠ .no ∧ ars = [rBook CB B, .d (eOr o)] ∧ q = .d (.bool true)
theorem ok_is_order (T : DefAt K mg "is_order" sF_is_order) (B0 : Bt mg) (O : Bp P w0 K mg base CB) (O3 : Okd P w0 K mg base 1 "names_of" ["parts"] cNamesOf) : Okd P w0 K mg base 3 "is_order" ["book", "order"] (cIsOrder CB) := by
  refine okd_mk T scF_is_order (fun _ _ _ _ _ _ us hl => match us, hl with | [_, _], _ => rfl) (fun ars q ⟨_, _, _, _, _, e, _⟩ => by rw [e]; rfl) (by decide) fun ars q cc f cdv A outer s H E hr => ?_
  obtain ⟨B, o, V, vo, ho, rfl, rfl⟩ := cc
  have nd := scF_is_order.nd
  have r1 := hr.mono (show 1 ≤ 2 by decide)
  have hs0 : SeqAt.shaped (.tuple [.str "stop"]) = true := by decide +kernel
  have nr : cNamesOf [.d (.list (B.rows.map eRw))] (.d (.list ((B.rows.map Rw.name).map .str))) := ⟨Rw, _, eRw, Rw.name, fun x => ⟨_, rfl⟩, rfl, rfl⟩
  have two : ∀ (a b : Str) (ks : List Str), PyData.strOk a = true → PyData.strOk b = true → b ∈ ks → ((putKs [("do", .list ((B.cmds.map Cm.name).map .str)), ("run", .list ((B.rows.map Rw.name).map .str))]).lookup a).getD (.list []) = PyData.list (ks.map .str) → (a = "do" ∨ a = "run") →
      SD (Fx P w0 K mg base nF_is_order "is_order" sF_is_order f cdv A outer ‹Shared› H ‹XK›) (defBody sF_is_order) (startD nF_is_order [rBook CB B, .d (.tuple [.str a, .str b])]) { nx := fun _ => Ar.d (.bool true) = .d .none, rt := fun q' => q' = .d (.bool true) } := fun a b ks ha hb hk hl hab => by
    have ne : PyData.eqv (.tuple [.str a, .str b]) (.tuple [.str "stop"]) = false := by
      show (_ && (_ : Bool)) = false
      simp [PyData.eqvAll]
    refine sd_cons (sd_if (q := false) ((ptd_eqd hr.units (pd_var 1) (pd_tup (pds_cons pd_str pds_nil)) (shp_do ha hb) hs0).is ne) ff fun _ => sd_nil ?_)
    refine sd_cons (sd_if (q := false) ((ptd_nei (pd_len B0 (pd_var 1) rfl) pd_int).is rfl) ff fun _ => sd_nil ?_)
    refine sd_cons (sd_set 2 nd (pd_disp (.cons pd_str (pd_call O3 r1 (pad_cons (pd_prop O.commands hr (pd_var 0) ⟨B, V, rfl, rfl⟩) pad_nil) (names_cmds (B := B) _)) (.cons pd_str (pd_call O3 r1 (pad_cons (pd_prop O.rows hr (pd_var 0) ⟨B, V, rfl, rfl⟩) pad_nil) nr) .nil)) (h15 := nble rfl) (h15' := nble rfl)) ?_)
    exact sd_one (sd_ret ((pd_in (xs := ks) (pd_ixt (pd_var 1) pd_int rfl) (pd_getk hr.units (pd_var 2) (pd_ixt (pd_var 1) pd_int rfl) (pd_lst pds_nil) ⟨rfl, rfl, rfl, rfl⟩) (.inl hl)).is (by rw [decide_eq_true hk])) rfl)
  cases o with
  | no => exact absurd rfl ho
  | doo x =>
    refine two "do" x (B.cmds.map Cm.name) (by decide +kernel) (V.so x (.inr (.inl vo))) (by rw [cmds_names, sortS_eq]; exact (List.mergeSort_perm _ _).mem_iff.mpr vo) rfl (.inl rfl)
  | run x =>
    refine two "run" x (B.rows.map Rw.name) (by decide +kernel) (V.so x (.inr (.inr vo))) vo rfl (.inr rfl)
  | stop => exact sd_cons (sd_if (q := true) ((ptd_eqd hr.units (pd_var 1) (pd_tup (pds_cons pd_str pds_nil)) hs0 hs0).is (by decide +kernel)) (fun _ => sd_one (sd_ret pd_bl rfl)) tt)
def cIsInput (CB : Addr) (ars : List Ar) (q : Ar) : Prop := ∃ (B : Bok) (o : Ord), VB B ∧ VO B o ∧ ars = [rBook CB B, .d (.tuple [.tuple [], eOr o])] ∧ q = .d (.bool true)
theorem ok_is_input (T : DefAt K mg "is_input" sF_is_input) (B0 : Bt mg) (O : Bp P w0 K mg base CB) (O1 : Okd P w0 K mg base 3 "is_order" ["book", "order"] (cIsOrder CB)) (O2 : Okd P w0 K mg base 3 "is_lot_of" ["names", "known"] cIsLotOf) (O3 : Okd P w0 K mg base 1 "names_of" ["parts"] cNamesOf) : Okd P w0 K mg base 4 "is_input" ["book", "told"] (cIsInput CB) := by
  refine okd_mk T scF_is_input (fun _ _ _ _ _ _ us hl => match us, hl with | [_, _], _ => rfl) (fun ars q ⟨_, _, _, _, e, _⟩ => by rw [e]; rfl) (by decide) fun ars q cc f cdv A outer s H E hr => ?_
  obtain ⟨B, o, V, vo, rfl, rfl⟩ := cc
  have r1 := hr.mono (show 1 ≤ 3 by decide)
  have na : cNamesOf [.d (.list (B.alarms.map eAl))] (.d (.list ((B.alarms.map Al.name).map .str))) := ⟨Al, _, eAl, Al.name, fun x => ⟨_, rfl⟩, rfl, rfl⟩
  refine sd_cons (sd_if (q := false || !isLotOfM [] (B.alarms.map Al.name)) (PWD.ptd (pwd_or ((ptd_nei (pd_len B0 (pd_var 1) rfl) pd_int).is rfl) fun _ => pwd_or1 (ptd_not (ptd_val (pd_call O2 hr (pad_cons (pd_ixt (pd_var 1) pd_int rfl) (pad_cons (pd_call O3 r1 (pad_cons (pd_prop O.alarms (hr.mono (by decide)) (pd_var 0) ⟨B, V, rfl, rfl⟩) pad_nil) na) pad_nil)) ⟨[], B.alarms.map Al.name, _, ⟨by decide, nofun⟩, .inl rfl, rfl, rfl⟩))))) ff fun _ => sd_nil ?_)
  cases o with
  | no => exact sd_one (sd_ret ((pd_or (q' := false) (pd_isn (pd_ixt (pd_var 1) pd_int rfl) pd_non) tt).is rfl) rfl)
  | doo x => exact sd_one (sd_ret ((pd_or (pd_isn (pd_ixt (pd_var 1) pd_int rfl) pd_non) fun _ => pd_one (pd_call O1 hr (pad_cons (pd_var 0) (pad_cons (pd_ixt (pd_var 1) pd_int rfl) pad_nil)) ⟨B, .doo x, V, vo, nofun, rfl, rfl⟩)).is rfl) rfl)
  | run x => exact sd_one (sd_ret ((pd_or (pd_isn (pd_ixt (pd_var 1) pd_int rfl) pd_non) fun _ => pd_one (pd_call O1 hr (pad_cons (pd_var 0) (pad_cons (pd_ixt (pd_var 1) pd_int rfl) pad_nil)) ⟨B, .run x, V, vo, nofun, rfl, rfl⟩)).is rfl) rfl)
  | stop => exact sd_one (sd_ret ((pd_or (pd_isn (pd_ixt (pd_var 1) pd_int rfl) pd_non) fun _ => pd_one (pd_call O1 hr (pad_cons (pd_var 0) (pad_cons (pd_ixt (pd_var 1) pd_int rfl) pad_nil)) ⟨B, .stop, V, vo, nofun, rfl, rfl⟩)).is rfl) rfl)
def cCheckInputs (CB : Addr) (ars : List Ar) (q : Ar) : Prop := ∃ (B : Bok) (os : List Ord), VB B ∧ (∀ o ∈ os, VO B o) ∧ ars = [rBook CB B, .d (.list (os.map fun o => .tuple [.tuple [], eOr o]))] ∧ q = .d .none
theorem ok_check_inputs (T : DefAt K mg "check_inputs" sF_check_inputs) (O1 : Okd P w0 K mg base 4 "is_input" ["book", "told"] (cIsInput CB)) : Okd P w0 K mg base 5 "check_inputs" ["book", "inputs"] (cCheckInputs CB) := by
  refine okd_mk T scF_check_inputs (fun _ _ _ _ _ _ us hl => match us, hl with | [_, _], _ => rfl) (fun ars q ⟨_, _, _, _, e, _⟩ => by rw [e]; rfl) (by decide) fun ars q cc f cdv A outer s H E hr => ?_
  obtain ⟨B, os, V, vo, rfl, rfl⟩ := cc
  have nd := scF_check_inputs.nd
  refine sd_one (sd_for (fun i δ => δ = [rBook CB B |> Sl.va, .va (.d (.list (os.map fun o => .tuple [.tuple [], eOr o]))), .no]) (pd_var 1) rfl rfl (fun i x δ1 hx hδ => ?_) (fun δ1 hδ => rfl) PassesOwn.never rfl)
  subst hδ
  rw [List.getElem?_map] at hx
  obtain ⟨o, ho, rfl⟩ := Option.map_eq_some_iff.mp hx
  exact ⟨_, _, gd_name 2 nd, sd_one (sd_if (ptd_not (ptd_val (pd_call O1 hr (pad_cons (pd_var 0) (pad_cons (pd_var 2) pad_nil)) ⟨B, o, V, vo o (List.mem_of_getElem? ho), rfl, rfl⟩))) ff fun _ => sd_drop 2 (sd_nil rfl))⟩
def cCheckOrders (CB : Addr) (ars : List Ar) (q : Ar) : Prop := ∃ (B : Bok) (os : List Ord), VB B ∧ (∀ o ∈ os, VO B o) ∧ ars = [rBook CB B, .d (.list (os.map eOr))] ∧ q = .d .none
theorem ok_check_orders (T : DefAt K mg "check_orders" sF_check_orders) (O1 : Okd P w0 K mg base 5 "check_inputs" ["book", "inputs"] (cCheckInputs CB)) : Okd P w0 K mg base 6 "check_orders" ["book", "orders"] (cCheckOrders CB) := by
  refine okd_mk T scF_check_orders (fun _ _ _ _ _ _ us hl => match us, hl with | [_, _], _ => rfl) (fun ars q ⟨_, _, _, _, e, _⟩ => by rw [e]; rfl) (by decide) fun ars q cc f cdv A outer s H E hr => ?_
  obtain ⟨B, os, V, vo, rfl, rfl⟩ := cc
  have nd := scF_check_orders.nd
  exact sd_one (sd_expr (pd_call O1 hr (pad_cons (pd_var 0) (pad_cons (PF.pd (pf_lc0 (own := [("order", 2)]) (enc := eOr) (xs := os) (f := fun o => .tuple [.tuple [], eOr o]) rfl nd (pd_var 1) rfl (bkF_check_orders (by decide +kernel)) fun x hx => ⟨_, _, fun _ _ _ _ _ => gd_name 2 nd, by decide, fun _ _ _ _ _ => pd_tup (pds_cons (pd_tup pds_nil) (pds_cons (pd_var 2) pds_nil))⟩)) pad_nil)) ⟨B, os, V, vo, rfl, rfl⟩) rfl)
/-- the crowd behind a row of orders -/
def runM (B : Bok) (crowd : List Std) (os : List Ord) (lots : List (List Str)) : List Std := os.foldl (fun c o => comM B c o lots) crowd
theorem putAll_keys {T W S : Type} [DecidableEq T] {kf : S → T} {vf : S → W} {x : T} : ∀ {xs : List S} {acc : List (T × W)}, x ∈ (xs.foldl (fun acc x => putW acc (kf x) (vf x)) acc).map (·.1) ↔ x ∈ acc.map (·.1) ∨ x ∈ xs.map kf
  | [], acc => by simp
  | s :: t, acc => by
    rw [List.foldl_cons, putAll_keys (xs := t)]
    have e : x ∈ (putW acc (kf s) (vf s)).map (·.1) ↔ x ∈ acc.map (·.1) ∨ x = kf s := by
      unfold putW
      split
      · rename_i h
        rw [List.map_map]
        have e2 : ((fun e : T × W => e.1) ∘ fun e => if e.1 = kf s then (e.1, vf s) else e) = fun e => e.1 := by funext e; simp only [Function.comp]; split <;> rfl
        rw [e2]
        obtain ⟨e, h1, h2⟩ := List.any_eq_true.mp h
        refine ⟨.inl, fun z => z.elim id fun z => ?_⟩
        subst z
        exact List.mem_map.mpr ⟨e, h1, of_decide_eq_true h2⟩
      · simp
    rw [e, List.map_cons, List.mem_cons]
    constructor
    · rintro ((h | h) | h)
      · exact .inl h
      · exact .inr (.inl h)
      · exact .inr (.inr h)
    · rintro (h | h | h)
      · exact .inl (.inl h)
      · exact .inl (.inr h)
      · exact .inr h
theorem mem_asc {xs : List Std} {s : Std} : s ∈ ascM xs ↔ s ∈ xs := by
  unfold ascM
  rw [(List.mergeSort_perm _ _).mem_iff]
  have := putAll_keys (kf := fun s : Std => s) (vf := fun _ => true) (x := s) (xs := xs) (acc := [])
  unfold putAll
  rw [this]
  simp
theorem asc_len (xs : List Std) : (ascM xs).length ≤ xs.length := by
  unfold ascM
  rw [List.length_mergeSort, List.length_map]
  exact putAll_len
theorem mem_com {B : Bok} {cr : List Std} {o : Ord} {lots : List (List Str)} {s : Std} : s ∈ comM B cr o lots ↔ ∃ t ∈ cr, ∃ l ∈ lots, s = tickM B t l o := by
  unfold comM
  rw [mem_asc, List.mem_flatMap]
  constructor
  · rintro ⟨t, ht, h⟩
    obtain ⟨l, hl, rfl⟩ := List.mem_map.mp h
    exact ⟨t, ht, l, hl, rfl⟩
  · rintro ⟨t, ht, l, hl, rfl⟩
    exact ⟨t, ht, List.mem_map.mpr ⟨l, hl, rfl⟩⟩
theorem com_len {B : Bok} {cr : List Std} {o : Ord} {lots : List (List Str)} : (comM B cr o lots).length ≤ cr.length * lots.length := by
  refine Nat.le_trans (asc_len _) ?_
  induction cr with
  | nil => simp
  | cons a t ih =>
    rw [List.flatMap_cons, List.length_append, List.length_map, List.length_cons, Nat.succ_mul]
    omega
theorem com_VS {B : Bok} (V : VB B) {cr : List Std} {o : Ord} {lots : List (List Str)} (h : ∀ s ∈ cr, VS B s) (vo : VO B o) : ∀ s ∈ comM B cr o lots, VS B s := fun s hs => by
  obtain ⟨t, ht, l, hl, rfl⟩ := mem_com.mp hs
  exact tickM_VS V (h t ht) vo
end
end Fw
set_option maxHeartbeats 1000000
namespace Fw
open PySem PySem.Spec PyProof.Rows L2 PySem.W
abbrev Kn := List (List Std × List Ord)
def addM (a : Kn × Kn) (c : List Std) (r : List Ord) : Kn × Kn := if (!a.1.any fun e => decide (e.1 = c)) = true then (putW a.1 c r, putW a.2 c r) else a
def addO (B : Bok) (lots : List (List Str)) (e : List Std × List Ord) (a : Kn × Kn) (o : Ord) : Kn × Kn := addM a (comM B e.1 o lots) (e.2 ++ [o])
def exM (B : Bok) (lots : List (List Str)) (os : List Ord) (a : Kn × Kn) (e : List Std × List Ord) : Kn × Kn := os.foldl (addO B lots e) a
def levelM (B : Bok) (lots : List (List Str)) (os : List Ord) (rows known : Kn) : Kn × Kn := rows.foldl (exM B lots os) (known, [])
/-- rows and known before a turn -/
def stM (B : Bok) (lots : List (List Str)) (most : Int) (c0 : List Std) : Nat → Kn × Kn
  | 0 => ([(c0, [])], [(c0, [])])
  | i + 1 => let a := levelM B lots (if (i : Int) < most then orderMs B else []) (stM B lots most c0 i).1 (stM B lots most c0 i).2; (a.2, a.1)
def hitM (w : Wish) (rows : Kn) : Option (List Ord) := (rows.find? fun e => allM e.1 w).map (·.2)
def bestM (B : Bok) (lots : List (List Str)) (most : Int) (c0 : List Std) (w : Wish) : Option (List Ord) := (List.range (most + 1).toNat).findSome? fun i => hitM w (stM B lots most c0 i).1
theorem find_some_at {T : Type} {f : Nat → Option T} {x : T} : ∀ {n i : Nat}, i < n → (∀ j, j < i → f j = none) → f i = some x → (List.range n).findSome? f = some x
  | 0, i, h, _, _ => absurd h (Nat.not_lt_zero _)
  | n + 1, i, h, h1, h2 => by
    rw [List.range_succ, List.findSome?_append]
    by_cases q : i < n
    · rw [find_some_at q h1 h2]; rfl
    · have e : i = n := by omega
      subst e
      have : (List.range i).findSome? f = none := by
        rw [List.findSome?_eq_none_iff]
        intro j hj
        exact h1 j (List.mem_range.mp hj)
      rw [this]
      simp [h2]
theorem find_none_at {T : Type} {f : Nat → Option T} {n : Nat} (h : ∀ j, j < n → f j = none) : (List.range n).findSome? f = none := by
  rw [List.findSome?_eq_none_iff]
  intro j hj
  exact h j (List.mem_range.mp hj)
/-- what is told of a crowd with its row -/
structure GoE (B : Bok) (i : Nat) (e : List Std × List Ord) : Prop where
  vs : ∀ s ∈ e.1, VS B s
  len : e.1.length ≤ 3 * 6 ^ i
  row : e.2.length = i
  ord : ∀ o ∈ e.2, o ∈ orderMs B
theorem putW_mem {T W : Type} [DecidableEq T] {kvs : List (T × W)} {k : T} {w : W} {e : T × W} (h : e ∈ putW kvs k w) : e ∈ kvs ∨ e = (k, w) := by
  unfold putW at h
  split at h
  · obtain ⟨x, h1, h2⟩ := List.mem_map.mp h
    split at h2
    · rename_i q; subst q; exact .inr h2.symm
    · subst h2; exact .inl h1
  · rcases List.mem_append.mp h with z | z
    · exact .inl z
    · exact .inr (List.mem_singleton.mp z)
theorem addM_len (a : Kn × Kn) (c : List Std) (r : List Ord) : (addM a c r).1.length ≤ a.1.length + 1 ∧ (addM a c r).2.length ≤ a.2.length + 1 := by
  unfold addM
  split
  · exact ⟨putW_len _ _ _, putW_len _ _ _⟩
  · exact ⟨by omega, by omega⟩
theorem exM_len (B : Bok) (lots : List (List Str)) (e : List Std × List Ord) : ∀ (os : List Ord) (a : Kn × Kn), (exM B lots os a e).1.length ≤ a.1.length + os.length ∧ (exM B lots os a e).2.length ≤ a.2.length + os.length
  | [], a => ⟨Nat.le_refl _, Nat.le_refl _⟩
  | o :: os, a => by
    have h := exM_len B lots e os (addO B lots e a o)
    have h2 := addM_len a (comM B e.1 o lots) (e.2 ++ [o])
    have e1 : exM B lots (o :: os) a e = exM B lots os (addO B lots e a o) e := rfl
    rw [e1, List.length_cons]
    unfold addO at h ⊢
    omega
theorem fold_len (B : Bok) (lots : List (List Str)) (os : List Ord) : ∀ (rows : Kn) (a : Kn × Kn), (rows.foldl (exM B lots os) a).1.length ≤ a.1.length + rows.length * os.length ∧ (rows.foldl (exM B lots os) a).2.length ≤ a.2.length + rows.length * os.length
  | [], a => by simp
  | e :: t, a => by
    have h := fold_len B lots os t (exM B lots os a e)
    have h2 := exM_len B lots e os a
    rw [List.foldl_cons, List.length_cons, Nat.succ_mul]
    omega
theorem level_len (B : Bok) (lots : List (List Str)) (os : List Ord) (rows known : Kn) : (levelM B lots os rows known).1.length ≤ known.length + rows.length * os.length ∧ (levelM B lots os rows known).2.length ≤ rows.length * os.length := by
  have := fold_len B lots os rows (known, [])
  simpa [levelM] using this
/-- at most 7^i rows, at most 400 crowds in all -/
theorem st_len {B : Bok} {lots : List (List Str)} {most : Int} {c0 : List Std} (h7 : (orderMs B).length ≤ 7) (hm : most ≤ 3) : ∀ i, (stM B lots most c0 i).1.length ≤ 7 ^ (min i 3) ∧ (stM B lots most c0 i).2.length ≤ (if i = 0 then 1 else if i = 1 then 8 else if i = 2 then 57 else 400) ∧ ((3 : Nat) < i → (stM B lots most c0 i).1.length = 0)
  | 0 => ⟨by simp [stM], by simp [stM], by omega⟩
  | i + 1 => by
    obtain ⟨h1, h2, h3⟩ := st_len (lots := lots) (c0 := c0) h7 hm i
    have hl := level_len B lots (if (i : Int) < most then orderMs B else []) (stM B lots most c0 i).1 (stM B lots most c0 i).2
    have e : stM B lots most c0 (i + 1) = ((levelM B lots (if (i : Int) < most then orderMs B else []) (stM B lots most c0 i).1 (stM B lots most c0 i).2).2, (levelM B lots (if (i : Int) < most then orderMs B else []) (stM B lots most c0 i).1 (stM B lots most c0 i).2).1) := rfl
    rw [e]
    obtain ⟨l1, l2⟩ := hl
    by_cases q : (i : Int) < most
    · rw [if_pos q] at l1 l2 ⊢
      have hi : i < 3 := by omega
      have hmul : (stM B lots most c0 i).1.length * (orderMs B).length ≤ 7 ^ (min i 3) * 7 := Nat.mul_le_mul h1 h7
      match i, hi with
      | 0, _ => refine ⟨?_, ?_, by omega⟩ <;> simp at * <;> omega
      | 1, _ => refine ⟨?_, ?_, by omega⟩ <;> simp at * <;> omega
      | 2, _ => refine ⟨?_, ?_, by omega⟩ <;> simp at * <;> omega
    · rw [if_neg q] at l1 l2 ⊢
      simp only [List.length_nil, Nat.mul_zero, Nat.add_zero] at l1 l2
      have z : (levelM B lots [] (stM B lots most c0 i).1 (stM B lots most c0 i).2).2.length = 0 := by omega
      refine ⟨by show (levelM B lots [] _ _).2.length ≤ _; rw [z]; exact Nat.zero_le _, ?_, fun _ => z⟩
      refine Nat.le_trans l1 (Nat.le_trans h2 ?_)
      clear h1 h2 h3 l1 l2 z q e
      repeat' split
      all_goals omega
theorem com_good {B : Bok} (V : VB B) {lots : List (List Str)} (hl : lots.length ≤ 6) {i : Nat} {e : List Std × List Ord} (g : GoE B i e) {o : Ord} (vo : VO B o) (mo : o ∈ orderMs B) : GoE B (i + 1) (comM B e.1 o lots, e.2 ++ [o]) :=
  ⟨com_VS V g.vs vo, Nat.le_trans com_len (by
    have := Nat.mul_le_mul g.len hl
    rw [Nat.pow_succ]
    omega), by simp [g.row], fun x hx => by
    rcases List.mem_append.mp hx with z | z
    · exact g.ord x z
    · rw [List.mem_singleton.mp z]; exact mo⟩
theorem orders_VO {B : Bok} : ∀ o ∈ orderMs B, VO B o := fun o h => by
  unfold orderMs at h
  rcases List.mem_append.mp h with h | h
  · rcases List.mem_append.mp h with h | h
    · rcases List.mem_cons.mp h with rfl | h
      · trivial
      · obtain ⟨c, hc, rfl⟩ := List.mem_map.mp h
        have : c.name ∈ B.cmds.map (·.name) := List.mem_map.mpr ⟨c, hc, rfl⟩
        rw [cmds_names, sortS_eq] at this
        exact (List.mergeSort_perm _ _).mem_iff.mp this
    · obtain ⟨x, hx, rfl⟩ := List.mem_map.mp h
      rw [sortS_eq] at hx
      exact (List.mergeSort_perm _ _).mem_iff.mp hx
  · rw [List.mem_singleton.mp h]; trivial
theorem addM_mem {a : Kn × Kn} {c : List Std} {r : List Ord} {e : List Std × List Ord} (h : e ∈ (addM a c r).2) : e ∈ a.2 ∨ e = (c, r) := by
  unfold addM at h
  split at h
  · exact putW_mem h
  · exact .inl h
theorem exM_good {B : Bok} (V : VB B) {lots : List (List Str)} (hl : lots.length ≤ 6) {i : Nat} {e : List Std × List Ord} (g : GoE B i e) : ∀ (os : List Ord) (a : Kn × Kn), (∀ o ∈ os, o ∈ orderMs B) → (∀ x ∈ a.2, GoE B (i + 1) x) → ∀ x ∈ (exM B lots os a e).2, GoE B (i + 1) x
  | [], a, _, h => h
  | o :: os, a, ho, h => exM_good V hl g os (addO B lots e a o) (fun o h => ho o (List.mem_cons_of_mem _ h)) fun x hx => by
    rcases addM_mem hx with z | rfl
    · exact h x z
    · exact com_good V hl g (orders_VO o (ho o (List.mem_cons_self ..))) (ho o (List.mem_cons_self ..))
theorem fold_good {B : Bok} (V : VB B) {lots : List (List Str)} (hl : lots.length ≤ 6) {i : Nat} {os : List Ord} (ho : ∀ o ∈ os, o ∈ orderMs B) : ∀ (rows : Kn) (a : Kn × Kn), (∀ e ∈ rows, GoE B i e) → (∀ x ∈ a.2, GoE B (i + 1) x) → ∀ x ∈ (rows.foldl (exM B lots os) a).2, GoE B (i + 1) x
  | [], a, _, h => h
  | e :: t, a, hr, h => fold_good V hl ho t (exM B lots os a e) (fun e h => hr e (List.mem_cons_of_mem _ h)) (exM_good V hl (hr e (List.mem_cons_self ..)) os a ho h)
theorem st_good {B : Bok} (V : VB B) {lots : List (List Str)} (hl : lots.length ≤ 6) {most : Int} {c0 : List Std} (h0 : ∀ s ∈ c0, VS B s) (hz : c0.length ≤ 3) : ∀ i, ∀ e ∈ (stM B lots most c0 i).1, GoE B i e
  | 0, e, he => by
    have : e = (c0, []) := List.mem_singleton.mp he
    subst this
    exact ⟨h0, by simpa using hz, rfl, nofun⟩
  | i + 1, e, he => by
    refine fold_good V hl (os := if (i : Int) < most then orderMs B else []) (fun o h => ?_) _ _ (st_good V hl h0 hz i) (by intro x hx; cases hx) e he
    split at h
    · exact h
    · cases h
section
variable {P : Program} {w0 : World} {K : PySem.W.Frag} {mg : Str → Option Value} {base : Heap} {CT CG CS CB : Addr}
theorem run_len {B : Bok} {cr : List Std} {lots : List (List Str)} (hl : lots.length ≤ 6) : ∀ os : List Ord, (runM B cr os lots).length ≤ cr.length * 6 ^ os.length := fun os => by
  induction os generalizing cr with
  | nil => simp [runM]
  | cons o os ih =>
    have h := ih (cr := comM B cr o lots)
    have h2 := com_len (B := B) (cr := cr) (o := o) (lots := lots)
    have h3 : cr.length * lots.length ≤ cr.length * 6 := Nat.mul_le_mul_left _ hl
    have e : runM B cr (o :: os) lots = runM B (comM B cr o lots) os lots := rfl
    rw [e, List.length_cons, Nat.pow_succ]
    refine Nat.le_trans h ?_
    have h4 : (comM B cr o lots).length * 6 ^ os.length ≤ (cr.length * 6) * 6 ^ os.length := Nat.mul_le_mul_right _ (Nat.le_trans h2 h3)
    refine Nat.le_trans h4 (Nat.le_of_eq ?_)
    rw [Nat.mul_assoc, Nat.mul_comm 6]
theorem run_VS {B : Bok} (V : VB B) {lots : List (List Str)} : ∀ {os : List Ord} {cr : List Std}, (∀ s ∈ cr, VS B s) → (∀ o ∈ os, VO B o) → ∀ s ∈ runM B cr os lots, VS B s
  | [], _, h, _ => h
  | o :: os, cr, h, ho => run_VS V (os := os) (cr := comM B cr o lots) (com_VS V h (ho o (List.mem_cons_self ..))) fun x hx => ho x (List.mem_cons_of_mem _ hx)
theorem lotsM_len {names : List Str} (h : names.length ≤ 2) : (lotsM names).length ≤ 6 := by
  have := lotsTo_len h (names.length + 1)
  unfold lotsM; omega
def cBrings (CB : Addr) (ars : List Ar) (q : Ar) : Prop := ∃ (B : Bok) (cr : List Std) (os : List Ord) (w : Wish) (names : List Str), VB B ∧ (∀ s ∈ cr, VS B s) ∧ (∀ o ∈ os, VO B o) ∧ cr.length ≤ 3 ∧ os.length ≤ 3 ∧ names.length ≤ 2 ∧
  ars = [rBook CB B, .d (.list (cr.map eS)), .d (.list (os.map eOr)), .d (eW w), .d (eL names)] ∧ q = .d (.bool (allM (runM B cr os (lotsM names)) w))
theorem ok_brings (T : DefAt K mg "brings" sF_brings) (O1 : Okd P w0 K mg base 6 "check_orders" ["book", "orders"] (cCheckOrders CB)) (O2 : OkI P w0 K mg base 3 CG "Gears" ["self", "book"] (mGears CB)) (O3 : Okd P w0 K mg base 1 "lots_of" ["names"] cLots) (O4 : Okd P w0 K mg base 6 "coming" ["gears", "crowd", "order", "lots"] (cComing CG))
    (O5 : Okd P w0 K mg base 2 "all_meet" ["crowd", "wish"] cAllMeet) : Okd P w0 K mg base 7 "brings" ["book", "crowd", "orders", "wish", "alarms"] (cBrings CB) := by
  refine okd_mk T scF_brings (fun _ _ _ _ _ _ us hl => match us, hl with | [_, _, _, _, _], _ => rfl) (fun ars q ⟨_, _, _, _, _, _, _, _, _, _, _, e, _⟩ => by rw [e]; rfl) (by decide) fun ars q cc f cdv A outer s H E hr => ?_
  obtain ⟨B, cr, os, w, names, V, vs, vo, h1, h2, h3, rfl, rfl⟩ := cc
  have nd := scF_brings.nd
  have hlots := lotsM_len h3
  refine sd_cons (sd_expr (pd_call O1 hr (pad_cons (pd_var 0) (pad_cons (pd_var 2) pad_nil)) ⟨B, os, V, vo, rfl, rfl⟩) ?_)
  refine sd_cons (sd_set 5 nd (pd_make (fd := gearF B) O2 (hr.mono (by decide)) (pad_cons (pd_var 0) pad_nil) ⟨B, V, rfl, rfl, rfl, rfl⟩) ?_)
  refine sd_cons (sd_set 6 nd (pd_call O3 (hr.mono (by decide)) (pad_cons (pd_var 4) pad_nil) ⟨names, h3, rfl, rfl⟩) ?_)
  refine sd_cons (sd_for (fun i δ => δ = [.va (rBook CB B), .va (.d (.list ((runM B cr (os.take i) (lotsM names)).map eS))), .va (.d (.list (os.map eOr))), .va (.d (eW w)), .va (.d (eL names)), .va (.o (rObj CG (gearF B))), .va (.d (.list ((lotsM names).map FwC.eT))), .no]) (pd_var 2) rfl rfl (fun i x δ1 hx hδ => ?_) (fun δ1 hδ => ?_) PassesOwn.never rfl)
  · subst hδ
    rw [List.getElem?_map] at hx
    obtain ⟨o, ho, rfl⟩ := Option.map_eq_some_iff.mp hx
    have hi : i < os.length := (List.getElem?_eq_some_iff.mp ho).1
    have vi : ∀ o ∈ os.take i, VO B o := fun o h => vo o (List.mem_of_mem_take h)
    have hlen := run_len (B := B) (cr := cr) hlots (os.take i)
    have hp : 6 ^ (os.take i).length ≤ 6 ^ 2 := Nat.pow_le_pow_right (by decide) (by rw [List.length_take]; omega)
    have hb : (runM B cr (os.take i) (lotsM names)).length ≤ 1000 := by
      have := Nat.mul_le_mul h1 hp
      omega
    have e : runM B cr (os.take (i + 1)) (lotsM names) = comM B (runM B cr (os.take i) (lotsM names)) o (lotsM names) := foldl_take ho
    rw [e]
    exact ⟨_, _, gd_name 7 nd, sd_cons (sd_set 1 nd (pd_call O4 hr (pad_cons (pd_var 5) (pad_cons (pd_var 1) (pad_cons (pd_var 7) (pad_cons (pd_var 6) pad_nil)))) ⟨B, runM B cr (os.take i) (lotsM names), _, o, lotsM names, V, run_VS V vs vi, vo o (List.mem_of_getElem? ho), rfl, hb, by omega, rfl, rfl⟩) (sd_drop 7 (sd_nil rfl)))⟩
  · subst hδ
    rw [List.length_map, List.take_length]
    exact sd_one (sd_ret (pd_call O5 (hr.mono (by decide)) (pad_cons (pd_var 1) (pad_cons (pd_var 3) pad_nil)) ⟨_, _, w, rfl, rfl, rfl⟩) rfl)
end
end Fw
set_option maxHeartbeats 2000000
namespace Fw
open PySem PySem.Spec PyProof.Rows L2 PySem.W
def eR (os : List Ord) : D := .list (os.map eOr)
def eRes : Option (List Ord) → D
  | none => .none
  | some os => eR os
section
variable {P : Program} {w0 : World} {K : PySem.W.Frag} {mg : Str → Option Value} {base : Heap} {CT CG CS CB : Addr}
def brS (P : Program) (w0 : World) (CB CG : Addr) (B : Bok) (cr : List Std) (w : Wish) (names : List Str) (most : Int) (rows known : Kn) (t s r l o b : Sl) : List Sl :=
  [.va (rBook CB B), .va (.d (.list (cr.map eS))), .va (.d (eW w)), .va (.d (eL names)), .va (.d (.int most)), .va (.o (rObj CG (gearF B))), .va (.d (.list ((lotsM names).map FwC.eT))), .va (.o (rDk P w0 KyC eR rows)), .ow (oDk P w0 KyC eR known), t, s, r, l, o, b]
def cBest (CB : Addr) (ars : List Ar) (q : Ar) : Prop := ∃ (B : Bok) (cr : List Std) (w : Wish) (names : List Str) (most : Int), VB B ∧ (∀ s ∈ cr, VS B s) ∧ cr.length ≤ 3 ∧ names.length ≤ 2 ∧ 0 ≤ most ∧ most ≤ 3 ∧ (orderMs B).length ≤ 7 ∧
  ars = [rBook CB B, .d (.list (cr.map eS)), .d (eW w), .d (eL names), .d (.int most)] ∧ q = .d (eRes (bestM B (lotsM names) most (ascM cr) w))
theorem asc_VS {B : Bok} {cr : List Std} (h : ∀ s ∈ cr, VS B s) : ∀ s ∈ ascM cr, VS B s := fun s hs => h s (mem_asc.mp hs)
theorem ok_best_row (T : DefAt K mg "best_row" sF_best_row) (B0 : Bt mg) (Z : Ks mg) (O1 : Okd P w0 K mg base 4 "ascending" ["standings"] cAsc) (O2 : OkI P w0 K mg base 3 CG "Gears" ["self", "book"] (mGears CB)) (O3 : Okd P w0 K mg base 1 "lots_of" ["names"] cLots) (O4 : Okd P w0 K mg base 6 "coming" ["gears", "crowd", "order", "lots"] (cComing CG))
    (O5 : Okd P w0 K mg base 2 "all_meet" ["crowd", "wish"] cAllMeet) (O6 : Okd P w0 K mg base 3 "orders_of" ["book"] (cOrders CB)) : Okd P w0 K mg base 7 "best_row" ["book", "crowd", "wish", "alarms", "most"] (cBest CB) := by
  refine okd_mk T scF_best_row (fun _ _ _ _ _ _ us hl => match us, hl with | [_, _, _, _, _], _ => rfl) (fun ars q ⟨_, _, _, _, _, _, _, _, _, _, _, _, e, _⟩ => by rw [e]; rfl) (by decide) fun ars q cc f cdv A outer s H E hr => ?_
  obtain ⟨B, cr, w, names, most, V, vs, h1, h2, m0, m3, h7, rfl, rfl⟩ := cc
  have nd := scF_best_row.nd
  have hlots := lotsM_len h2
  have hc0 : (ascM cr).length ≤ 3 := Nat.le_trans (asc_len cr) h1
  refine sd_cons (sd_set 5 nd (pd_make (fd := gearF B) O2 (hr.mono (by decide)) (pad_cons (pd_var 0) pad_nil) ⟨B, V, rfl, rfl, rfl, rfl⟩) ?_)
  refine sd_cons (sd_set 6 nd (pd_call O3 (hr.mono (by decide)) (pad_cons (pd_var 3) pad_nil) ⟨names, h2, rfl, rfl⟩) ?_)
  refine sd_cons (sd_set 7 nd (pd_dispK (K := KyC) (eW := eR) (k := ascM cr) (w := []) hr.units (pd_tuple B0 (pd_call O1 (hr.mono (by decide)) (pad_cons (pd_var 1) pad_nil) ⟨cr, _, rfl, rfl, rfl⟩)) (pd_lst pds_nil)) ?_)
  refine sd_cons (sd_copyK 8 B0 hr.units nd (pd_var 7) ?_)
  refine sd_cons (sd_range B0 (fun i δ => (∀ j, j < i → hitM w (stM B (lotsM names) most (ascM cr) j).1 = none) ∧ δ = brS P w0 CB CG B cr w names most (stM B (lotsM names) most (ascM cr) i).1 (stM B (lotsM names) most (ascM cr) i).2 .no .no .no .no .no .no) (pd_add (pd_var 4) pd_int) (by omega) (by omega) ⟨nofun, rfl⟩ (fun i δ1 hi hδ => ?_) (fun δ1 hδ => ?_) PassesOwn.never rfl)
  · obtain ⟨hn, rfl⟩ := hδ
    have hgood := st_good V hlots (most := most) (asc_VS vs) hc0 i
    have hlen := st_len (lots := lotsM names) (c0 := ascM cr) h7 m3 i
    have hlen' := st_len (lots := lotsM names) (c0 := ascM cr) h7 m3 (i + 1)
    have hst : stM B (lotsM names) most (ascM cr) (i + 1) = ((levelM B (lotsM names) (if (i : Int) < most then orderMs B else []) (stM B (lotsM names) most (ascM cr) i).1 (stM B (lotsM names) most (ascM cr) i).2).2, (levelM B (lotsM names) (if (i : Int) < most then orderMs B else []) (stM B (lotsM names) most (ascM cr) i).1 (stM B (lotsM names) most (ascM cr) i).2).1) := rfl
    have hres : ∀ row, hitM w (stM B (lotsM names) most (ascM cr) i).1 = some row → bestM B (lotsM names) most (ascM cr) w = some row := fun row h => find_some_at hi hn h
    have hnext : hitM w (stM B (lotsM names) most (ascM cr) i).1 = none → ∀ j, j < i + 1 → hitM w (stM B (lotsM names) most (ascM cr) j).1 = none := fun h j hj => by
      by_cases q : j < i
      · exact hn j q
      · have : j = i := by omega
        subst this; exact h
    have hi3 : i ≤ 3 := by omega
    rw [hst] at hlen' ⊢
    generalize (stM B (lotsM names) most (ascM cr) i).1 = rows at *
    generalize (stM B (lotsM names) most (ascM cr) i).2 = known at *
    have hlast : (levelM B (lotsM names) (if (i : Int) < most then orderMs B else []) rows known).1.length ≤ 400 := by
      refine Nat.le_trans hlen'.2.1 ?_
      repeat' split
      all_goals omega
    refine ⟨_, _, gd_name 9 nd, ?_⟩
    refine sd_cons (sd_items (K := KyC) (eW := eR) (kvs := rows) (fun a δ => (∀ e ∈ rows.take a, allM e.1 w = false) ∧ δ = brS P w0 CB CG B cr w names most rows known (.va (.d (.int i))) .no .no .no .no .no) (pd_var 7) ⟨by simp, rfl⟩ (fun a x δ1 hx hδ => ?_) (fun δ1 hδ => ?_) PassesOwn.never rfl)
    · obtain ⟨hno, rfl⟩ := hδ
      refine ⟨_, _, gd_tup rfl (gds_cons (gd_name 10 nd) (gds_cons (gd_name 11 nd) gds_nil)), ?_⟩
      refine sd_cons (sd_if (q := allM x.1 w) (ptd_val (pd_call O5 (hr.mono (by decide)) (pad_cons (pd_var 10) (pad_cons (pd_var 2) pad_nil)) ⟨x.1, _, w, rfl, rfl, rfl⟩)) (fun h => sd_one (sd_ret (pd_var 11) ?_)) fun h => sd_nil (sd_drop 10 (sd_drop 11 (sd_nil ⟨?_, rfl⟩))))
      · have hx2 : hitM w rows = some x.2 := by
          unfold hitM
          have hs : rows = rows.take a ++ rows.drop a := (List.take_append_drop a rows).symm
          have hd : rows.drop a = x :: rows.drop (a + 1) := by
            obtain ⟨ha, hx'⟩ := List.getElem?_eq_some_iff.mp hx
            rw [← hx']; exact List.drop_eq_getElem_cons ha
          rw [hs, List.find?_append, hd]
          have hn2 : (rows.take a).find? (fun e => allM e.1 w) = none := by
            rw [List.find?_eq_none]
            intro e he
            rw [hno e he]; decide
          rw [hn2]
          simp [List.find?, h]
        rw [hres _ hx2]
        rfl
      · intro e he
        rw [List.take_add_one, hx] at he
        rcases List.mem_append.mp he with z | z
        · exact hno e z
        · have : e = x := by simpa using z
          rw [this]; exact h
    · obtain ⟨hno, rfl⟩ := hδ
      rw [List.take_length] at hno
      have hnone : hitM w rows = none := by
        unfold hitM
        rw [List.find?_eq_none.mpr fun e he => by rw [hno e he]; decide]
        rfl
      refine sd_cons (sd_newK KyC eR 12 nd ?_)
      let os : List Ord := if (i : Int) < most then orderMs B else []
      have hos : ∀ o ∈ os, o ∈ orderMs B := fun o h => by
        have h' : o ∈ (if (i : Int) < most then orderMs B else []) := h
        split at h'
        · exact h'
        · cases h'
      have hosl : os.length ≤ 7 := by
        show (if (i : Int) < most then orderMs B else []).length ≤ 7
        split
        · exact h7
        · exact Nat.zero_le _
      have hk0 : known.length ≤ 400 := by
        refine Nat.le_trans hlen.2.1 ?_
        repeat' split
        all_goals omega
      have hr0 : rows.length ≤ 343 := by
        refine Nat.le_trans hlen.1 (Nat.le_trans (Nat.pow_le_pow_right (by decide) (Nat.min_le_right _ _)) (by decide))
      refine sd_cons (sd_items (K := KyC) (eW := eR) (kvs := rows) (fun a δ => δ = brS P w0 CB CG B cr w names most rows ((rows.take a).foldl (exM B (lotsM names) os) (known, [])).1 (.va (.d (.int i))) .no .no (.ow (oDk P w0 KyC eR ((rows.take a).foldl (exM B (lotsM names) os) (known, [])).2)) .no .no) (pd_var 7) rfl (fun a x δ1 hx hδ => ?_) (fun δ1 hδ => ?_) PassesOwn.never rfl)
      · subst hδ
        have gx := hgood x (List.mem_of_getElem? hx)
        have hfl := fold_len B (lotsM names) os (rows.take a) (known, [])
        have hta : (rows.take a).length ≤ 343 := by rw [List.length_take]; omega
        have hmul := Nat.mul_le_mul hta hosl
        rw [foldl_take hx]
        generalize (rows.take a).foldl (exM B (lotsM names) os) (known, []) = st at *
        have hs1 : st.1.length ≤ 3000 := by simp only [] at hfl; omega
        have hs2 : st.2.length ≤ 3000 := by simp only [List.length_nil] at hfl; omega
        have hxl : x.1.length ≤ 1000 := by
          have h6 : 6 ^ i ≤ 6 ^ 3 := Nat.pow_le_pow_right (by decide) hi3
          have := gx.len
          omega
        refine ⟨_, _, gd_tup rfl (gds_cons (gd_name 10 nd) (gds_cons (gd_name 11 nd) gds_nil)), ?_⟩
        refine sd_cons (sd_for (d := .list (os.map eOr)) (fun b δ => δ = brS P w0 CB CG B cr w names most rows ((os.take b).foldl (addO B (lotsM names) x) st).1 (.va (.d (.int i))) (.va (.d (eC x.1))) (.va (.d (eR x.2))) (.ow (oDk P w0 KyC eR ((os.take b).foldl (addO B (lotsM names) x) st).2)) .no .no) (pd_ife (q := decide ((i : Int) < most)) (ptd_lt (pd_var 9) (pd_var 4)) (fun h => ?_) (fun h => ?_)) rfl rfl (fun b y δ1 hy hδ => ?_) (fun δ1 hδ => ?_) PassesOwn.never rfl)
        · have : os = orderMs B := if_pos (of_decide_eq_true h)
          rw [this]
          exact pd_call O6 (hr.mono (by decide)) (pad_cons (pd_var 0) pad_nil) ⟨B, V, rfl, rfl⟩
        · have : os = [] := if_neg (of_decide_eq_false h)
          rw [this]
          exact pd_lst pds_nil
        · subst hδ
          rw [List.getElem?_map] at hy
          obtain ⟨o, ho, rfl⟩ := Option.map_eq_some_iff.mp hy
          have mo := hos o (List.mem_of_getElem? ho)
          have hel := exM_len B (lotsM names) x (os.take b) st
          have htb : (os.take b).length ≤ 7 := by rw [List.length_take]; omega
          have hrl : x.2.length = i := gx.row
          rw [foldl_take ho]
          have e0 : (os.take b).foldl (addO B (lotsM names) x) st = exM B (lotsM names) (os.take b) st x := rfl
          rw [e0]
          generalize exM B (lotsM names) (os.take b) st x = st2 at *
          refine ⟨_, _, gd_name 13 nd, ?_⟩
          refine sd_cons (sd_set 14 nd (pd_tuple B0 (pd_call O4 hr (pad_cons (pd_var 5) (pad_cons (pd_var 10) (pad_cons (pd_var 13) (pad_cons (pd_var 6) pad_nil)))) ⟨B, x.1, _, o, lotsM names, V, gx.vs, orders_VO o mo, rfl, hxl, by omega, rfl, rfl⟩)) ?_)
          refine sd_cons (sd_if (q := !st2.1.any fun e => decide (e.1 = comM B x.1 o (lotsM names))) (ptd_notinK (K := KyC) (eW := eR) (k := comM B x.1 o (lotsM names)) 8 rfl hr.units (pd_var 14)) (fun h => ?_) fun h => sd_nil ?_)
          · have ea : addO B (lotsM names) x st2 o = (putW st2.1 (comM B x.1 o (lotsM names)) (x.2 ++ [o]), putW st2.2 (comM B x.1 o (lotsM names)) (x.2 ++ [o])) := by unfold addO addM; exact if_pos h
            rw [ea]
            refine sd_cons (sd_setK (K := KyC) (eW := eR) (k := comM B x.1 o (lotsM names)) (w := x.2 ++ [o]) 8 rfl hr.units (pd_var 14) ((PF.pd (pf_cat (pd_var 11) (pd_lst (pds_cons (pd_var 13) pds_nil)) (by rw [List.length_map]; simp; omega))).is (by rw [eR, List.map_append]; rfl)) (by omega) ?_)
            refine sd_cons (sd_setK (K := KyC) (eW := eR) (k := comM B x.1 o (lotsM names)) (w := x.2 ++ [o]) 12 rfl hr.units (pd_var 14) ((PF.pd (pf_cat (pd_var 11) (pd_lst (pds_cons (pd_var 13) pds_nil)) (by rw [List.length_map]; simp; omega))).is (by rw [eR, List.map_append]; rfl)) (by omega) ?_)
            exact sd_nil (sd_drop 13 (sd_drop 14 (sd_nil rfl)))
          · have ea : addO B (lotsM names) x st2 o = st2 := by unfold addO addM; exact if_neg (by rw [h]; decide)
            rw [ea]
            exact sd_drop 13 (sd_drop 14 (sd_nil rfl))
        · subst hδ
          rw [List.length_map, List.take_length]
          exact sd_drop 10 (sd_drop 11 (sd_nil rfl))
      · subst hδ
        rw [List.take_length]
        have el : rows.foldl (exM B (lotsM names) os) (known, []) = levelM B (lotsM names) (if (i : Int) < most then orderMs B else []) rows known := rfl
        rw [el]
        generalize levelM B (lotsM names) (if (i : Int) < most then orderMs B else []) rows known = lv at *
        refine sd_cons (sd_if (q := decide ((500 : Int) < (lv.1.length : Int))) (ptd_gt (pd_lenK (K := KyC) (eW := eR) 8 B0 rfl) (pd_gi Z.most)) (fun h => ?_) fun h => sd_nil ?_)
        · have := of_decide_eq_true h
          omega
        · exact sd_frzO 12 (rDk P w0 KyC eR lv.2) rfl (fun G d ob h1 h2 => oDk_frz G d ob h1 h2) (sd_cons (sd_set 7 nd (pd_var 12) (sd_drop 9 (sd_drop 12 (sd_nil ⟨hnext hnone, rfl⟩)))))
  · obtain ⟨hn, rfl⟩ := hδ
    have e : bestM B (lotsM names) most (ascM cr) w = none := find_none_at hn
    rw [e]
    exact sd_one (sd_ret pd_non rfl)
end
end Fw
set_option maxHeartbeats 2000000
namespace Fw
open PySem PySem.Spec PyProof.Rows L2 PySem.W
/-- the crowds behind all rows of k orders, once each -/
def lvM (B : Bok) (lots : List (List Str)) (c0 : List Std) : Nat → List (List Std)
  | 0 => [c0]
  | k + 1 => (putAll (fun c => c) (fun _ => true) ((lvM B lots c0 k).flatMap fun c => (orderMs B).map fun o => comM B c o lots)).map (·.1)
def paperM (B : Bok) (lots : List (List Str)) (c0 : List Std) (n : Nat) : List (List (List Std)) := (List.range n).map fun k => lvM B lots c0 k
def eCs (c : List Std) : D := .list (c.map eS)
def ePp (p : List (List (List Std))) : D := .list (p.map fun cs => .list (cs.map eCs))
def paperR (B : Bok) (lots : List (List Str)) (c0 : List Std) (w : Wish) (most : Int) : Option (List (List (List Std))) := if (bestM B lots most c0 w).isSome then none else some (paperM B lots c0 (most.toNat + 1))
def eRp : Option (List (List (List Std))) → D
  | none => .none
  | some p => ePp p
def hasM (cs : List (List Std)) (c : List Std) : Bool := cs.any fun some_ => some_.all fun s => decide (s ∈ c)
section
variable {X : Cx} {a b : Expr} {δ : List Sl} {pos p : Pos}
theorem pd_neg {i : Int} (ha : PD X a δ (.d (.int i))) : PD X (.UnaryOp .USub a pos) δ (.d (.int (-i))) :=
  .of (pe_un un_neg ha.pe) fun σ H0 G H Q gs re k => .in gs re fun x H1 G1 g1 a1 => by
    cases a1
    exact ⟨i, rfl, k _ H1 G1 g1 (Dq.int _)⟩
/-- name[i], the name's list owned -/
theorem pd_ixo (j : Nat) {x : Str} {ds : List D} {i : Int} {d : D} (hi : δ[j]? = some (.ow (oLst ds))) (hb : PD X b δ (.d (.int i))) (h : atI ds i = some d) (hN : X.N[j]? = some x := by rfl) (hv : Vis X.env.scope x := by first | exact Or.inl rfl | exact Or.inr (Or.inl rfl) | exact Or.inr (Or.inr rfl))
    (hdb : (x == ("__debug__" : Str)) = false := by decide) (hc : (x == ("__classdict__" : Str)) = false := by decide) (hs : PlainIx b := by intro _ _; rfl) : PD X (.Subscript (.Name x p) b pos) δ (.d d) :=
  .of (pe_ix ix_list (pe_var hN hv hdb hc) hb.pe hs) fun σ H0 G H Q gs re k => by
    obtain ⟨q, ob, e1, e2, e3, e4, vs, rfl, e5⟩ := re.ow hi
    refine ⟨.ref q, e1, .in gs re fun y H2 G2 g2 a2 => ?_⟩
    cases a2
    obtain ⟨v, u1, u2⟩ := ati_up e5 h
    exact ⟨q, vs, i, v, rfl, rfl, SqL.of (g2.h _ _ e2), u1, k v H2 G2 g2 (dp_up g2.g u2)⟩
end
/-- what is told of a crowd -/
structure GoC (B : Bok) (i : Nat) (c : List Std) : Prop where
  vs : ∀ s ∈ c, VS B s
  len : c.length ≤ 3 * 6 ^ i
theorem com_goC {B : Bok} (V : VB B) {lots : List (List Str)} (hl : lots.length ≤ 6) {i : Nat} {c : List Std} (g : GoC B i c) {o : Ord} (vo : VO B o) : GoC B (i + 1) (comM B c o lots) :=
  ⟨com_VS V g.vs vo, Nat.le_trans com_len (by
    have := Nat.mul_le_mul g.len hl
    rw [Nat.pow_succ]
    omega)⟩
theorem mem_lv {B : Bok} {lots : List (List Str)} {c0 : List Std} {k : Nat} {x : List Std} : x ∈ lvM B lots c0 (k + 1) ↔ ∃ c ∈ lvM B lots c0 k, ∃ o ∈ orderMs B, x = comM B c o lots := by
  show x ∈ (putAll _ _ _).map (·.1) ↔ _
  unfold putAll
  rw [putAll_keys]
  simp only [List.map_nil, List.not_mem_nil, false_or, List.map_id', List.mem_flatMap, List.mem_map]
  constructor
  · rintro ⟨c, hc, o, ho, rfl⟩; exact ⟨c, hc, o, ho, rfl⟩
  · rintro ⟨c, hc, o, ho, rfl⟩; exact ⟨c, hc, o, ho, rfl⟩
theorem lv_good {B : Bok} (V : VB B) {lots : List (List Str)} (hl : lots.length ≤ 6) {c0 : List Std} (h0 : ∀ s ∈ c0, VS B s) (hz : c0.length ≤ 3) : ∀ k, ∀ c ∈ lvM B lots c0 k, GoC B k c
  | 0, c, hc => by
    have : c = c0 := List.mem_singleton.mp hc
    subst this
    exact ⟨h0, by simpa using hz⟩
  | k + 1, c, hc => by
    obtain ⟨c', h1, o, h2, rfl⟩ := mem_lv.mp hc
    exact com_goC V hl (lv_good V hl h0 hz k c' h1) (orders_VO o h2)
theorem flat_len {S T : Type} {f : S → List T} {n : Nat} : ∀ {xs : List S}, (∀ x ∈ xs, (f x).length ≤ n) → (xs.flatMap f).length ≤ xs.length * n
  | [], _ => by simp
  | x :: t, h => by
    rw [List.flatMap_cons, List.length_append, List.length_cons, Nat.succ_mul]
    have h1 := h x (List.mem_cons_self ..)
    have h2 := flat_len (xs := t) fun y hy => h y (List.mem_cons_of_mem _ hy)
    omega
theorem lv_len {B : Bok} {lots : List (List Str)} {c0 : List Std} (h7 : (orderMs B).length ≤ 7) : ∀ k, (lvM B lots c0 k).length ≤ 7 ^ k
  | 0 => by simp [lvM]
  | k + 1 => by
    show ((putAll _ _ _).map (·.1)).length ≤ _
    rw [List.length_map]
    refine Nat.le_trans putAll_len ?_
    have h1 := lv_len (lots := lots) (c0 := c0) h7 k
    have h2 := flat_len (n := 7) (xs := lvM B lots c0 k) (f := fun c => (orderMs B).map fun o => comM B c o lots) fun x _ => by rw [List.length_map]; exact h7
    rw [Nat.pow_succ]
    omega
theorem VS.ok {B : Bok} (V : VB B) {s : Std} (h : VS B s) : OkS s := ⟨V.so _ (.inl (.inr h.mo)), fun x hx => V.so _ (.inl (.inl (h.lo.sub x hx))), fun r hr => V.so _ (.inr (.inr (h.ro r hr).1))⟩
section
variable {P : Program} {w0 : World} {K : PySem.W.Frag} {mg : Str → Option Value} {base : Heap} {CT CG CS CB : Addr}
def cPaper (CB : Addr) (ars : List Ar) (q : Ar) : Prop := ∃ (B : Bok) (cr : List Std) (w : Wish) (names : List Str) (most : Int), VB B ∧ (∀ s ∈ cr, VS B s) ∧ cr.length ≤ 3 ∧ names.length ≤ 2 ∧ 0 ≤ most ∧ most ≤ 3 ∧ (orderMs B).length ≤ 7 ∧
  ars = [rBook CB B, .d (.list (cr.map eS)), .d (eW w), .d (eL names), .d (.int most)] ∧ q = .d (eRp (paperR B (lotsM names) (ascM cr) w most))
def npS (P : Program) (w0 : World) (CB CG : Addr) (B : Bok) (cr : List Std) (w : Wish) (names : List Str) (most : Int) (lists : List D) (t l s o c : Sl) : List Sl :=
  [.va (rBook CB B), .va (.d (.list (cr.map eS))), .va (.d (eW w)), .va (.d (eL names)), .va (.d (.int most)), .va (.o (rObj CG (gearF B))), .va (.d (.list ((lotsM names).map FwC.eT))), .ow (oLst lists), t, l, s, o, c]
def lvD (B : Bok) (lots : List (List Str)) (c0 : List Std) (n : Nat) : List D := (List.range n).map fun k => .list ((lvM B lots c0 k).map eC)
theorem ok_none_paper (T : DefAt K mg "none_paper" sF_none_paper) (B0 : Bt mg) (O0 : Okd P w0 K mg base 7 "best_row" ["book", "crowd", "wish", "alarms", "most"] (cBest CB)) (O1 : Okd P w0 K mg base 4 "ascending" ["standings"] cAsc) (O2 : OkI P w0 K mg base 3 CG "Gears" ["self", "book"] (mGears CB)) (O3 : Okd P w0 K mg base 1 "lots_of" ["names"] cLots) (O4 : Okd P w0 K mg base 6 "coming" ["gears", "crowd", "order", "lots"] (cComing CG))
    (O6 : Okd P w0 K mg base 3 "orders_of" ["book"] (cOrders CB)) : Okd P w0 K mg base 8 "none_paper" ["book", "crowd", "wish", "alarms", "most"] (cPaper CB) := by
  refine okd_mk T scF_none_paper (fun _ _ _ _ _ _ us hl => match us, hl with | [_, _, _, _, _], _ => rfl) (fun ars q ⟨_, _, _, _, _, _, _, _, _, _, _, _, e, _⟩ => by rw [e]; rfl) (by decide) fun ars q cc f cdv A outer s H E hr => ?_
  obtain ⟨B, cr, w, names, most, V, vs, h1, h2, m0, m3, h7, rfl, rfl⟩ := cc
  have nd := scF_none_paper.nd
  have hlots := lotsM_len h2
  have hc0 : (ascM cr).length ≤ 3 := Nat.le_trans (asc_len cr) h1
  have hbest : isNo (eRes (bestM B (lotsM names) most (ascM cr) w)) = !(bestM B (lotsM names) most (ascM cr) w).isSome := by cases bestM B (lotsM names) most (ascM cr) w <;> rfl
  refine sd_cons (sd_if (q := !isNo (eRes (bestM B (lotsM names) most (ascM cr) w))) (ptd_notn (pd_call O0 hr (pad_cons (pd_var 0) (pad_cons (pd_var 1) (pad_cons (pd_var 2) (pad_cons (pd_var 3) (pad_cons (pd_var 4) pad_nil))))) ⟨B, cr, w, names, most, V, vs, h1, h2, m0, m3, h7, rfl, rfl⟩) pd_non) (fun h => sd_one (sd_ret pd_non ?_)) fun h => sd_nil ?_)
  · rw [hbest, Bool.not_not] at h
    show Ar.d .none = .d (eRp (paperR _ _ _ _ _))
    unfold paperR
    rw [if_pos h]; rfl
  · have hp : paperR B (lotsM names) (ascM cr) w most = some (paperM B (lotsM names) (ascM cr) (most.toNat + 1)) := by
      unfold paperR
      rw [if_neg]
      rw [hbest, Bool.not_not] at h
      rw [h]; decide
    rw [hp]
    refine sd_cons (sd_set 5 nd (pd_make (fd := gearF B) O2 (hr.mono (by decide)) (pad_cons (pd_var 0) pad_nil) ⟨B, V, rfl, rfl, rfl, rfl⟩) ?_)
    refine sd_cons (sd_set 6 nd (pd_call O3 (hr.mono (by decide)) (pad_cons (pd_var 3) pad_nil) ⟨names, h2, rfl, rfl⟩) ?_)
    refine sd_cons (sd_own 7 nd (pf_lst (pds_cons (pd_lst (pds_cons (pd_tuple B0 (pd_call O1 (hr.mono (by decide)) (pad_cons (pd_var 1) pad_nil) ⟨cr, _, rfl, rfl, rfl⟩)) pds_nil)) pds_nil)) ?_)
    refine sd_cons (sd_range B0 (fun i δ => δ = npS P w0 CB CG B cr w names most (lvD B (lotsM names) (ascM cr) (i + 1)) .no .no .no .no .no) (pd_var 4) (by omega) (by omega) rfl (fun i δ1 hi hδ => ?_) (fun δ1 hδ => ?_) PassesOwn.never rfl)
    · subst hδ
      have hlv := lv_good V hlots (asc_VS vs) hc0 i
      have hll := lv_len (lots := lotsM names) (c0 := ascM cr) h7 i
      have hi3 : i ≤ 2 := by omega
      have h7i : 7 ^ i ≤ 7 ^ 2 := Nat.pow_le_pow_right (by decide) hi3
      have h6i : 6 ^ i ≤ 6 ^ 2 := Nat.pow_le_pow_right (by decide) hi3
      have hat : atI (lvD B (lotsM names) (ascM cr) (i + 1)) (-1) = some (.list ((lvM B (lotsM names) (ascM cr) i).map eC)) := by
        have e : (lvD B (lotsM names) (ascM cr) (i + 1)).length = i + 1 := by unfold lvD; rw [List.length_map, List.length_range]
        unfold atI ixN
        rw [e, if_neg (by decide), if_pos (by omega)]
        show (lvD B (lotsM names) (ascM cr) (i + 1))[((-1 : Int) + ((i + 1 : Nat) : Int)).toNat]? = _
        have e2 : ((-1 : Int) + ((i + 1 : Nat) : Int)).toNat = i := by omega
        rw [e2]
        unfold lvD
        rw [List.getElem?_map, List.getElem?_range (by omega)]
        rfl
      refine ⟨_, _, gd_name 8 nd, ?_⟩
      refine sd_cons (sd_newK KyC (fun b : Bool => .bool b) 9 nd ?_)
      have hsucc : lvD B (lotsM names) (ascM cr) (i + 1 + 1) = lvD B (lotsM names) (ascM cr) (i + 1) ++ [.list ((lvM B (lotsM names) (ascM cr) (i + 1)).map eC)] := by
        unfold lvD
        rw [List.range_succ, List.map_append]
        rfl
      have hnl : lvM B (lotsM names) (ascM cr) (i + 1) = (putAll (fun c => c) (fun _ => true) ((lvM B (lotsM names) (ascM cr) i).flatMap fun c => (orderMs B).map fun o => comM B c o (lotsM names))).map (·.1) := rfl
      rw [hsucc, hnl]
      generalize lvM B (lotsM names) (ascM cr) i = lv at *
      have hlist : (lvD B (lotsM names) (ascM cr) (i + 1)).length ≤ 10 := by unfold lvD; rw [List.length_map, List.length_range]; omega
      generalize lvD B (lotsM names) (ascM cr) (i + 1) = lists at *
      have pa : ∀ (xs : List (List Std)) (x : List Std), putAll (fun c => c) (fun _ => true) ((xs ++ [x]).flatMap fun c => (orderMs B).map fun o => comM B c o (lotsM names)) = (orderMs B).foldl (fun acc o => putW acc (comM B x o (lotsM names)) true) (putAll (fun c => c) (fun _ => true) (xs.flatMap fun c => (orderMs B).map fun o => comM B c o (lotsM names))) := fun xs x => by
        unfold putAll
        rw [List.flatMap_append, List.foldl_append, List.flatMap_singleton, List.foldl_map]
      refine sd_cons (sd_for (d := .list (lv.map eC)) (fun a δ => δ = npS P w0 CB CG B cr w names most lists (.va (.d (.int i))) (.ow (oDk P w0 KyC (fun b : Bool => .bool b) (putAll (fun c => c) (fun _ => true) ((lv.take a).flatMap fun c => (orderMs B).map fun o => comM B c o (lotsM names))))) .no .no .no) (pd_ixo 7 rfl (pd_neg pd_int) hat) rfl rfl (fun a y δ1 hy hδ => ?_) (fun δ1 hδ => ?_) PassesOwn.never rfl)
      · subst hδ
        rw [List.getElem?_map] at hy
        obtain ⟨x, hx, rfl⟩ := Option.map_eq_some_iff.mp hy
        have gx := hlv x (List.mem_of_getElem? hx)
        have hxl : x.length ≤ 1000 := by have := gx.len; omega
        have hpl : (putAll (fun c => c) (fun _ => true) ((lv.take a).flatMap fun c => (orderMs B).map fun o => comM B c o (lotsM names))).length ≤ 343 := by
          refine Nat.le_trans putAll_len ?_
          have h1 := flat_len (n := 7) (xs := lv.take a) (f := fun c => (orderMs B).map fun o => comM B c o (lotsM names)) fun x _ => by rw [List.length_map]; exact h7
          have h2 : (lv.take a).length ≤ 49 := by rw [List.length_take]; omega
          omega
        have ht : lv.take (a + 1) = lv.take a ++ [x] := by rw [List.take_add_one, hx]; rfl
        rw [ht, pa]
        generalize putAll (fun c => c) (fun _ => true) ((lv.take a).flatMap fun c => (orderMs B).map fun o => comM B c o (lotsM names)) = st at *
        refine ⟨_, _, gd_name 10 nd, ?_⟩
        refine sd_cons (sd_for (d := .list ((orderMs B).map eOr)) (fun b δ => δ = npS P w0 CB CG B cr w names most lists (.va (.d (.int i))) (.ow (oDk P w0 KyC (fun b : Bool => .bool b) (((orderMs B).take b).foldl (fun acc o => putW acc (comM B x o (lotsM names)) true) st))) (.va (.d (eC x))) .no .no) (pd_call O6 (hr.mono (by decide)) (pad_cons (pd_var 0) pad_nil) ⟨B, V, rfl, rfl⟩) rfl rfl (fun b y δ1 hy hδ => ?_) (fun δ1 hδ => ?_) PassesOwn.never rfl)
        · subst hδ
          rw [List.getElem?_map] at hy
          obtain ⟨o, ho, rfl⟩ := Option.map_eq_some_iff.mp hy
          have mo := List.mem_of_getElem? ho
          have hb7 : b < 7 := by have := (List.getElem?_eq_some_iff.mp ho).1; omega
          have hfl : ∀ (os : List Ord) (st : List (List Std × Bool)), (os.foldl (fun acc o => putW acc (comM B x o (lotsM names)) true) st).length ≤ st.length + os.length := by
            intro os
            induction os with
            | nil => intro st; exact Nat.le_refl _
            | cons o os ih =>
              intro st
              have h1 := ih (putW st (comM B x o (lotsM names)) true)
              have h2 := putW_len st (comM B x o (lotsM names)) true
              rw [List.foldl_cons, List.length_cons]
              omega
          have hst := hfl ((orderMs B).take b) st
          have htb : ((orderMs B).take b).length ≤ 7 := by rw [List.length_take]; omega
          rw [foldl_take ho]
          refine ⟨_, _, gd_name 11 nd, ?_⟩
          refine sd_cons (sd_setK (K := KyC) (eW := fun b : Bool => .bool b) (k := comM B x o (lotsM names)) (w := true) 9 rfl hr.units (pd_tuple B0 (pd_call O4 (hr.mono (by decide)) (pad_cons (pd_var 5) (pad_cons (pd_var 10) (pad_cons (pd_var 11) (pad_cons (pd_var 6) pad_nil)))) ⟨B, x, _, o, lotsM names, V, gx.vs, orders_VO o mo, rfl, hxl, by omega, rfl, rfl⟩)) pd_bl (by omega) ?_)
          exact sd_drop 11 (sd_nil rfl)
        · subst hδ
          rw [List.length_map, List.take_length]
          exact sd_drop 10 (sd_nil rfl)
      · subst hδ
        rw [List.length_map, List.take_length]
        refine sd_cons (sd_apnd 7 rfl (PF.pd (pf_listKo (K := KyC) (eW := fun b : Bool => .bool b) 9 B0 rfl rfl)) (by omega) (sd_drop 8 (sd_drop 9 (sd_nil ?_))))
        rw [List.map_map]
        rfl
    · subst hδ
      have e : most.toNat + 1 = most.toNat + 1 := rfl
      refine sd_frz 7 rfl (sd_one (sd_ret (r := .d (ePp (paperM B (lotsM names) (ascM cr) (most.toNat + 1)))) ((PF.pd (pf_lc0 (own := [("crowds", 12)]) (xs := List.range (most.toNat + 1)) (enc := fun k => .list ((lvM B (lotsM names) (ascM cr) k).map eC)) (f := fun k => .list ((lvM B (lotsM names) (ascM cr) k).map eCs)) rfl nd (pd_var 7) rfl (bkF_none_paper (by decide +kernel)) fun k hk => ⟨_, _, fun _ _ _ _ _ => gd_name 12 nd, by decide, fun _ _ _ _ _ => PF.pd (pf_lc0 (own := [("some", 10)]) (xs := lvM B (lotsM names) (ascM cr) k) (enc := eC) (f := eCs) rfl nd (pd_var 12) rfl (blkOk_by rfl) fun x hx => ⟨_, _, fun _ _ _ _ _ => gd_name 10 nd, by decide, fun _ _ _ _ _ => pd_list B0 (pd_var 10) rfl⟩)⟩)).is ?_) rfl))
      unfold paperM ePp
      rw [List.map_map]
      rfl
end
end Fw
set_option maxHeartbeats 2000000
namespace Fw
open PySem PySem.Spec PyProof.Rows L2 PySem.W
section
variable {P : Program} {w0 : World} {K : PySem.W.Frag} {mg : Str → Option Value} {base : Heap} {CT CG CS CB : Addr}
theorem units65 {k : Nat} {A : Around} (r : Room k A) : A.units + 65 < cLine := by have := r.un; omega
def cHas (ars : List Ar) (q : Ar) : Prop := ∃ (cs : List (List Std)) (c : List Std), (∀ s ∈ c, OkS s) ∧ (∀ x ∈ cs, ∀ s ∈ x, OkS s) ∧ ars = [.d (.list (cs.map eCs)), .d (.list (c.map eS))] ∧ q = .d (.bool (hasM cs c))
theorem ok_has_part (T : DefAt K mg "has_part" sF_has_part) (B0 : Bt mg) : Okd P w0 K mg base 1 "has_part" ["crowds", "crowd"] cHas := by
  refine okd_mk T scF_has_part (fun _ _ _ _ _ _ us hl => match us, hl with | [_, _], _ => rfl) (fun ars q ⟨_, _, _, _, e, _⟩ => by rw [e]; rfl) (by decide) fun ars q cc f cdv A outer s H E hr => ?_
  obtain ⟨cs, c, h1, h2, rfl, rfl⟩ := cc
  have nd := scF_has_part.nd
  exact sd_one (sd_ret (pd_anyT (g := fun x : List Std => x.all fun s => decide (s ∈ c)) B0 rfl (PF.pd (pf_lc0 (own := [("some", 3)]) (enc := eCs) (xs := cs) rfl nd (pd_var 0) rfl (bkF_has_part (by decide +kernel)) fun x hx => ⟨_, _, fun _ _ _ _ _ => gd_name 3 nd, by decide, fun _ _ _ _ _ => pd_allT (g := fun s => decide (s ∈ c)) B0 rfl (PF.pd (pf_lc0 (own := [("standing", 2)]) (enc := eS) (xs := x) rfl nd (pd_var 3) rfl (blkOk_by rfl) fun s hs => ⟨_, _, fun _ _ _ _ _ => gd_name 2 nd, by decide, fun _ _ _ _ _ => (pd_ind (units65 hr) (pd_var 2) (pd_var 1) (shp_eS (h2 x hx s hs)) (shp_eSs h1)).is (by rw [any_eS])⟩))⟩))) rfl)
theorem flat_bools {T T1 : Type} {ys : T → List T1} {g : T → T1 → Bool} {xs : List T} : flat2 ys (fun x y => .bool (g x y)) xs = (xs.flatMap fun x => (ys x).map (g x)).map PyData.bool := by
  unfold flat2
  rw [List.map_flatMap]
  congr 1
  funext x
  rw [List.map_map]
  rfl
def cCheckNone (CB : Addr) (ars : List Ar) (q : Ar) : Prop := ∃ (B : Bok) (cr : List Std) (w : Wish) (names : List Str) (n : Nat), VB B ∧ (∀ s ∈ cr, VS B s) ∧ cr.length ≤ 3 ∧ names.length ≤ 2 ∧ n ≤ 3 ∧ (orderMs B).length ≤ 7 ∧ (∀ k, k ≤ n → ∀ c ∈ lvM B (lotsM names) (ascM cr) k, allM c w = false) ∧
  ars = [rBook CB B, .d (.list (cr.map eS)), .d (eW w), .d (eL names), .d (ePp (paperM B (lotsM names) (ascM cr) (n + 1)))] ∧ q = .d (.bool true)
theorem ok_check_none (T : DefAt K mg "check_none" sF_check_none) (B0 : Bt mg) (O1 : Okd P w0 K mg base 1 "has_part" ["crowds", "crowd"] cHas) (O2 : OkI P w0 K mg base 3 CG "Gears" ["self", "book"] (mGears CB)) (O3 : Okd P w0 K mg base 1 "lots_of" ["names"] cLots) (O4 : Okd P w0 K mg base 6 "coming" ["gears", "crowd", "order", "lots"] (cComing CG))
    (O5 : Okd P w0 K mg base 2 "all_meet" ["crowd", "wish"] cAllMeet) (O6 : Okd P w0 K mg base 3 "orders_of" ["book"] (cOrders CB)) : Okd P w0 K mg base 7 "check_none" ["book", "crowd", "wish", "alarms", "paper"] (cCheckNone CB) := by
  refine okd_mk T scF_check_none (fun _ _ _ _ _ _ us hl => match us, hl with | [_, _, _, _, _], _ => rfl) (fun ars q ⟨_, _, _, _, _, _, _, _, _, _, _, _, e, _⟩ => by rw [e]; rfl) (by decide) fun ars q cc f cdv A outer s H E hr => ?_
  obtain ⟨B, cr, w, names, n, V, vs, h1, h2, hn, h7, hmeet, rfl, rfl⟩ := cc
  have nd := scF_check_none.nd
  have hlots := lotsM_len h2
  have hc0 : (ascM cr).length ≤ 3 := Nat.le_trans (asc_len cr) h1
  have hlv := lv_good V hlots (asc_VS vs) hc0
  have hll := lv_len (lots := lotsM names) (c0 := ascM cr) h7
  have hpp : ePp (paperM B (lotsM names) (ascM cr) (n + 1)) = .list ((List.range (n + 1)).map fun k => .list ((lvM B (lotsM names) (ascM cr) k).map eCs)) := by
    unfold ePp paperM
    rw [List.map_map]; rfl
  rw [hpp]
  have hat : ∀ k : Nat, k ≤ n → ((List.range (n + 1)).map fun k => PyData.list ((lvM B (lotsM names) (ascM cr) k).map eCs))[(k : Int).toNat]? = some (.list ((lvM B (lotsM names) (ascM cr) k).map eCs)) := fun k hk => by
    rw [Int.toNat_natCast, List.getElem?_map, List.getElem?_range (by omega)]; rfl
  have r1 := hr.mono (show 1 ≤ 6 by decide)
  refine sd_cons (sd_set 5 nd (pd_make (fd := gearF B) O2 (hr.mono (by decide)) (pad_cons (pd_var 0) pad_nil) ⟨B, V, rfl, rfl, rfl, rfl⟩) ?_)
  refine sd_cons (sd_set 6 nd (pd_call O3 r1 (pad_cons (pd_var 3) pad_nil) ⟨names, h2, rfl, rfl⟩) ?_)
  have hfirst : hasM (lvM B (lotsM names) (ascM cr) 0) cr = true := by
    unfold hasM
    rw [List.any_eq_true]
    refine ⟨ascM cr, List.mem_singleton.mpr rfl, List.all_eq_true.mpr fun s hs => decide_eq_true (mem_asc.mp hs)⟩
  refine sd_cons (sd_if (PWD.ptd (pwd_or (ptd_not (ptd_lst (pd_var 4))) fun _ => pwd_or1 (ptd_not (ptd_val (pd_call O1 r1 (pad_cons (pd_ixl (pd_var 4) pd_int (ati_nn (by decide) (hat 0 (Nat.zero_le _)))) (pad_cons (pd_var 1) pad_nil)) ⟨_, cr, fun s hs => (vs s hs).ok V, fun x hx s hs => ((hlv 0 x hx).vs s hs).ok V, rfl, rfl⟩))))) (fun h => ?_) fun _ => sd_nil ?_)
  · rw [hfirst] at h
    simp [List.range_succ] at h
  refine sd_cons (sd_if (q := false) ((ptd_val (pd_any (bs := (List.range (n + 1)).flatMap fun k => (lvM B (lotsM names) (ascM cr) k).map fun c => allM c w) B0 rfl (PF.pd (pf_lc2 (own := [("crowds", 10), ("some", 8)]) (vs1 := [8]) (xs := List.range (n + 1)) (enc := fun k => .list ((lvM B (lotsM names) (ascM cr) k).map eCs)) (d1 := fun k => .list ((lvM B (lotsM names) (ascM cr) k).map eCs)) (ys := fun k => lvM B (lotsM names) (ascM cr) k) (enc1 := eCs) (f := fun _ c => .bool (allM c w)) rfl nd (pd_var 4) rfl (bkF_check_none (by decide +kernel)) (by decide) (by rw [List.length_range]; omega) (fun k hk => ?_) fun k hk => ⟨_, _, fun _ _ _ _ _ => gd_name 10 nd, by decide, fun _ _ _ _ _ => pd_var 10, rfl, fun c hc => ⟨_, _, fun _ _ _ _ _ => gd_name 8 nd, by decide, fun _ _ _ _ _ => pd_call O5 (hr.mono (by decide)) (pad_cons (pd_var 8) (pad_cons (pd_var 2) pad_nil)) ⟨c, _, w, rfl, rfl, rfl⟩⟩⟩)) flat_bools)).is ?_) ff fun _ => sd_nil ?_)
  · have hk' := List.mem_range.mp hk
    have := Nat.pow_le_pow_right (show 0 < 7 by decide) (show k ≤ 3 by omega)
    have := hll k
    omega
  · rw [List.any_eq_false]
    intro b hb
    obtain ⟨k, hk, hb⟩ := List.mem_flatMap.mp hb
    obtain ⟨c, hc, rfl⟩ := List.mem_map.mp hb
    rw [hmeet k (by have := List.mem_range.mp hk; omega) c hc]
    decide
  let D0 : List Sl := [.va (rBook CB B), .va (.d (.list (cr.map eS))), .va (.d (eW w)), .va (.d (eL names)), .va (.d (.list ((List.range (n + 1)).map fun k => .list ((lvM B (lotsM names) (ascM cr) k).map eCs)))), .va (.o (rObj CG (gearF B))), .va (.d (.list ((lotsM names).map FwC.eT)))]
  refine sd_cons (sd_range B0 (fun i δ => δ = D0 ++ [.no, .no, .no, .no]) (pd_sub (pd_len B0 (pd_var 4) rfl) pd_int) ?_ ?_ rfl (fun i δ1 hi hδ => ?_) (fun δ1 hδ => ?_) PassesOwn.never rfl)
  · rw [List.length_map, List.length_range]; omega
  · rw [List.length_map, List.length_range]; omega
  · subst hδ
    rw [List.length_map, List.length_range] at hi
    have hin : i < n := by omega
    have hi2 : ((i : Int) + 1) = ((i + 1 : Nat) : Int) := by omega
    refine ⟨_, _, gd_name 7 nd, ?_⟩
    refine sd_cons (sd_for (d := .list ((lvM B (lotsM names) (ascM cr) i).map eCs)) (fun _ δ => δ = D0 ++ [.va (.d (.int i)), .no, .no, .no]) (pd_ixl (pd_var 4) (pd_var 7) (ati_nn (Int.natCast_nonneg _) (hat i (by omega)))) rfl rfl (fun a y δ1 hy hδ => ?_) (fun δ1 hδ => ?_) PassesOwn.never rfl)
    · subst hδ
      rw [List.getElem?_map] at hy
      obtain ⟨x, hx, rfl⟩ := Option.map_eq_some_iff.mp hy
      have mx := List.mem_of_getElem? hx
      have gx := hlv i x mx
      have hxl : x.length ≤ 1000 := by
        have := Nat.pow_le_pow_right (show 0 < 6 by decide) (show i ≤ 3 by omega)
        have := gx.len
        omega
      refine ⟨_, _, gd_name 8 nd, ?_⟩
      refine sd_cons (sd_for (d := .list ((orderMs B).map eOr)) (fun _ δ => δ = D0 ++ [.va (.d (.int i)), .va (.d (eCs x)), .no, .no]) (pd_call O6 (hr.mono (by decide)) (pad_cons (pd_var 0) pad_nil) ⟨B, V, rfl, rfl⟩) rfl rfl (fun b y δ1 hy hδ => ?_) (fun δ1 hδ => ?_) PassesOwn.never rfl)
      · subst hδ
        rw [List.getElem?_map] at hy
        obtain ⟨o, ho, rfl⟩ := Option.map_eq_some_iff.mp hy
        have mo := List.mem_of_getElem? ho
        have vo := orders_VO o mo
        have hin2 : comM B x o (lotsM names) ∈ lvM B (lotsM names) (ascM cr) (i + 1) := mem_lv.mpr ⟨x, mx, o, mo, rfl⟩
        have gc := hlv (i + 1) _ hin2
        have hh : hasM (lvM B (lotsM names) (ascM cr) (i + 1)) (comM B x o (lotsM names)) = true := by
          unfold hasM
          rw [List.any_eq_true]
          exact ⟨_, hin2, List.all_eq_true.mpr fun s hs => decide_eq_true hs⟩
        refine ⟨_, _, gd_name 9 nd, ?_⟩
        refine sd_cons (sd_if (q := false) ((ptd_not (ptd_val (pd_call O1 r1 (pad_cons (pd_ixl (pd_var 4) (pd_add (pd_var 7) pd_int) (ati_nn (d := .list ((lvM B (lotsM names) (ascM cr) (i + 1)).map eCs)) (by omega) (by rw [hi2]; exact hat (i + 1) hin))) (pad_cons (pd_call O4 hr (pad_cons (pd_var 5) (pad_cons (pd_var 8) (pad_cons (pd_var 9) (pad_cons (pd_var 6) pad_nil)))) ⟨B, x, _, o, lotsM names, V, gx.vs, vo, rfl, hxl, by omega, rfl, rfl⟩) pad_nil)) ⟨_, _, fun s hs => (gc.vs s hs).ok V, fun y hy s hs => ((hlv (i + 1) y hy).vs s hs).ok V, rfl, rfl⟩))).is (by rw [hh]; rfl)) ff fun _ => sd_nil (sd_drop 9 (sd_nil rfl)))
      · subst hδ
        exact sd_drop 8 (sd_nil rfl)
    · subst hδ
      exact sd_drop 7 (sd_nil rfl)
  · subst hδ
    exact sd_one (sd_ret pd_bl rfl)
end
end Fw
set_option maxHeartbeats 2000000
namespace Fw
open PySem PySem.Spec PyProof.Rows L2 PySem.W
abbrev RwT := List Int × Int × Int
def rwStep (t : RwT) (k : Nat) : RwT :=
  let st := ((t.2.2 + 1) * 48271 + 69621 * (k : Int)) % 2147483647
  if 0 < t.2.1 then (t.1 ++ [t.2.1 % 1009], t.2.1 / 1009, st) else (t.1 ++ [st / 2048 % 1009], t.2.1, st)
def rw0 (cell : Int) : RwT := ([], if (10 : Int) ^ 18 ≤ (cell.natAbs : Int) then (cell.natAbs : Int) else 0, (cell.natAbs : Int) % 2147483647)
def rwTo (cell : Int) (n : Nat) : RwT := (List.range n).foldl rwStep (rw0 cell)
def rowNs (cell : Int) (many : Nat) : List Int := (rwTo cell many).1
theorem rwTo_succ (cell : Int) (n : Nat) : rwTo cell (n + 1) = rwStep (rwTo cell n) n := by
  unfold rwTo
  rw [List.range_succ, List.foldl_append]
  rfl
theorem rwTo_ok (cell : Int) : ∀ n, (rwTo cell n).1.length = n ∧ ∀ x ∈ (rwTo cell n).1, 0 ≤ x ∧ x < 1009
  | 0 => ⟨rfl, nofun⟩
  | n + 1 => by
    obtain ⟨h1, h2⟩ := rwTo_ok cell n
    rw [rwTo_succ]
    unfold rwStep
    dsimp only
    split
    · refine ⟨by simp [h1], fun x hx => ?_⟩
      rcases List.mem_append.mp hx with z | z
      · exact h2 x z
      · rw [List.mem_singleton.mp z]; omega
    · refine ⟨by simp [h1], fun x hx => ?_⟩
      rcases List.mem_append.mp hx with z | z
      · exact h2 x z
      · rw [List.mem_singleton.mp z]; omega
def eachOf (n : Nat) (many : Int) : Int := 1 + many / max 1 (n : Int)
def numsM (cells : List Int) (many : Nat) : List Int :=
  let xs := (cells.take 63).flatMap fun c => rowNs c (eachOf (cells.take 63).length many).toNat
  (xs ++ List.replicate (many - xs.length) 0).take many
/-- the picks of a number -/
def pickStep (without : List Str) (t : List Str × Int) (x : Str) : List Str × Int := ((if t.2 % 3 = 1 ∧ x ∉ without then t.1 ++ [x] else t.1), t.2 / 3)
def pickM (names : List Str) (n : Int) (without : List Str) : List Str := ((names.mergeSort leS).foldl (pickStep without) ([], n)).1
structure Eff where
  on : List Str
  off : List Str
  to : Option Str
def eEf (e : Eff) : D := .tuple [eL e.on, eL e.off, eO e.to]
def toM (modes : List Str) (n : Int) : Option Str := (modes.map some ++ [none, none]).getD (n % (modes.length + 2 : Int)).toNat none
def effAt (holds modes : List Str) (ns : List Int) (k : Nat) : Eff :=
  let on := pickM holds (ns.getD k 0) []
  ⟨on, pickM holds (ns.getD (k + 1) 0) on, toM modes (ns.getD (k + 2) 0)⟩
section
variable {P : Program} {w0 : World} {K : PySem.W.Frag} {mg : Str → Option Value} {base : Heap} {CT CG CS CB : Addr}
def cRow (ars : List Ar) (q : Ar) : Prop := ∃ (cell : Int) (many : Nat), many < 1000 ∧ ars = [.d (.int cell), .d (.int (many : Int))] ∧ q = .d (.list ((rowNs cell many).map .int))
theorem ok__law_row (T : DefAt K mg "_law_row" sF__law_row) (B0 : Bt mg) : Okd P w0 K mg base 1 "_law_row" ["_law_cell", "_law_many"] cRow := by
  refine okd_mk T scF__law_row (fun _ _ _ _ _ _ us hl => match us, hl with | [_, _], _ => rfl) (fun ars q ⟨_, _, _, e, _⟩ => by rw [e]; rfl) (by decide) fun ars q cc f cdv A outer s H E hr => ?_
  obtain ⟨cell, many, hm, rfl, rfl⟩ := cc
  have nd := scF__law_row.nd
  refine sd_cons (sd_own 2 nd (pf_lst pds_nil) ?_)
  refine sd_cons (sd_set 3 nd pd_int ?_)
  have rest : ∀ (r : Int), r = (rw0 cell).2.1 → ∀ (E : DE), (E.rt = fun q' => q' = .d (.list ((rowNs cell many).map .int))) → (E.rs = fun _ => True) → SD (Fx P w0 K mg base nF__law_row "_law_row" sF__law_row f cdv A outer ‹Shared› H ‹XK›) ((defBody sF__law_row).drop 3) [.va (.d (.int cell)), .va (.d (.int (many : Int))), .ow (oLst []), .va (.d (.int r)), .no, .no] E := fun r hr0 E h1 h2 => by
    subst hr0
    refine sd_cons (sd_set 4 nd (pd_mod (pd_inti B0 (pd_abs B0 (pd_var 0))) pd_int (by decide)) ?_)
    refine sd_cons (sd_range B0 (fun i δ => δ = [.va (.d (.int cell)), .va (.d (.int (many : Int))), .ow (oLst ((rwTo cell i).1.map .int)), .va (.d (.int (rwTo cell i).2.1)), .va (.d (.int (rwTo cell i).2.2)), .no]) (pd_var 1) (by omega) (by omega) rfl (fun i δ1 hi hδ => ?_) (fun δ1 hδ => ?_) PassesOwn.never rfl)
    · subst hδ
      have hl := (rwTo_ok cell i).1
      rw [rwTo_succ]
      generalize rwTo cell i = t at *
      obtain ⟨acc, rst, st⟩ := t
      have hl' : acc.length = i := hl
      refine ⟨_, _, gd_name 5 nd, ?_⟩
      refine sd_cons (sd_set 4 nd (pd_mod (pd_inti B0 (pd_add (pd_mul (pd_add (pd_var 4) pd_int) pd_int (.inr ⟨by decide, by decide⟩)) (pd_mul pd_int (pd_var 5) (.inl ⟨by decide, by decide⟩)))) pd_int (by decide)) ?_)
      refine sd_cons (sd_if (q := decide (0 < rst)) (ptd_gt (pd_var 3) pd_int) (fun h => ?_) fun h => ?_)
      · have e : rwStep (acc, rst, st) i = (acc ++ [rst % 1009], rst / 1009, ((st + 1) * 48271 + 69621 * (i : Int)) % 2147483647) := by unfold rwStep; exact if_pos (of_decide_eq_true h)
        rw [e]
        refine sd_cons (sd_apnd 2 rfl (pd_mod (pd_inti B0 (pd_var 3)) pd_int (by decide)) (by rw [List.length_map]; omega) ?_)
        refine sd_cons (sd_set 3 nd (pd_fdiv (pd_var 3) pd_int ⟨by decide, by decide⟩) (sd_nil (sd_drop 5 (sd_nil ?_))))
        rw [List.map_append]; rfl
      · have e : rwStep (acc, rst, st) i = (acc ++ [((st + 1) * 48271 + 69621 * (i : Int)) % 2147483647 / 2048 % 1009], rst, ((st + 1) * 48271 + 69621 * (i : Int)) % 2147483647) := by unfold rwStep; exact if_neg (of_decide_eq_false h)
        rw [e]
        refine sd_cons (sd_apnd 2 rfl (pd_mod (pd_inti B0 (pd_fdiv (pd_var 4) pd_int ⟨by decide, by decide⟩)) pd_int (by decide)) (by rw [List.length_map]; omega) (sd_nil (sd_drop 5 (sd_nil ?_))))
        rw [List.map_append]; rfl
    · subst hδ
      refine sd_frz 2 rfl (sd_one (sd_ret (pd_var 2) ?_ ?_))
      · rw [h1, Int.toNat_natCast]; rfl
      · rw [h2]; trivial
  have hrest : ∀ {b : Bool}, decide ((10 : Int) ^ (18 : Int).toNat ≤ (cell.natAbs : Int)) = b → (rw0 cell).2.1 = if b then (cell.natAbs : Int) else 0 := fun {b} h => by
    show (if (10 : Int) ^ 18 ≤ (cell.natAbs : Int) then (cell.natAbs : Int) else 0) = _
    cases b with
    | true => rw [if_pos (show (10 : Int) ^ 18 ≤ (cell.natAbs : Int) from of_decide_eq_true h)]; rfl
    | false => rw [if_neg (show ¬ (10 : Int) ^ 18 ≤ (cell.natAbs : Int) from of_decide_eq_false h)]; rfl
  refine sd_cons (sd_if (q := decide ((10 : Int) ^ (18 : Int).toNat ≤ (cell.natAbs : Int))) (ptd_ge (pd_abs B0 (pd_var 0)) (pd_pow pd_int pd_int ⟨by decide, by decide, by decide⟩)) (fun h => ?_) fun h => sd_nil ?_)
  · have e := hrest h
    rw [if_pos rfl] at e
    exact sd_cons (sd_set 3 nd (pd_abs B0 (pd_var 0)) (sd_nil (rest _ e.symm _ rfl rfl)))
  · have e := hrest h
    rw [if_neg (by decide)] at e
    exact rest _ e.symm _ rfl rfl
end
end Fw
set_option maxHeartbeats 2000000
namespace Fw
open PySem PySem.Spec PyProof.Rows L2 PySem.W
theorem sd_whileN {X : Cx} {δ : List Sl} {pos : Pos} {E : DE} {c : Expr} {body : List Stmt} (Iv : Nat → List Sl → Prop) (n : Nat) (h0 : Iv n δ)
    (hs : ∀ n δ1, Iv n δ1 → ∃ q, PTD X c δ1 q ∧ (q = true → SD X body δ1 { nx := fun d => ∃ m, m < n ∧ Iv m d, rt := E.rt, rs := E.rs, bk := E.nx, ct := fun d => ∃ m, m < n ∧ Iv m d }) ∧ (q = false → E.nx δ1))
    (hp : PassesOwn (model X.prog X.w) X.A X.env X.xe) : SD1 X (.While c body [] pos) δ E := by
  refine .of (ps_while hp pt_u pss_u) fun σ G0 H0 G H g re => ?_
  refine ⟨fun m σ2 H2 => ∃ G2 δ2, Gr G0 H0 G2 H2 ∧ RE H0 G2 H2 σ2 δ2 ∧ Iv m δ2, ⟨n, G, δ, g, re, h0⟩, ?_⟩
  rintro m σ2 H2 ⟨G2, δ2, g2, re2, iv⟩
  obtain ⟨q, hq, ht, hf⟩ := hs m δ2 iv
  refine ⟨δ2, q, H0, G2, hq, g2.s, re2, fun H3 G3 g3 => ?_⟩
  cases q with
  | false => exact iteF ⟨G3, δ2, g2.trans g3, re2.grow g3, hf rfl⟩
  | true =>
    refine iteT ⟨fun σ4 H4 => ∃ G4 δ4, Gr G0 H0 G4 H4 ∧ RE H0 G4 H4 σ4 δ4 ∧ ∃ m', m' < m ∧ Iv m' δ4, ?_, ?_⟩
    · rintro σ4 H4 ⟨G4, δ4, g4, re4, m', lt, iv4⟩
      exact ⟨m', lt, G4, δ4, g4, re4, iv4⟩
    · refine ⟨δ2, _, G0, H0, G3, ht rfl, g2.trans g3, re2.grow g3, fun σ4 H4 z => ?_, fun _ _ z => z, fun _ _ z => z, fun σ4 H4 z => ?_⟩
      · obtain ⟨G4, δ4, g4, re4, q4⟩ := z
        exact ⟨G4, δ4, g4, re4, q4⟩
      · obtain ⟨G4, δ4, g4, re4, q4⟩ := z
        exact ⟨G4, δ4, g4, re4, q4⟩
section
variable {P : Program} {w0 : World} {K : PySem.W.Frag} {mg : Str → Option Value} {base : Heap} {CT CG CS CB : Addr}
theorem eachOf_ok {n : Nat} {many : Nat} (h : many ≤ 500) : 1 ≤ eachOf n many ∧ eachOf n many ≤ 501 := by
  unfold eachOf
  have h1 : 0 < max 1 (n : Int) := by omega
  have h2 : 0 ≤ (many : Int) / max 1 (n : Int) := Int.ediv_nonneg (by omega) (by omega)
  have h3 : (many : Int) / max 1 (n : Int) ≤ (many : Int) := Int.ediv_le_self _ (by omega)
  omega
def xsTo (cells : List Int) (each : Nat) (i : Nat) : List Int := (cells.take i).flatMap fun c => rowNs c each
theorem xsTo_len (cells : List Int) (each : Nat) (i : Nat) : (xsTo cells each i).length ≤ i * each := by
  unfold xsTo
  have := flat_len (n := each) (xs := cells.take i) (f := fun c => rowNs c each) fun x _ => by unfold rowNs; rw [(rwTo_ok x each).1]; exact Nat.le_refl _
  have h2 : (cells.take i).length ≤ i := by rw [List.length_take]; omega
  exact Nat.le_trans this (Nat.mul_le_mul_right _ h2)
theorem sqL_same {K : PySem.W.Frag} {H H' : Hp} {a : Addr} {xs : List V} (e : Same H H') (h : SqL K H a xs) : SqL K H' a xs := h.elim (fun z => .inl (z.elim (fun z => .inl (e _ _ z)) fun ⟨o, z⟩ => .inr ⟨o, e _ _ z⟩)) .inr
/-- the script: a list of whole numbers that stays -/
def rScr (K : PySem.W.Frag) (xs : List Int) : Rp where
  P := fun G v => ∃ a, v = .ref a ∧ SqL K G a (xs.map V.int)
  up := fun e ⟨a, h1, h2⟩ => ⟨a, h1, sqL_same e h2⟩
theorem pd_slscr {X : Cx} {a b : Expr} {δ : List Sl} {pos p2 : Pos} {xs : List Int} {i : Int} (ha : PD X a δ (.o (rScr X.K xs))) (hb : PD X b δ (.d (.int i))) (h0 : 0 ≤ i) : PD X (.Subscript a (.Slice none (some b) none p2) pos) δ (.d (.list ((xs.take i.toNat).map .int))) :=
  .of (pe_slice sl_list ha.pe po_none (po_some hb.pe)) fun σ H0 G H Q gs re k => .in gs re fun x H1 G1 g1 a1 => .in g1.s (re.grow g1) fun y H2 G2 g2 a2 => by
    cases a2
    obtain ⟨p, rfl, h1⟩ := a1
    refine ⟨i, rfl, p, xs.map V.int, rfl, sqL_same (g1.s.trans g2.h) h1, fun l hl => ?_⟩
    rw [cut_to _ h0, ← List.map_take]
    have g12 := g1.trans g2
    exact k _ _ _ (g12.trans (.new g2.s hl)) (dp_newl (dpa_of_ints _) (g2.s.free hl))
def cNumbers (K : PySem.W.Frag) (ars : List Ar) (q : Ar) : Prop := ∃ (cells : List Int) (many : Nat), many ≤ 500 ∧ ars = [.o (rScr K cells), .d (.int (many : Int))] ∧ q = .d (.list ((numsM cells many).map .int))
theorem ok__law_numbers (T : DefAt K mg "_law_numbers" sF__law_numbers) (B0 : Bt mg) (O1 : Okd P w0 K mg base 1 "_law_row" ["_law_cell", "_law_many"] cRow) : Okd P w0 K mg base 2 "_law_numbers" ["_law_script", "_law_many"] (cNumbers K) := by
  refine okd_mk T scF__law_numbers (fun _ _ _ _ _ _ us hl => match us, hl with | [_, _], _ => rfl) (fun ars q ⟨_, _, _, e, _⟩ => by rw [e]; rfl) (by decide) fun ars q cc f cdv A outer s H E hr => ?_
  obtain ⟨cells, many, hm, rfl, rfl⟩ := cc
  have nd := scF__law_numbers.nd
  obtain ⟨e1, e2⟩ := eachOf_ok (n := (cells.take 63).length) hm
  have h63 : (cells.take 63).length ≤ 63 := by rw [List.length_take]; omega
  have hcast : ((eachOf (cells.take 63).length many).toNat : Int) = eachOf (cells.take 63).length many := by omega
  refine sd_cons (sd_set 2 nd (r := .d (.list ((cells.take 63).map .int))) (pd_slscr (pd_var 0) pd_int (by decide)) ?_)
  refine sd_cons (sd_set 3 nd ((pd_add pd_int (pd_fdiv (pd_var 1) (pd_max2 B0 rfl pd_int (pd_len B0 (pd_var 2) rfl)) ⟨?_, ?_⟩)).is (r' := .d (.int (eachOf (cells.take 63).length many))) (by rw [List.length_map]; rfl)) ?_)
  · omega
  · rw [List.length_map]; omega
  have hnums : numsM cells many = (xsTo (cells.take 63) (eachOf (cells.take 63).length many).toNat (cells.take 63).length ++ List.replicate (many - (xsTo (cells.take 63) (eachOf (cells.take 63).length many).toNat (cells.take 63).length).length) 0).take many := by
    unfold numsM xsTo
    rw [List.take_length]
  rw [hnums]
  generalize cells.take 63 = cs at *
  generalize eachOf cs.length many = each at *
  refine sd_cons (sd_own 4 nd (pf_lst pds_nil) ?_)
  refine sd_cons (sd_for (d := .list (cs.map .int)) (fun i δ => δ = [.va (.o (rScr K cells)), .va (.d (.int (many : Int))), .va (.d (.list (cs.map .int))), .va (.d (.int each)), .ow (oLst ((xsTo cs each.toNat i).map .int)), .no, .no]) (pd_var 2) rfl rfl (fun i y δ1 hy hδ => ?_) (fun δ1 hδ => ?_) PassesOwn.never rfl)
  · subst hδ
    rw [List.getElem?_map] at hy
    obtain ⟨x, hx, rfl⟩ := Option.map_eq_some_iff.mp hy
    have hi : i < cs.length := (List.getElem?_eq_some_iff.mp hx).1
    have hxl := xsTo_len cs each.toNat i
    have hz : i * each.toNat ≤ 63 * 501 := Nat.mul_le_mul (by omega) (by omega)
    have hsucc : xsTo cs each.toNat (i + 1) = xsTo cs each.toNat i ++ rowNs x each.toNat := by
      unfold xsTo
      rw [List.take_add_one, hx, List.flatMap_append]
      simp
    rw [hsucc]
    generalize xsTo cs each.toNat i = acc at *
    have hrl : (rowNs x each.toNat).length = each.toNat := (rwTo_ok x each.toNat).1
    refine ⟨_, _, gd_name 5 nd, ?_⟩
    refine sd_cons (sd_for (d := .list ((rowNs x each.toNat).map .int)) (fun j δ => δ = [.va (.o (rScr K cells)), .va (.d (.int (many : Int))), .va (.d (.list (cs.map .int))), .va (.d (.int each)), .ow (oLst ((acc ++ (rowNs x each.toNat).take j).map .int)), .va (.d (.int x)), .no]) (pd_call O1 hr (pad_cons (pd_var 5) (pad_cons (pd_var 3) pad_nil)) ⟨x, each.toNat, by omega, by rw [hcast], rfl⟩) rfl (by rw [List.take_zero, List.append_nil]; rfl) (fun j z δ1 hz2 hδ => ?_) (fun δ1 hδ => ?_) PassesOwn.never rfl)
    · subst hδ
      rw [List.getElem?_map] at hz2
      obtain ⟨u, hu, rfl⟩ := Option.map_eq_some_iff.mp hz2
      have hj : j < each.toNat := by have := (List.getElem?_eq_some_iff.mp hu).1; omega
      refine ⟨_, _, gd_name 6 nd, sd_cons (sd_apnd 4 rfl (pd_var 6) (by rw [List.length_map, List.length_append, List.length_take]; omega) (sd_drop 6 (sd_nil ?_)))⟩
      rw [List.take_add_one, hu]
      show _ = [_, _, _, _, Sl.ow (oLst ((acc ++ ((rowNs x each.toNat).take j ++ [u])).map .int)), _, _]
      rw [← List.append_assoc, List.map_append (l₂ := [u])]
      rfl
    · subst hδ
      rw [List.length_map, List.take_length]
      exact sd_drop 5 (sd_nil rfl)
  · subst hδ
    rw [List.length_map]
    have hxl := xsTo_len cs each.toNat cs.length
    have hz : cs.length * each.toNat ≤ 63 * 501 := Nat.mul_le_mul (by omega) (by omega)
    generalize xsTo cs each.toNat cs.length = acc at *
    refine sd_cons (sd_whileN (fun m δ => ∃ j, j + m = many - acc.length ∧ δ = [.va (.o (rScr K cells)), .va (.d (.int (many : Int))), .va (.d (.list (cs.map .int))), .va (.d (.int each)), .ow (oLst ((acc ++ List.replicate j 0).map .int)), .no, .no]) (many - acc.length) ⟨0, by omega, by rw [List.replicate_zero, List.append_nil]⟩ (fun m δ1 hδ => ?_) PassesOwn.never)
    obtain ⟨j, hj, rfl⟩ := hδ
    refine ⟨_, ptd_lt (pd_own 4 rfl (pd_len B0 (pd_var 4) rfl) rfl) (pd_var 1), fun h => ?_, fun h => ?_⟩
    · have h' := of_decide_eq_true h
      rw [List.length_map, List.length_append, List.length_replicate] at h'
      refine sd_cons (sd_apnd 4 rfl pd_int (by rw [List.length_map, List.length_append, List.length_replicate]; omega) (sd_nil ⟨m - 1, by omega, j + 1, by omega, ?_⟩))
      rw [List.replicate_succ', ← List.append_assoc, List.map_append (l₂ := [0])]
      rfl
    · have h' := of_decide_eq_false h
      rw [List.length_map, List.length_append, List.length_replicate] at h'
      have hjm : j = many - acc.length := by omega
      subst hjm
      exact sd_frz 4 rfl (sd_one (sd_ret (pd_slto (pd_var 4) (pd_var 1) (by omega)) (by rw [Int.toNat_natCast, ← List.map_take])))
end
end Fw
set_option maxHeartbeats 2000000
namespace Fw
open PySem PySem.Spec PyProof.Rows L2 PySem.W
section
variable {P : Program} {w0 : World} {K : PySem.W.Frag} {mg : Str → Option Value} {base : Heap} {CT CG CS CB : Addr}
theorem pick_len {without : List Str} : ∀ {xs : List Str} {t : List Str × Int}, (xs.foldl (pickStep without) t).1.length ≤ t.1.length + xs.length
  | [], _ => Nat.le_refl _
  | x :: xs, t => by
    have h := pick_len (without := without) (xs := xs) (t := pickStep without t x)
    have h2 : (pickStep without t x).1.length ≤ t.1.length + 1 := by
      unfold pickStep
      dsimp only
      split
      · rw [List.length_append]; exact Nat.le_refl _
      · omega
    rw [List.foldl_cons, List.length_cons]
    omega
def cPick (ars : List Ar) (q : Ar) : Prop := ∃ (names : List Str) (d : D) (n : Int) (wo : List Str), seqD d = some (names.map .str) ∧ names.length ≤ 1000 ∧ ars = [.d d, .d (.int n), .d (eL wo)] ∧ q = .d (eL (pickM names n wo))
theorem ok__law_pick (T : DefAt K mg "_law_pick" sF__law_pick) (B0 : Bt mg) : Okd P w0 K mg base 1 "_law_pick" ["_law_names", "_law_number", "_law_without"] cPick := by
  refine okd_mk T scF__law_pick (fun _ _ _ _ _ _ us hl => match us, hl with | [_, _, _], _ => rfl) (fun ars q ⟨_, _, _, _, _, _, e, _⟩ => by rw [e]; rfl) (by decide) fun ars q cc f cdv A outer s H E hr => ?_
  obtain ⟨names, d, n, wo, hd, hz, rfl, rfl⟩ := cc
  have nd := scF__law_pick.nd
  refine sd_cons (sd_own 3 nd (pf_lst pds_nil) ?_)
  refine sd_cons (sd_set 4 nd (pd_inti B0 (pd_var 1)) ?_)
  refine sd_cons (sd_for (d := .list ((names.mergeSort leS).map .str)) (fun i δ => δ = [.va (.d d), .va (.d (.int n)), .va (.d (eL wo)), .ow (oLst ((((names.mergeSort leS).take i).foldl (pickStep wo) ([], n)).1.map .str)), .va (.d (.int (((names.mergeSort leS).take i).foldl (pickStep wo) ([], n)).2)), .no]) (PF.pd (pf_sortedSq B0 hr.units (pd_var 0) hd)) rfl rfl (fun i y δ1 hy hδ => ?_) (fun δ1 hδ => ?_) PassesOwn.never rfl)
  · subst hδ
    rw [List.getElem?_map] at hy
    obtain ⟨x, hx, rfl⟩ := Option.map_eq_some_iff.mp hy
    have hpl := pick_len (without := wo) (xs := (names.mergeSort leS).take i) (t := ([], n))
    have hsl : ((names.mergeSort leS).take i).length ≤ names.length := by rw [List.length_take, List.length_mergeSort]; omega
    simp only [List.length_nil] at hpl
    rw [foldl_take hx]
    generalize ((names.mergeSort leS).take i).foldl (pickStep wo) ([], n) = t at *
    obtain ⟨acc, rst⟩ := t
    have hacc : acc.length ≤ 1000 := by
      have : acc.length ≤ 0 + ((names.mergeSort leS).take i).length := hpl
      omega
    refine ⟨_, _, gd_name 5 nd, ?_⟩
    refine sd_cons (sd_if (q := decide (rst % 3 = 1) && !decide (x ∈ wo)) (PWD.ptd (pwd_and (ptd_eqi (pd_mod (pd_inti B0 (pd_var 4)) pd_int (by decide)) pd_int) fun _ => pwd_and1 (ptd_notin (pd_var 5) (pd_var 2) (.inr rfl)))) (fun h => ?_) fun h => sd_nil ?_)
    · have h' : rst % 3 = 1 ∧ x ∉ wo := by simpa using h
      have e : pickStep wo (acc, rst) x = (acc ++ [x], rst / 3) := by unfold pickStep; rw [if_pos h']
      rw [e]
      refine sd_cons (sd_apnd 3 rfl (pd_var 5) (by rw [List.length_map]; omega) (sd_nil ?_))
      refine sd_cons (sd_set 4 nd (pd_fdiv (pd_var 4) pd_int ⟨by decide, by decide⟩) (sd_drop 5 (sd_nil ?_)))
      rw [List.map_append]; rfl
    · have h' : ¬ (rst % 3 = 1 ∧ x ∉ wo) := fun z => by simp [z.1, z.2] at h
      have e : pickStep wo (acc, rst) x = (acc, rst / 3) := by unfold pickStep; rw [if_neg h']
      rw [e]
      exact sd_cons (sd_set 4 nd (pd_fdiv (pd_var 4) pd_int ⟨by decide, by decide⟩) (sd_drop 5 (sd_nil rfl)))
  · subst hδ
    rw [List.length_map, List.take_length]
    exact sd_frz 3 rfl (sd_one (sd_ret (pd_tuple B0 (pd_var 3)) rfl))
/-- a number of the list -/
theorem nums_at {ns : List Int} {k : Nat} (h : k < ns.length) : (ns.map PyData.int)[((k : Int)).toNat]? = some (.int (ns.getD k 0)) := by
  rw [Int.toNat_natCast, List.getElem?_map, List.getD_eq_getElem?_getD, List.getElem?_eq_getElem h]; rfl
theorem toM_at (modes : List Str) (n : Int) : ((modes.map PyData.str ++ [.none, .none]))[((n % ((modes.length : Int) + 2)).toNat)]? = some (eO (toM modes n)) := by
  have h0 := Int.emod_nonneg n (show ((modes.length : Int) + 2) ≠ 0 by omega)
  have h1 := Int.emod_lt_of_pos n (show 0 < ((modes.length : Int) + 2) by omega)
  have hlt : (n % ((modes.length : Int) + 2)).toNat < (modes.map some ++ [none, none]).length := by simp; omega
  have e : (modes.map PyData.str ++ [.none, .none]) = (modes.map some ++ [none, none]).map eO := by
    rw [List.map_append, List.map_map]; rfl
  unfold toM
  rw [e, List.getElem?_map, List.getD_eq_getElem?_getD, List.getElem?_eq_getElem hlt]
  rfl
def cEffect (ars : List Ar) (q : Ar) : Prop := ∃ (holds modes : List Str) (ns : List Int) (k : Nat), holds.length ≤ 1000 ∧ modes.length ≤ 1000 ∧ k + 2 < ns.length ∧ ars = [.d (.list (holds.map .str)), .d (.list (modes.map .str)), .d (.list (ns.map .int)), .d (.int (k : Int))] ∧ q = .d (eEf (effAt holds modes ns k))
theorem ok__law_effect (T : DefAt K mg "_law_effect" sF__law_effect) (B0 : Bt mg) (O1 : Okd P w0 K mg base 1 "_law_pick" ["_law_names", "_law_number", "_law_without"] cPick) : Okd P w0 K mg base 2 "_law_effect" ["_law_holds", "_law_modes", "_law_numbers_here", "_law_at"] cEffect := by
  refine okd_mk T scF__law_effect (fun _ _ _ _ _ _ us hl => match us, hl with | [_, _, _, _], _ => rfl) (fun ars q ⟨_, _, _, _, _, _, _, e, _⟩ => by rw [e]; rfl) (by decide) fun ars q cc f cdv A outer s H E hr => ?_
  obtain ⟨holds, modes, ns, k, h1, h2, hk, rfl, rfl⟩ := cc
  have nd := scF__law_effect.nd
  have a0 : atI (ns.map PyData.int) (k : Int) = some (.int (ns.getD k 0)) := ati_nn (by omega) (nums_at (by omega))
  have a1 : atI (ns.map PyData.int) ((k : Int) + 1) = some (.int (ns.getD (k + 1) 0)) := ati_nn (by omega) (nums_at (k := k + 1) (by omega))
  have a2 : atI (ns.map PyData.int) ((k : Int) + 2) = some (.int (ns.getD (k + 2) 0)) := ati_nn (by omega) (nums_at (k := k + 2) (by omega))
  refine sd_cons (sd_set 4 nd (pd_call O1 hr (pad_cons (pd_var 0) (pad_cons (pd_ixl (pd_var 2) (pd_var 3) a0) (pad_cons (pd_tup pds_nil) pad_nil))) ⟨holds, _, _, [], rfl, h1, rfl, rfl⟩) ?_)
  refine sd_cons (sd_set 5 nd (pd_call O1 hr (pad_cons (pd_var 0) (pad_cons (pd_ixl (pd_var 2) (pd_add (pd_var 3) pd_int) a1) (pad_cons (pd_var 4) pad_nil))) ⟨holds, _, _, _, rfl, h1, rfl, rfl⟩) ?_)
  refine sd_one (sd_ret (r := .d (eEf (effAt holds modes ns k))) (pd_tup (pds_cons (pd_var 4) (pds_cons (pd_var 5) (pds_cons (pd_ixl (PF.pd (pf_cat (pd_var 1) (pd_lst (pds_cons pd_non (pds_cons pd_non pds_nil))) ?_)) (pd_mod (pd_inti B0 (pd_ixl (pd_var 2) (pd_add (pd_var 3) pd_int) a2)) (pd_add (pd_len B0 (pd_var 1) rfl) pd_int) ?_) (ati_nn ?_ ?_)) pds_nil)))) rfl)
  · rw [List.length_map]; simp; omega
  · rw [List.length_map]; omega
  · rw [List.length_map]; exact Int.emod_nonneg _ (by omega)
  · rw [List.length_map]; exact toM_at modes _
end
end Fw
set_option maxHeartbeats 2000000
namespace Fw
open PySem PySem.Spec PyProof.Rows L2 PySem.W
def eParts (B : Bok) : D := .tuple [.list (B.holds.map .str), .list (B.modes.map eMd), .list (B.barred.map FwC.eT), .list (B.commands.map eCm), .list (B.alarms.map eAl), .list (B.rows.map eRw), eI B.quiet]
theorem first_of {T : Type} [Inhabited T] {f : T → Str} {enc : T → D} {x : Str} {xs : List T} (h : x ∈ xs.map f) : (tell xs (fun m => decide (f m = x)) enc)[((0 : Int)).toNat]? = some (enc ((xs.find? fun m => decide (f m = x)).getD default)) := by
  unfold tell
  rw [List.getElem?_map]
  have h1 := find_name h
  have e : (xs.filter fun m => decide (f m = x))[(0 : Int).toNat]? = xs.find? fun m => decide (f m = x) := by
    show (xs.filter fun m => decide (f m = x))[0]? = _
    rw [← List.head?_eq_getElem?, List.head?_filter]
  rw [e]
  cases q : xs.find? fun m => decide (f m = x) with
  | none =>
    obtain ⟨m, hm, rfl⟩ := List.mem_map.mp h
    exact absurd (List.find?_eq_none.mp q m hm) (by simp)
  | some m => rfl
section
variable {P : Program} {w0 : World} {K : PySem.W.Frag} {mg : Str → Option Value} {base : Heap} {CT CG CS CB : Addr}
def cLTurned (ars : List Ar) (q : Ar) : Prop := ∃ (hs off on : List Str), hs.length + on.length ≤ 4000 ∧ ars = [.d (eL hs), .d (eL off), .d (eL on)] ∧ q = .d (eL (turnedM hs on off))
theorem ok__law_turned (T : DefAt K mg "_law_turned" sF__law_turned) (B : Bt mg) : Okd P w0 K mg base 1 "_law_turned" ["_law_on", "_law_off", "_law_more"] cLTurned := by
  refine okd_mk T scF__law_turned (fun _ _ _ _ _ _ us hl => match us, hl with | [_, _, _], _ => rfl) (fun ars q ⟨s, d, w, _, e, _⟩ => by rw [e]; rfl) (by decide) fun ars q c f cdv A outer s H E hr => ?_
  obtain ⟨hs, off, on, hz, rfl, rfl⟩ := c
  refine sd_one (sd_ret (pd_tuple B (PF.pd (pf_sortset B rfl hr.units (PD.is (PF.pd (pf_cat (PF.pd (pf_lc (own := [("_law_hold", 3)]) (enc := .str) (xs := hs) (p := fun h => !decide (h ∈ off)) (f := .str) rfl scF__law_turned.nd (pd_var 0) rfl (bkF__law_turned (by decide +kernel)) fun x hx => ⟨_, _, fun _ _ _ _ _ => gd_name 3 scF__law_turned.nd, by decide, fun _ _ _ _ _ => ptd_notin (pd_var 3) (pd_var 1) (.inr rfl), fun _ _ _ _ _ _ => pd_var 3⟩)) (pd_list B (pd_var 2) rfl) ?_)) ?_) ?_))) rfl)
  · unfold tell; rw [List.length_map, List.length_map]; have := List.length_filter_le (fun h => !decide (h ∈ off)) hs; omega
  · exact (congrArg (fun z => Ar.d (.list z)) (by unfold tell; rw [List.map_append])).trans (rfl : Ar.d (.list (((hs.filter fun h => !decide (h ∈ off)) ++ on).map .str)) = _)
  · rw [List.length_append]; have := List.length_filter_le (fun h => !decide (h ∈ off)) hs; omega
def cAfter (ars : List Ar) (q : Ar) : Prop := ∃ (B : Bok) (s : Std) (on off : List Str) (to : Option Str), VB B ∧ VT B s.lot ∧ VT B on ∧ VTo B to ∧ ars = [.d (eParts B), .d (.str s.mode), .d (eL s.lot), .d (.tuple [eL on, eL off, eO to])] ∧ q = .d (.tuple [.str (effM B s on off to).mode, eL (effM B s on off to).lot])
theorem ok__law_after (T : DefAt K mg "_law_after" sF__law_after) (B0 : Bt mg) (O1 : Okd P w0 K mg base 1 "_law_turned" ["_law_on", "_law_off", "_law_more"] cLTurned) : Okd P w0 K mg base 2 "_law_after" ["_law_parts_here", "_law_mode", "_law_on", "_law_effect_here"] cAfter := by
  refine okd_mk T scF__law_after (fun _ _ _ _ _ _ us hl => match us, hl with | [_, _, _, _], _ => rfl) (fun ars q ⟨_, _, _, _, _, _, _, _, _, e, _⟩ => by rw [e]; rfl) (by decide) fun ars q cc f cdv A outer s H E hr => ?_
  obtain ⟨B, s, on, off, to, V, vl, von, vto, rfl, rfl⟩ := cc
  have nd := scF__law_after.nd
  have l1 := vl.len V
  have l2 := von.len V
  refine sd_cons (sd_set 2 nd (pd_call O1 hr (pad_cons (pd_var 2) (pad_cons (pd_ixt (pd_var 3) pd_int rfl) (pad_cons (pd_ixt (pd_var 3) pd_int rfl) pad_nil))) ⟨s.lot, off, on, by omega, rfl, rfl⟩) ?_)
  cases to with
  | none => exact sd_cons (sd_if (ptd_notn (pd_ixt (pd_var 3) pd_int rfl) pd_non) ff fun _ => sd_nil (sd_one (sd_ret (pd_tup (pds_cons (pd_var 1) (pds_cons (pd_var 2) pds_nil))) rfl)))
  | some t =>
    have ht := vto t rfl
    have hm := V.md _ (find_name (f := Md.name) ht).1
    have l3 := hm.1.len V
    have l4 := (vl.turned off von).len V
    have l5 : (B.modeOf t).on.length ≤ 6 := l3
    refine sd_cons (sd_if (ptd_notn (pd_ixt (pd_var 3) pd_int rfl) pd_non) (fun _ => ?_) tt)
    refine sd_cons (sd_set 1 nd (pd_ixt (d := .str t) (pd_var 3) pd_int rfl) ?_)
    refine sd_cons (sd_set 4 nd (pd_ixl (d := eMd (B.modeOf t)) (PF.pd (pf_lc (own := [("_law_some", 5)]) (enc := eMd) (xs := B.modes) (p := fun m => decide (m.name = t)) (f := eMd) rfl nd (pd_ixt (pd_var 0) pd_int rfl) rfl (bkF__law_after (by decide +kernel)) fun x hx => ⟨_, _, fun _ _ _ _ _ => gd_name 5 nd, by decide, fun _ _ _ _ _ => ptd_eqs (pd_ixt (pd_var 5) pd_int rfl) (pd_var 1), fun _ _ _ _ _ _ => pd_var 5⟩)) pd_int (ati_nn (by decide) (first_of (f := Md.name) ht))) ?_)
    refine sd_cons (sd_set 2 nd (pd_call O1 hr (pad_cons (pd_var 2) (pad_cons (pd_ixt (pd_var 4) pd_int rfl) (pad_cons (pd_ixt (pd_var 4) pd_int rfl) pad_nil))) ⟨turnedM s.lot on off, (B.modeOf t).off, (B.modeOf t).on, by omega, rfl, rfl⟩) ?_)
    exact sd_nil (sd_one (sd_ret (pd_tup (pds_cons (pd_var 1) (pds_cons (pd_var 2) pds_nil))) rfl))
def startM0 (B : Bok) : Std := effM B ⟨"", [], none, 0, 0, 0⟩ [] [] (some B.safe)
def cStart (ars : List Ar) (q : Ar) : Prop := ∃ B, VB B ∧ ars = [.d (eParts B)] ∧ q = .d (eS (startM0 B))
theorem ok__law_start (T : DefAt K mg "_law_start" sF__law_start) (O1 : Okd P w0 K mg base 2 "_law_after" ["_law_parts_here", "_law_mode", "_law_on", "_law_effect_here"] cAfter) : Okd P w0 K mg base 3 "_law_start" ["_law_parts_here"] cStart := by
  refine okd_mk T scF__law_start (fun _ _ _ _ _ _ us hl => match us, hl with | [_], _ => rfl) (fun ars q ⟨_, _, e, _⟩ => by rw [e]; rfl) (by decide) fun ars q cc f cdv A outer s H E hr => ?_
  obtain ⟨B, V, rfl, rfl⟩ := cc
  have nd := scF__law_start.nd
  have h0 : ((B.modes.map eMd))[(0 : Int).toNat]? = some (eMd (B.modes.headD default)) := by
    have := V.m0
    cases h : B.modes with
    | nil => exact absurd h this
    | cons a t => rfl
  refine sd_cons (sd_set 1 nd (pd_ixl (pd_ixt (d := .list (B.modes.map eMd)) (pd_var 0) pd_int rfl) pd_int (ati_nn (by decide) h0)) ?_)
  refine sd_cons (sd_asg (pd_call O1 hr (pad_cons (pd_var 0) (pad_cons pd_str (pad_cons (pd_tup pds_nil) (pad_cons (pd_tup (pds_cons (pd_tup pds_nil) (pds_cons (pd_tup pds_nil) (pds_cons (pd_ixt (pd_var 1) pd_int rfl) pds_nil)))) pad_nil)))) ⟨B, ⟨"", [], none, 0, 0, 0⟩, [], [], some B.safe, V, .nil, .nil, fun t e => by cases e; exact safe_mem V, rfl, rfl⟩) (gd_tup rfl (gds_cons (gd_name 2 nd) (gds_cons (gd_name 3 nd) gds_nil))) ?_)
  exact sd_one (sd_ret (pd_tup (pds_cons (pd_var 2) (pds_cons (pd_var 3) (pds_cons pd_non (pds_cons pd_int (pds_cons pd_int (pds_cons pd_int pds_nil))))))) rfl)
end
end Fw
set_option maxHeartbeats 2000000
namespace Fw
open PySem PySem.Spec PyProof.Rows L2 PySem.W
section
variable {P : Program} {w0 : World} {K : PySem.W.Frag} {mg : Str → Option Value} {base : Heap} {CT CG CS CB : Addr}
theorem none_left {T : Type} {xs : List T} {p : T → Bool} {f : T → D} : decide (((tell xs p f).length : Int) = 0) = xs.all fun x => !p x := by
  unfold tell
  rw [List.length_map]
  by_cases h : ∀ x ∈ xs, p x = false
  · have e : xs.filter p = [] := List.filter_eq_nil_iff.mpr fun x hx => by rw [h x hx]; decide
    rw [e, List.all_eq_true.mpr fun x hx => by rw [h x hx]; rfl]
    rfl
  · have h' : ∃ x, x ∈ xs ∧ p x = true := by
      apply Classical.byContradiction
      intro z
      exact h fun x hx => by
        cases q : p x with
        | false => rfl
        | true => exact absurd ⟨x, hx, q⟩ z
    obtain ⟨x, hx, q⟩ := h'
    have hm : x ∈ xs.filter p := List.mem_filter.mpr ⟨hx, q⟩
    have hp := List.length_pos_of_mem hm
    rw [decide_eq_false (by omega)]
    symm
    rw [List.all_eq_false]
    exact ⟨x, hx, by rw [q]; decide⟩
theorem ok__law_meets (T : DefAt K mg "_law_meets" sF__law_meets) (B : Bt mg) : Okd P w0 K mg base 1 "_law_meets" ["_law_state", "_law_wish"] cMeets := by
  refine okd_mk T scF__law_meets (fun _ _ _ _ _ _ us hl => match us, hl with | [_, _], _ => rfl) (fun ars q ⟨s, w, e, _⟩ => by rw [e]; rfl) (by decide) fun ars q c f cdv A outer s H E hr => ?_
  obtain ⟨s, w, rfl, rfl⟩ := c
  have nd := scF__law_meets.nd
  obtain ⟨wm, won, woff⟩ := w
  have fin : ∀ E : DE, ∀ δ, δ = startD nF__law_meets [.d (eS s), .d (eW ⟨wm, won, woff⟩)] → (∀ q', q' = .d (.bool ((won.all fun h => decide (h ∈ s.lot)) && !woff.any fun h => decide (h ∈ s.lot))) → E.rt q') → E.rs = (fun _ => True) → SD (Fx P w0 K mg base nF__law_meets "_law_meets" sF__law_meets f cdv A outer ‹Shared› H ‹XK›) ((defBody sF__law_meets).drop 1) δ E := fun E δ hδ hE hs => by
    subst hδ
    refine sd_one (sd_ret (PD.is (pd_and (pd_eqi (pd_len B (PF.pd (pf_lc (own := [("_law_hold", 2)]) (enc := .str) (xs := won) (p := fun h => !decide (h ∈ s.lot)) (f := .str) rfl nd (pd_ixt (pd_var 1) pd_int rfl) rfl (bkF__law_meets (by decide +kernel)) fun x hx => ⟨_, _, fun _ _ _ _ _ => gd_name 2 nd, by decide, fun _ _ _ _ _ => ptd_notin (pd_var 2) (pd_ixt (pd_var 0) pd_int rfl) (.inr rfl), fun _ _ _ _ _ _ => pd_var 2⟩)) rfl) pd_int)
      fun _ => pd_one (pd_eqi (pd_len B (PF.pd (pf_lc (own := [("_law_hold", 2)]) (enc := .str) (xs := woff) (p := fun h => decide (h ∈ s.lot)) (f := .str) rfl nd (pd_ixt (pd_var 1) pd_int rfl) rfl (bkF__law_meets (by decide +kernel)) fun x hx => ⟨_, _, fun _ _ _ _ _ => gd_name 2 nd, by decide, fun _ _ _ _ _ => ptd_in (pd_var 2) (pd_ixt (pd_var 0) pd_int rfl) (.inr rfl), fun _ _ _ _ _ _ => pd_var 2⟩)) rfl) pd_int)) ?_) (hE _ rfl) (by rw [hs]; trivial))
    rw [none_left, none_left]
    simp only [Bool.not_not, List.not_any_eq_all_not]
  cases wm with
  | none => exact sd_cons (sd_if (q := !isNo (eO none) && false) (PWD.ptd (pwd_and (ptd_notn (pd_ixt (pd_var 1) pd_int rfl) pd_non) nofun)) nofun fun h => sd_nil (fin _ _ rfl (fun q' e => e) rfl))
  | some m =>
    refine sd_cons (sd_if (q := !isNo (eO (some m)) && !decide (s.mode = m)) (PWD.ptd (pwd_and (ptd_notn (pd_ixt (pd_var 1) pd_int rfl) pd_non) fun h => pwd_and1 (ptd_nes (pd_ixt (pd_var 0) pd_int rfl) (pd_ixt (pd_var 1) pd_int rfl)))) (fun h => sd_one (sd_ret pd_bl ?_)) fun h => sd_nil (fin _ _ rfl (fun q' e => ?_) rfl))
    · have h' : ¬ s.mode = m := by simpa [isNo, eO] using h
      simp [meetsM, h']
    · have h' : s.mode = m := by simpa [isNo, eO] using h
      rw [e]
      simp [meetsM, h']
end
end Fw
set_option maxHeartbeats 2000000
namespace Fw
open PySem PySem.Spec PyProof.Rows L2 PySem.W
section
variable {X : Cx} {e a b : Expr} {δ : List Sl} {pos : Pos}
theorem PD.ex {d : D} {p : D → Prop} (h : PD X e δ (.d d)) (hp : p d) : PD X e δ (.o (exR p)) := .of h.pe fun σ H0 G H Q gs re k => .in gs re fun v H1 G1 g1 a1 => k v H1 G1 g1 ⟨d, a1, hp⟩
theorem pd_ixe {p : D → Prop} {i : Int} {d : D} (ha : PD X a δ (.o (exR p))) (hb : PD X b δ (.d (.int i))) (h : ∀ t, p t → ∃ ds, t = .tuple ds ∧ atI ds i = some d) (hs : PlainIx b := by intro _ _; rfl) : PD X (.Subscript a b pos) δ (.d d) :=
  .of (pe_ix ix_tup ha.pe hb.pe hs) fun σ H0 G H Q gs re k => .in gs re fun x H1 G1 g1 a1 => .in g1.s (re.grow g1) fun y H2 G2 g2 a2 => by
    cases a2
    obtain ⟨t, a1, ht⟩ := a1
    obtain ⟨ds, rfl, h⟩ := h t ht
    cases a1 with
    | @tup p xs _ h1 h2 =>
      obtain ⟨v, e1, e2⟩ := ati_up h2 h
      exact ⟨p, xs, i, v, rfl, rfl, SqT.of ((g1.s.trans g2.h) _ _ h1), e1, k v H2 G2 (g1.trans g2) (dp_up g2.g e2)⟩
theorem sd1_join {X : Cx} {st : Stmt} {δ : List Sl} {E : DE} (J : List Sl → Prop) (h : SD1 X st δ { nx := J, rt := E.rt, rs := E.rs, bk := E.bk, ct := E.ct }) (hJ : ∀ d, J d → E.nx d) : SD1 X st δ E :=
  ⟨fun pins s σ G0 H0 G H I g re => thn (h.run pins s σ G0 H0 G H I g re) fun f s' q => sp_imp (E := { nx := J, rt := E.rt, rs := E.rs, bk := E.bk, ct := E.ct }) ⟨fun σ H ⟨G, d, a, b, c⟩ => ⟨G, d, a, b, hJ d c⟩, fun v H z => z, fun σ H z => z, fun σ H z => z⟩ q⟩
end
end Fw
set_option maxHeartbeats 4000000
namespace Fw
open PySem PySem.Spec PyProof.Rows L2 PySem.W
/-- the slots of the law's tick -/
def tkS (B : Bok) (s0 : Std) (al : List Str) (o : Ord) (s : Std) (dn rf mo : List D) (fr : Bool) (a b c d e f : Sl) : List Sl :=
  [.va (.d (eParts B)), .va (.d (eS s0)), .va (.d (eL al)), .va (.d (eOr o)), .va (.d (.str s.mode)), .va (.d (eL s.lot)), .va (.d (eO s.row)), .va (.d (.int s.place)), .va (.d (.int s.left)), .va (.d (.int s.sil)), .ow (oLst dn), .ow (oLst rf), .ow (oLst mo), .va (.d (.bool fr)), a, b, c, d, e, f, .no]
def tkR (s : Std) (d : D) : Prop := ∃ a b c, d = .tuple [eS s, a, b, c]
section
variable {P : Program} {w0 : World} {K : PySem.W.Frag} {mg : Str → Option Value} {base : Heap} {CT CG CS CB : Addr}
def cLTick (ars : List Ar) (q : Ar) : Prop := ∃ (B : Bok) (s : Std) (al : List Str) (o : Ord), VB B ∧ VS B s ∧ VO B o ∧ ars = [.d (eParts B), .d (eS s), .d (eL al), .d (eOr o)] ∧ q = .o (exR (tkR (tickM B s al o)))
theorem ok__law_tick (T : DefAt K mg "_law_tick" sF__law_tick) (B0 : Bt mg) (O1 : Okd P w0 K mg base 2 "_law_after" ["_law_parts_here", "_law_mode", "_law_on", "_law_effect_here"] cAfter) : Okd P w0 K mg base 3 "_law_tick" ["_law_parts_here", "_law_state", "_law_alarms", "_law_order"] cLTick := by
  refine okd_mk T scF__law_tick (fun _ _ _ _ _ _ us hl => match us, hl with | [_, _, _, _], _ => rfl) (fun ars q ⟨_, _, _, _, _, _, _, e, _⟩ => by rw [e]; rfl) (by decide) fun ars q cc f cdv A outer s H E hr => ?_
  obtain ⟨B, s0, al, o, V, vs, vo, rfl, rfl⟩ := cc
  have nd := scF__law_tick.nd
  have hal := V.al
  -- the end
  have last : ∀ (s : Std) (dn rf mo : List D) (fr : Bool) (a b c d e f' : Sl) (E : DE), noGp [a, b, c, d, e, f'] = true → (E.rt = fun q' => q' = .o (exR (tkR s))) → (E.rs = fun _ => True) → SD (Fx P w0 K mg base nF__law_tick "_law_tick" sF__law_tick f cdv A outer ‹Shared› H ‹XK›) ((defBody sF__law_tick).drop 8) (tkS B s0 al o s dn rf mo fr a b c d e f') E := fun s dn rf mo fr a b c d e f' E hng h1 h2 => by
    have ng : ∀ x y z, noGp (([.va (.d (eParts B)), .va (.d (eS s0)), .va (.d (eL al)), .va (.d (eOr o)), .va (.d (.str s.mode)), .va (.d (eL s.lot)), .va (.d (eO s.row)), .va (.d (.int s.place)), .va (.d (.int s.left)), .va (.d (.int s.sil)), x, y, z, .va (.d (.bool fr)), a, b, c, d, e, f', .no] : List Sl)) = (noGp [x, y, z] && noGp [a, b, c, d, e, f']) := fun x y z => by simp [noGp, isGp, Bool.and_assoc]
    refine sd_frz 10 rfl (sd_frz 11 rfl (sd_frz 12 rfl (sd_one (sd_ret (PD.ex (p := tkR s) (d := .tuple [eS s, .list dn, .list rf, .list mo]) (pd_tup (pds_cons (pd_tup (pds_cons (pd_var 4) (pds_cons (pd_var 5) (pds_cons (pd_var 6) (pds_cons (pd_var 7) (pds_cons (pd_var 8) (pds_cons (pd_var 9) pds_nil))))))) (pds_cons (pd_var 10) (pds_cons (pd_var 11) (pds_cons (pd_var 12) pds_nil))))) ⟨_, _, _, rfl⟩) (by rw [h1]) (by rw [h2]; trivial))) ?_) ?_) ?_
    · exact (ng _ _ _).trans (by rw [hng]; rfl)
    · exact (ng _ _ _).trans (by rw [hng]; rfl)
    · exact (ng _ _ _).trans (by rw [hng]; rfl)
  -- the row goes on
  have aft : ∀ (s : Std) (name : Str), VS B s → name ∈ B.commands.map (·.name) → cAfter [.d (eParts B), .d (.str s.mode), .d (eL s.lot), .d (.tuple [eL (B.cmdOf name).on, eL (B.cmdOf name).off, eO (B.cmdOf name).to])] (.d (.tuple [.str (effM B s (B.cmdOf name).on (B.cmdOf name).off (B.cmdOf name).to).mode, eL (effM B s (B.cmdOf name).on (B.cmdOf name).off (B.cmdOf name).to).lot])) := fun s name vs hn =>
    have vc := V.cm _ (find_name (f := Cm.name) hn).1
    ⟨B, s, _, _, _, V, vs.lo, vc.1, vc.2.2, rfl, rfl⟩
  have go : ∀ (s : Std) (dn rf mo : List D) (fr : Bool) (E : DE), VS B s → dn.length < 1000 → mo.length < 1000 → (E.rt = fun q' => q' = .o (exR (tkR (if fr then s else goM B s)))) → (E.rs = fun _ => True) → SD (Fx P w0 K mg base nF__law_tick "_law_tick" sF__law_tick f cdv A outer ‹Shared› H ‹XK›) ((defBody sF__law_tick).drop 7) (tkS B s0 al o s dn rf mo fr .no .no .no .no .no .no) E := fun s dn rf mo fr E v1 hd1 hm1 h1 h2 => by
    obtain ⟨m, l, ro, pl, lf, si⟩ := s
    cases ro with
    | none =>
      refine sd_cons (sd_if (q := !isNo (eO none) && false) (PWD.ptd (pwd_and (ptd_notn (pd_var 6) pd_non) nofun)) nofun fun _ => sd_nil (last ⟨m, l, none, pl, lf, si⟩ dn rf mo fr .no .no .no .no .no .no _ rfl ?_ h2))
      have e : (if fr = true then (⟨m, l, none, pl, lf, si⟩ : Std) else goM B ⟨m, l, none, pl, lf, si⟩) = ⟨m, l, none, pl, lf, si⟩ := by split <;> rfl
      rw [e] at h1
      exact h1
    | some r =>
      cases fr with
      | true => exact sd_cons (sd_if (q := !isNo (eO (some r)) && !true) (PWD.ptd (pwd_and (ptd_notn (pd_var 6) pd_non) fun _ => pwd_and1 (ptd_not (ptd_val (pd_var 13))))) ff fun _ => sd_nil (last ⟨m, l, some r, pl, lf, si⟩ dn rf mo true .no .no .no .no .no .no _ rfl h1 h2))
      | false =>
        obtain ⟨vr, p0, p1⟩ := v1.ro r rfl
        refine sd_cons (sd_if (q := !isNo (eO (some r)) && !false) (PWD.ptd (pwd_and (ptd_notn (pd_var 6) pd_non) fun _ => pwd_and1 (ptd_not (ptd_val (pd_var 13))))) (fun _ => ?_) tt)
        refine sd_cons (sd_set 8 nd (pd_sub (pd_var 8) pd_int) ?_)
        refine sd_cons (sd_if (q := decide (lf - 1 = 0)) (ptd_eqi (pd_var 8) pd_int) (fun h => ?_) fun h => sd_nil (sd_nil (last ⟨m, l, some r, pl, lf - 1, si⟩ dn rf mo false .no .no .no .no .no .no _ rfl ?_ h2)))
        · have hlt : pl.toNat < (B.rowOf r).steps.length := by
            have : pl < ((B.rowOf r).steps.length : Int) := p1
            have : 0 ≤ pl := p0
            omega
          have p0' : 0 ≤ pl := p0
          have e0 : ∀ k : Int, 0 ≤ k → k < ((B.rowOf r).steps.length : Int) → ((B.rowOf r).steps.map eSt)[k.toNat]? = some (eSt ((B.rowOf r).steps.getD k.toNat default)) := fun k k0 k1 => by
            rw [List.getElem?_map, List.getD_eq_getElem?_getD, List.getElem?_eq_getElem (by omega)]; rfl
          have hc : ((B.rowOf r).steps.getD pl.toNat default).2 ∈ B.commands.map (·.name) := by
            refine ((V.rm _ (find_name (f := Rw.name) vr).1).2.2 _ ?_).2.2
            rw [List.getD_eq_getElem?_getD, List.getElem?_eq_getElem hlt]
            exact List.getElem_mem hlt
          have e : goM B ⟨m, l, some r, pl, lf, si⟩ = beginM B (cmdM B ⟨m, l, some r, pl, lf - 1, si⟩ ((B.rowOf r).steps.getD pl.toNat default).2) r (pl + 1) := by unfold goM; exact if_pos (of_decide_eq_true h)
          rw [if_neg (by decide), e] at h1
          have v2 : VS B ⟨m, l, some r, pl, lf - 1, si⟩ := left_VS v1 _
          generalize hcn : ((B.rowOf r).steps.getD pl.toNat default).2 = cname at h1 hc e
          refine sd_cons (sd_set 19 nd (pd_ixt (d := .tuple ((B.rowOf r).steps.map eSt)) (pd_ixl (d := eRw (B.rowOf r)) (PF.pd (pf_lc (own := [("_law_some", 20)]) (enc := eRw) (xs := B.rows) (p := fun m => decide (m.name = r)) (f := eRw) rfl nd (pd_ixt (pd_var 0) pd_int rfl) rfl (bkF__law_tick (by decide +kernel)) fun x hx => ⟨_, _, fun _ _ _ _ _ => gd_name 20 nd, by decide, fun _ _ _ _ _ => ptd_eqs (pd_ixt (pd_var 20) pd_int rfl) (pd_var 6), fun _ _ _ _ _ _ => pd_var 20⟩)) pd_int (ati_nn (by decide) (first_of (f := Rw.name) vr))) pd_int rfl) ?_)
          refine sd_cons (sd_set 14 nd (pd_ixt (d := .str cname) (pd_ixt (pd_var 19) (pd_var 7) (ati_nn p0' (e0 pl p0' p1))) pd_int (by rw [← hcn]; rfl)) ?_)
          refine sd_cons (sd_set 18 nd (pd_ixl (d := eCm (B.cmdOf cname)) (PF.pd (pf_lc (own := [("_law_some", 20)]) (enc := eCm) (xs := B.commands) (p := fun m => decide (m.name = cname)) (f := eCm) rfl nd (pd_ixt (pd_var 0) pd_int rfl) rfl (bkF__law_tick (by decide +kernel)) fun x hx => ⟨_, _, fun _ _ _ _ _ => gd_name 20 nd, by decide, fun _ _ _ _ _ => ptd_eqs (pd_ixt (pd_var 20) pd_int rfl) (pd_var 14), fun _ _ _ _ _ _ => pd_var 20⟩)) pd_int (ati_nn (by decide) (first_of (f := Cm.name) hc))) ?_)
          refine sd_cons (sd1_join (fun d => ∃ dn2 mo2, d = tkS B s0 al o (cmdM B ⟨m, l, some r, pl, lf - 1, si⟩ cname) dn2 rf mo2 false (.va (.d (.str cname))) .no .no .no (.va (.d (eCm (B.cmdOf cname)))) (.va (.d (.tuple ((B.rowOf r).steps.map eSt))))) (sd_if (q := decide (m ∈ (B.cmdOf cname).modes)) (ptd_in (pd_var 4) (pd_ixt (pd_var 18) pd_int rfl) (.inr rfl)) (fun h => ?_) (fun h => sd_nil ?_)) ?_)
          · have ec : cmdM B ⟨m, l, some r, pl, lf - 1, si⟩ cname = effM B ⟨m, l, some r, pl, lf - 1, si⟩ (B.cmdOf cname).on (B.cmdOf cname).off (B.cmdOf cname).to := by unfold cmdM cmdOk; exact if_pos h
            rw [ec]
            refine sd_cons (sd_asg (pd_call O1 hr (pad_cons (pd_var 0) (pad_cons (pd_var 4) (pad_cons (pd_var 5) (pad_cons (pd_slfrom (pd_var 18) pd_int (by decide) (nble rfl)) pad_nil)))) (aft ⟨m, l, some r, pl, lf - 1, si⟩ cname v2 hc)) (gd_tup rfl (gds_cons (gd_name 4 nd) (gds_cons (gd_name 5 nd) gds_nil))) ?_)
            have er : (effM B ⟨m, l, some r, pl, lf - 1, si⟩ (B.cmdOf cname).on (B.cmdOf cname).off (B.cmdOf cname).to) = ⟨(effM B ⟨m, l, some r, pl, lf - 1, si⟩ (B.cmdOf cname).on (B.cmdOf cname).off (B.cmdOf cname).to).mode, (effM B ⟨m, l, some r, pl, lf - 1, si⟩ (B.cmdOf cname).on (B.cmdOf cname).off (B.cmdOf cname).to).lot, some r, pl, lf - 1, si⟩ := by cases (B.cmdOf cname).to <;> rfl
            rw [er]
            generalize (effM B ⟨m, l, some r, pl, lf - 1, si⟩ (B.cmdOf cname).on (B.cmdOf cname).off (B.cmdOf cname).to).mode = m2
            generalize (effM B ⟨m, l, some r, pl, lf - 1, si⟩ (B.cmdOf cname).on (B.cmdOf cname).off (B.cmdOf cname).to).lot = l2
            refine sd_cons (sd_apnd 12 rfl (pd_var 5) (by omega) ?_)
            exact sd_cons (sd_apnd 10 rfl (pd_var 14) (by omega) (sd_nil ⟨_, _, rfl⟩))
          · have ec : cmdM B ⟨m, l, some r, pl, lf - 1, si⟩ cname = ⟨m, l, some r, pl, lf - 1, si⟩ := by unfold cmdM cmdOk; exact if_neg (by rw [show decide _ = false from h]; decide)
            rw [ec]
            exact ⟨dn, mo, rfl⟩
          · rintro d ⟨dn2, mo2, rfl⟩
            have hrow : (cmdM B ⟨m, l, some r, pl, lf - 1, si⟩ cname).row = some r := cmdM_row
            have hpl : (cmdM B ⟨m, l, some r, pl, lf - 1, si⟩ cname).place = pl := by
              unfold cmdM; split
              · cases (B.cmdOf cname).to <;> rfl
              · rfl
            generalize cmdM B ⟨m, l, some r, pl, lf - 1, si⟩ cname = s3 at *
            obtain ⟨m3, l3, r3, p3, lf3, si3⟩ := s3
            have hrow' : r3 = some r := hrow
            have hpl' : p3 = pl := hpl
            subst hrow' hpl'
            refine sd_cons (sd_set 7 nd (pd_add (pd_var 7) pd_int) ?_)
            refine sd_one (sd_if (q := decide (p3 + 1 = ((B.rowOf r).steps.length : Int))) ((ptd_eqi (pd_var 7) (pd_len B0 (pd_var 19) rfl)).is (by rw [List.length_map])) (fun hh => ?_) fun hh => ?_)
            · have eb : beginM B ⟨m3, l3, some r, p3, lf3, si3⟩ r (p3 + 1) = ⟨m3, l3, none, 0, 0, si3⟩ := by unfold beginM; exact if_pos (of_decide_eq_true hh)
              rw [eb] at h1
              exact sd_cons (sd_asg (pd_tup (pds_cons pd_non (pds_cons pd_int (pds_cons pd_int pds_nil)))) (gd_tup rfl (gds_cons (gd_name 6 nd) (gds_cons (gd_name 7 nd) (gds_cons (gd_name 8 nd) gds_nil)))) (sd_nil (sd_nil (last ⟨m3, l3, none, 0, 0, si3⟩ dn2 rf mo2 false _ _ _ _ _ _ _ rfl h1 h2))))
            · have hne : ¬ p3 + 1 = ((B.rowOf r).steps.length : Int) := of_decide_eq_false hh
              have hlt3 : p3 < ((B.rowOf r).steps.length : Int) := p1
              have eb : beginM B ⟨m3, l3, some r, p3, lf3, si3⟩ r (p3 + 1) = ⟨m3, l3, some r, p3 + 1, ((B.rowOf r).steps.getD (p3 + 1).toNat default).1, si3⟩ := by unfold beginM; exact if_neg hne
              rw [eb] at h1
              exact sd_cons (sd_set 8 nd (pd_ixt (pd_ixt (pd_var 19) (pd_var 7) (ati_nn (by omega) (e0 (p3 + 1) (by omega) (by omega)))) pd_int rfl) (sd_nil (sd_nil (last ⟨m3, l3, some r, p3 + 1, ((B.rowOf r).steps.getD (p3 + 1).toNat default).1, si3⟩ dn2 rf mo2 false _ _ _ _ _ _ _ rfl h1 h2))))
        · rw [if_neg (by decide)] at h1
          have e : goM B ⟨m, l, some r, pl, lf, si⟩ = ⟨m, l, some r, pl, lf - 1, si⟩ := by unfold goM; exact if_neg (of_decide_eq_false h)
          rw [e] at h1
          exact h1
  refine sd_cons (sd_asg (pd_var 1) (gd_tup rfl (gds_cons (gd_name 4 nd) (gds_cons (gd_name 5 nd) (gds_cons (gd_name 6 nd) (gds_cons (gd_name 7 nd) (gds_cons (gd_name 8 nd) (gds_cons (gd_name 9 nd) gds_nil))))))) ?_)
  refine sd_cons (sd_own 10 nd (pf_lst pds_nil) ?_)
  refine sd_cons (sd_own 11 nd (pf_lst pds_nil) ?_)
  refine sd_cons (sd_own 12 nd (pf_lst pds_nil) ?_)
  refine sd_cons (sd_set 13 nd pd_bl ?_)
  refine sd_cons (sd_for (d := .list (B.alarms.map eAl)) (fun i δ => ∃ mo, mo.length ≤ i ∧ δ = tkS B s0 al o ((B.alarms.take i).foldl (ansM B al) s0) [] [] mo false .no .no .no .no .no .no) (pd_ixt (pd_var 0) pd_int rfl) rfl ⟨[], Nat.le_refl _, rfl⟩ (fun i x δ1 hx hδ => ?_) (fun δ1 hδ => ?_) PassesOwn.never rfl)
  · obtain ⟨mo, hmo, rfl⟩ := hδ
    rw [List.getElem?_map] at hx
    obtain ⟨a, ha, rfl⟩ := Option.map_eq_some_iff.mp hx
    have hi : i < B.alarms.length := (List.getElem?_eq_some_iff.mp ha).1
    have va := V.am _ (List.mem_of_getElem? ha)
    have vs1 : VS B ((B.alarms.take i).foldl (ansM B al) s0) := fold_VS V vs fun a h => List.mem_of_mem_take h
    rw [foldl_take ha]
    generalize (B.alarms.take i).foldl (ansM B al) s0 = s1 at vs1
    refine ⟨_, _, gd_tup rfl (gds_cons (gd_name 14 nd) (gds_cons (gd_name 15 nd) (gds_cons (gd_name 16 nd) (gds_cons (gd_name 17 nd) gds_nil)))), ?_⟩
    refine sd_cons (sd_if (q := decide (a.name ∈ al)) (ptd_in (pd_var 14) (pd_var 2) (.inr rfl)) (fun h => ?_) fun h => sd_nil ?_)
    · have e : ansM B al s1 a = haltM (effM B s1 a.on a.off a.to) := by unfold ansM; exact if_pos (of_decide_eq_true h)
      have er : effM B s1 a.on a.off a.to = ⟨(effM B s1 a.on a.off a.to).mode, (effM B s1 a.on a.off a.to).lot, s1.row, s1.place, s1.left, s1.sil⟩ := by cases a.to <;> rfl
      rw [e]
      refine sd_cons (sd_asg (pd_call O1 hr (pad_cons (pd_var 0) (pad_cons (pd_var 4) (pad_cons (pd_var 5) (pad_cons (pd_tup (pds_cons (pd_var 15) (pds_cons (pd_var 16) (pds_cons (pd_var 17) pds_nil)))) pad_nil)))) ⟨B, s1, a.on, a.off, a.to, V, vs1.lo, va.1, va.2.2, rfl, rfl⟩) (gd_tup rfl (gds_cons (gd_name 4 nd) (gds_cons (gd_name 5 nd) gds_nil))) ?_)
      rw [er]
      refine sd_cons (sd_apnd 12 rfl (pd_var 5) (by omega) ?_)
      refine sd_cons (sd_asg (pd_tup (pds_cons pd_non (pds_cons pd_int (pds_cons pd_int pds_nil)))) (gd_tup rfl (gds_cons (gd_name 6 nd) (gds_cons (gd_name 7 nd) (gds_cons (gd_name 8 nd) gds_nil)))) (sd_nil ?_))
      exact sd_drop 14 (sd_drop 15 (sd_drop 16 (sd_drop 17 (sd_nil ⟨_, by rw [List.length_append]; simp; omega, rfl⟩))))
    · have e : ansM B al s1 a = s1 := by unfold ansM; exact if_neg (of_decide_eq_false h)
      rw [e]
      exact sd_drop 14 (sd_drop 15 (sd_drop 16 (sd_drop 17 (sd_nil ⟨mo, by omega, rfl⟩))))
  · obtain ⟨mo, hmo, rfl⟩ := hδ
    rw [List.length_map, List.take_length]
    rw [List.length_map] at hmo
    have v1 : VS B (B.alarms.foldl (ansM B al) s0) := answerM_VS V vs
    have hres : tickM B s0 al o = (if isRun o then (match o with | .no => waitM B (B.alarms.foldl (ansM B al) s0) | o => obeyM B (B.alarms.foldl (ansM B al) s0) o) else goM B (match o with | .no => waitM B (B.alarms.foldl (ansM B al) s0) | o => obeyM B (B.alarms.foldl (ansM B al) s0) o)) := by
      unfold tickM answerM; cases o <;> rfl
    rw [hres]
    generalize B.alarms.foldl (ansM B al) s0 = s1 at v1
    cases o with
    | no =>
      refine sd_cons (sd_if (q := false) ((ptd_notn (pd_var 3) pd_non).is rfl) ff fun _ => ?_)
      cases hq : B.quiet with
      | none =>
        have ew : waitM B s1 = s1 := by unfold waitM; rw [hq]
        refine sd_one (sd_if (q := false) ((ptd_notn (pd_ixt (d := eI B.quiet) (pd_var 0) pd_int rfl) pd_non).is (by rw [hq]; rfl)) ff fun _ => sd_nil ?_)
        refine go s1 [] [] mo false _ v1 (by decide) (by omega) ?_ rfl
        show (fun q' => q' = Ar.o (exR (tkR (goM B (waitM B s1))))) = _
        rw [ew]; rfl
      | some q =>
        obtain ⟨m, l, r, p, lf, si⟩ := s1
        have v2 : VS B ⟨m, l, r, p, lf, si + 1⟩ := sil_VS v1 (si + 1)
        have h0 : ((B.modes.map eMd))[(0 : Int).toNat]? = some (eMd (B.modes.headD default)) := by
          have := V.m0
          cases h : B.modes with
          | nil => exact absurd h this
          | cons a t => rfl
        refine sd_one (sd_if (q := true) ((ptd_notn (pd_ixt (d := eI B.quiet) (pd_var 0) pd_int rfl) pd_non).is (by rw [hq]; rfl)) (fun _ => ?_) tt)
        refine sd_cons (sd_set 9 nd (pd_add (pd_var 9) pd_int) ?_)
        refine sd_one (sd_if (q := decide (si + 1 = q)) (ptd_eqi (pd_var 9) (PD.is (pd_ixt (d := eI B.quiet) (pd_var 0) pd_int rfl) (by rw [hq]; rfl))) (fun h => ?_) fun h => sd_nil ?_)
        · have ew : waitM B ⟨m, l, r, p, lf, si⟩ = ⟨(effM B ⟨m, l, r, p, lf, si + 1⟩ [] [] (some B.safe)).mode, (effM B ⟨m, l, r, p, lf, si + 1⟩ [] [] (some B.safe)).lot, none, 0, 0, 0⟩ := by
            unfold waitM; rw [hq]; exact if_pos (of_decide_eq_true h)
          refine sd_cons (sd_asg (pd_call O1 hr (pad_cons (pd_var 0) (pad_cons (pd_var 4) (pad_cons (pd_var 5) (pad_cons (pd_tup (pds_cons (pd_tup pds_nil) (pds_cons (pd_tup pds_nil) (pds_cons (pd_ixt (pd_ixl (pd_ixt (d := .list (B.modes.map eMd)) (pd_var 0) pd_int rfl) pd_int (ati_nn (by decide) h0)) pd_int rfl) pds_nil)))) pad_nil)))) ⟨B, ⟨m, l, r, p, lf, si + 1⟩, [], [], some B.safe, V, v2.lo, .nil, fun t e => by cases e; exact safe_mem V, rfl, rfl⟩) (gd_tup rfl (gds_cons (gd_name 4 nd) (gds_cons (gd_name 5 nd) gds_nil))) ?_)
          have vw : VS B ⟨(effM B ⟨m, l, r, p, lf, si + 1⟩ [] [] (some B.safe)).mode, (effM B ⟨m, l, r, p, lf, si + 1⟩ [] [] (some B.safe)).lot, none, 0, 0, 0⟩ := by
            rw [← ew]; exact waitM_VS V v1
          have key : (fun q' => q' = Ar.o (exR (tkR (goM B (waitM B ⟨m, l, r, p, lf, si⟩))))) = fun q' => q' = Ar.o (exR (tkR (goM B ⟨(effM B ⟨m, l, r, p, lf, si + 1⟩ [] [] (some B.safe)).mode, (effM B ⟨m, l, r, p, lf, si + 1⟩ [] [] (some B.safe)).lot, none, 0, 0, 0⟩))) := by rw [ew]
          clear ew
          generalize (effM B ⟨m, l, r, p, lf, si + 1⟩ [] [] (some B.safe)).mode = m2 at *
          generalize (effM B ⟨m, l, r, p, lf, si + 1⟩ [] [] (some B.safe)).lot = l2 at *
          refine sd_cons (sd_apnd 12 rfl (pd_var 5) (by omega) ?_)
          refine sd_cons (sd_asg (pd_tup (pds_cons pd_non (pds_cons pd_int (pds_cons pd_int (pds_cons pd_int pds_nil))))) (gd_tup rfl (gds_cons (gd_name 6 nd) (gds_cons (gd_name 7 nd) (gds_cons (gd_name 8 nd) (gds_cons (gd_name 9 nd) gds_nil))))) (sd_nil ?_))
          exact go ⟨m2, l2, none, 0, 0, 0⟩ [] [] _ false _ vw (by decide) (by rw [List.length_append]; simp; omega) key rfl
        · have ew : waitM B ⟨m, l, r, p, lf, si⟩ = ⟨m, l, r, p, lf, si + 1⟩ := by
            unfold waitM; rw [hq]; exact if_neg (of_decide_eq_false h)
          refine go ⟨m, l, r, p, lf, si + 1⟩ [] [] mo false _ v2 (by decide) (by omega) ?_ rfl
          show (fun q' => q' = Ar.o (exR (tkR (goM B (waitM B ⟨m, l, r, p, lf, si⟩))))) = _
          rw [ew]; rfl
    | doo x =>
      have hc : x ∈ B.commands.map (·.name) := vo
      obtain ⟨m, l, r, p, lf, si⟩ := s1
      have v2 : VS B ⟨m, l, r, p, lf, 0⟩ := sil_VS v1 0
      refine sd_cons (sd_if (q := true) ((ptd_notn (pd_var 3) pd_non).is rfl) (fun _ => ?_) tt)
      refine sd_cons (sd_set 9 nd pd_int ?_)
      refine sd_one (sd_if (q := true) ((ptd_eqs (x := "do") (pd_ixt (pd_var 3) pd_int rfl) pd_str).is (by decide)) (fun _ => ?_) tt)
      refine sd_cons (sd_set 18 nd (pd_ixl (d := eCm (B.cmdOf x)) (PF.pd (pf_lc (own := [("_law_some", 20)]) (enc := eCm) (xs := B.commands) (p := fun m => decide (m.name = x)) (f := eCm) rfl nd (pd_ixt (pd_var 0) pd_int rfl) rfl (bkF__law_tick (by decide +kernel)) fun y hy => ⟨_, _, fun _ _ _ _ _ => gd_name 20 nd, by decide, fun _ _ _ _ _ => ptd_eqs (pd_ixt (pd_var 20) pd_int rfl) (pd_ixt (pd_var 3) pd_int rfl), fun _ _ _ _ _ _ => pd_var 20⟩)) pd_int (ati_nn (by decide) (first_of (f := Cm.name) hc))) ?_)
      refine sd_one (sd_if (q := decide (m ∈ (B.cmdOf x).modes)) (ptd_in (pd_var 4) (pd_ixt (pd_var 18) pd_int rfl) (.inr rfl)) (fun h => ?_) (fun h => ?_))
      · have ec : obeyM B ⟨m, l, r, p, lf, si⟩ (.doo x) = ⟨(effM B ⟨m, l, r, p, lf, 0⟩ (B.cmdOf x).on (B.cmdOf x).off (B.cmdOf x).to).mode, (effM B ⟨m, l, r, p, lf, 0⟩ (B.cmdOf x).on (B.cmdOf x).off (B.cmdOf x).to).lot, r, p, lf, 0⟩ := by
          show cmdM B ⟨m, l, r, p, lf, 0⟩ x = _
          unfold cmdM cmdOk
          refine (if_pos h).trans ?_
          cases (B.cmdOf x).to <;> rfl
        refine sd_cons (sd_asg (pd_call O1 hr (pad_cons (pd_var 0) (pad_cons (pd_var 4) (pad_cons (pd_var 5) (pad_cons (pd_slfrom (pd_var 18) pd_int (by decide) (nble rfl)) pad_nil)))) (aft ⟨m, l, r, p, lf, 0⟩ x v2 hc)) (gd_tup rfl (gds_cons (gd_name 4 nd) (gds_cons (gd_name 5 nd) gds_nil))) ?_)
        have vw : VS B ⟨(effM B ⟨m, l, r, p, lf, 0⟩ (B.cmdOf x).on (B.cmdOf x).off (B.cmdOf x).to).mode, (effM B ⟨m, l, r, p, lf, 0⟩ (B.cmdOf x).on (B.cmdOf x).off (B.cmdOf x).to).lot, r, p, lf, 0⟩ := by
          rw [← ec]; exact obeyM_VS V v1 vo
        have key : (fun q' => q' = Ar.o (exR (tkR (goM B (obeyM B ⟨m, l, r, p, lf, si⟩ (.doo x)))))) = fun q' => q' = Ar.o (exR (tkR (goM B ⟨(effM B ⟨m, l, r, p, lf, 0⟩ (B.cmdOf x).on (B.cmdOf x).off (B.cmdOf x).to).mode, (effM B ⟨m, l, r, p, lf, 0⟩ (B.cmdOf x).on (B.cmdOf x).off (B.cmdOf x).to).lot, r, p, lf, 0⟩))) := by rw [ec]
        clear ec
        generalize (effM B ⟨m, l, r, p, lf, 0⟩ (B.cmdOf x).on (B.cmdOf x).off (B.cmdOf x).to).mode = m2 at *
        generalize (effM B ⟨m, l, r, p, lf, 0⟩ (B.cmdOf x).on (B.cmdOf x).off (B.cmdOf x).to).lot = l2 at *
        refine sd_cons (sd_apnd 12 rfl (pd_var 5) (by omega) ?_)
        refine sd_cons (sd_apnd 10 rfl (pd_ixt (d := .str x) (pd_var 3) pd_int rfl) (by decide) (sd_nil (sd_drop 18 ?_)))
        exact go ⟨m2, l2, r, p, lf, 0⟩ _ [] _ false _ vw (Nat.lt_of_lt_of_le (show 1 < 1000 by decide) (Nat.le_refl _)) (by rw [List.length_append]; simp; omega) key rfl
      · have ec : obeyM B ⟨m, l, r, p, lf, si⟩ (.doo x) = ⟨m, l, r, p, lf, 0⟩ := by
          show cmdM B ⟨m, l, r, p, lf, 0⟩ x = _
          unfold cmdM cmdOk
          exact if_neg (by rw [show decide _ = false from h]; decide)
        refine sd_one (sd_apnd 11 rfl (pd_ixt (d := .str x) (pd_var 3) pd_int rfl) (by decide) (sd_drop 18 ?_))
        refine go ⟨m, l, r, p, lf, 0⟩ [] _ mo false _ v2 (by decide) (by omega) ?_ rfl
        show (fun q' => q' = Ar.o (exR (tkR (goM B (obeyM B ⟨m, l, r, p, lf, si⟩ (.doo x)))))) = _
        rw [ec]; rfl
    | run x =>
      have hx : x ∈ B.rows.map (·.name) := vo
      obtain ⟨m, l, r, p, lf, si⟩ := s1
      have hst := V.rm _ (find_name (f := Rw.name) hx).1
      have hpos : 0 < (B.rowOf x).steps.length := List.length_pos_iff.mpr hst.1
      have ec : obeyM B ⟨m, l, r, p, lf, si⟩ (.run x) = ⟨m, l, some x, 0, ((B.rowOf x).steps.getD (0 : Int).toNat default).1, 0⟩ := by
        show beginM B ⟨m, l, r, p, lf, 0⟩ x 0 = _
        unfold beginM
        exact if_neg (by omega)
      have v2 : VS B ⟨m, l, some x, 0, ((B.rowOf x).steps.getD (0 : Int).toNat default).1, 0⟩ := by rw [← ec]; exact obeyM_VS V v1 vo
      have e0 : ((B.rowOf x).steps.map eSt)[(0 : Int).toNat]? = some (eSt ((B.rowOf x).steps.getD (0 : Int).toNat default)) := by
        rw [List.getElem?_map, List.getD_eq_getElem?_getD, List.getElem?_eq_getElem (show (0 : Int).toNat < _ from hpos)]; rfl
      refine sd_cons (sd_if (q := true) ((ptd_notn (pd_var 3) pd_non).is rfl) (fun _ => ?_) tt)
      refine sd_cons (sd_set 9 nd pd_int ?_)
      refine sd_one (sd_if (q := false) ((ptd_eqs (x := "run") (pd_ixt (pd_var 3) pd_int rfl) pd_str).is (by decide)) ff fun _ => ?_)
      refine sd_one (sd_if (q := true) ((ptd_eqs (x := "run") (pd_ixt (pd_var 3) pd_int rfl) pd_str).is (by decide)) (fun _ => ?_) tt)
      refine sd_cons (sd_asg (pd_tup (pds_cons (pd_ixt (d := .str x) (pd_var 3) pd_int rfl) (pds_cons pd_int (pds_cons (pd_ixt (pd_ixt (pd_ixt (d := .tuple ((B.rowOf x).steps.map eSt)) (pd_ixl (d := eRw (B.rowOf x)) (PF.pd (pf_lc (own := [("_law_some", 20)]) (enc := eRw) (xs := B.rows) (p := fun m => decide (m.name = x)) (f := eRw) rfl nd (pd_ixt (pd_var 0) pd_int rfl) rfl (bkF__law_tick (by decide +kernel)) fun y hy => ⟨_, _, fun _ _ _ _ _ => gd_name 20 nd, by decide, fun _ _ _ _ _ => ptd_eqs (pd_ixt (pd_var 20) pd_int rfl) (pd_ixt (pd_var 3) pd_int rfl), fun _ _ _ _ _ _ => pd_var 20⟩)) pd_int (ati_nn (by decide) (first_of (f := Rw.name) hx))) pd_int rfl) pd_int (ati_nn (by decide) e0)) pd_int rfl) pds_nil)))) (gd_tup rfl (gds_cons (gd_name 6 nd) (gds_cons (gd_name 7 nd) (gds_cons (gd_name 8 nd) gds_nil)))) ?_)
      refine sd_cons (sd_set 13 nd pd_bl (sd_nil ?_))
      refine go ⟨m, l, some x, 0, ((B.rowOf x).steps.getD (0 : Int).toNat default).1, 0⟩ [] [] mo true _ v2 (by decide) (by omega) ?_ rfl
      show (fun q' => q' = Ar.o (exR (tkR (obeyM B ⟨m, l, r, p, lf, si⟩ (.run x))))) = _
      rw [ec]; rfl
    | stop =>
      obtain ⟨m, l, r, p, lf, si⟩ := s1
      refine sd_cons (sd_if (q := true) ((ptd_notn (pd_var 3) pd_non).is rfl) (fun _ => ?_) tt)
      refine sd_cons (sd_set 9 nd pd_int ?_)
      refine sd_one (sd_if (q := false) ((ptd_eqs (x := "stop") (pd_ixt (pd_var 3) pd_int rfl) pd_str).is (by decide)) ff fun _ => ?_)
      refine sd_one (sd_if (q := false) ((ptd_eqs (x := "stop") (pd_ixt (pd_var 3) pd_int rfl) pd_str).is (by decide)) ff fun _ => ?_)
      refine sd_cons (sd_asg (pd_tup (pds_cons pd_non (pds_cons pd_int (pds_cons pd_int pds_nil)))) (gd_tup rfl (gds_cons (gd_name 6 nd) (gds_cons (gd_name 7 nd) (gds_cons (gd_name 8 nd) gds_nil)))) (sd_nil ?_))
      exact go ⟨m, l, none, 0, 0, 0⟩ [] [] mo false _ (obeyM_VS V v1 (o := .stop) trivial) (by decide) (by omega) rfl rfl
end
end Fw
set_option maxHeartbeats 2000000
namespace Fw
open PySem PySem.Spec PyProof.Rows L2 PySem.W
def namesA (B : Bok) : List Str := sortS (B.alarms.map (·.name))
/-- the lots of names, as the law has them -/
def lotsL (names : List Str) : List (List Str) := ([] :: names.map fun x => [x]) ++ (if names.length = 2 then [names] else [])
def inputsM (B : Bok) : List (List Str × Ord) := (lotsL (namesA B)).flatMap fun l => (orderMs B).map fun o => (l, o)
def eIn (p : List Str × Ord) : D := .tuple [eL p.1, eOr p.2]
theorem orderMs_eq (B : Bok) : orderMs B = ([Ord.no] ++ (sortS (B.commands.map (·.name))).map .doo) ++ (sortS (B.rows.map (·.name))).map .run ++ [.stop] := by
  unfold orderMs
  rw [← cmds_names, List.map_map]
  rfl
theorem namesA_len {B : Bok} (V : VB B) : (namesA B).length ≤ 4 := by
  unfold namesA
  rw [sortS_eq, List.length_mergeSort, List.length_map]
  exact V.al
theorem lotsL_len (names : List Str) : (lotsL names).length ≤ names.length + 2 := by
  unfold lotsL
  rw [List.length_append, List.length_cons, List.length_map]
  split <;> simp
section
variable {P : Program} {w0 : World} {K : PySem.W.Frag} {mg : Str → Option Value} {base : Heap} {CT CG CS CB : Addr}
def cMade (CB : Addr) (ars : List Ar) (q : Ar) : Prop := ∃ B, VC B ∧ ars = [.d (eParts B)] ∧ q = rBook CB B
theorem ok__law_made (T : DefAt K mg "_law_made" sF__law_made) (O1 : OkI P w0 K mg base 6 CB "Book" ["self", "holds", "modes", "barred", "commands", "alarms", "rows", "quiet"] mBook) : Okd P w0 K mg base 8 "_law_made" ["_law_parts_here"] (cMade CB) := by
  refine okd_mk T scF__law_made (fun _ _ _ _ _ _ us hl => match us, hl with | [_], _ => rfl) (fun ars q ⟨_, _, e, _⟩ => by rw [e]; rfl) (by decide) fun ars q cc f cdv A outer s H E hr => ?_
  obtain ⟨B, V, rfl, rfl⟩ := cc
  have nd := scF__law_made.nd
  refine sd_cons (sd_asg (pd_var 0) (gd_tup rfl (gds_cons (gd_name 1 nd) (gds_cons (gd_name 2 nd) (gds_cons (gd_name 3 nd) (gds_cons (gd_name 4 nd) (gds_cons (gd_name 5 nd) (gds_cons (gd_name 6 nd) (gds_cons (gd_name 7 nd) gds_nil)))))))) ?_)
  exact sd_one (sd_ret (pd_make (fd := bookF B) O1 hr (pad_cons (pd_var 1) (pad_cons (pd_var 2) (pad_cons (pd_var 3) (pad_cons (pd_var 4) (pad_cons (pd_var 5) (pad_cons (pd_var 6) (pad_cons (pd_var 7) pad_nil))))))) ⟨B, V, rfl, rfl, rfl, rfl⟩) rfl)
def cInputs (ars : List Ar) (q : Ar) : Prop := ∃ B, VB B ∧ ars = [.d (eParts B)] ∧ q = .d (.list ((inputsM B).map eIn))
theorem ok__law_inputs (T : DefAt K mg "_law_inputs" sF__law_inputs) (B0 : Bt mg) : Okd P w0 K mg base 1 "_law_inputs" ["_law_parts_here"] cInputs := by
  refine okd_mk T scF__law_inputs (fun _ _ _ _ _ _ us hl => match us, hl with | [_], _ => rfl) (fun ars q ⟨_, _, e, _⟩ => by rw [e]; rfl) (by decide) fun ars q cc f cdv A outer s H E hr => ?_
  obtain ⟨B, V, rfl, rfl⟩ := cc
  have nd := scF__law_inputs.nd
  have l1 := namesA_len V
  have l2 := V.cl
  have l3 := V.rl
  have hin : inputsM B = (lotsL (namesA B)).flatMap fun l => (orderMs B).map fun o => (l, o) := rfl
  have hol : (orderMs B).length ≤ 13 := by
    rw [orderMs_eq]; simp [sortS_eq]; omega
  have hll := lotsL_len (namesA B)
  refine sd_cons (sd_set 1 nd ((PF.pd (pf_sortedSq (xs := B.alarms.map (·.name)) B0 hr.units ((PF.pd (pf_lc0 (own := [("_law_part", 7)]) (enc := eAl) (xs := B.alarms) (f := fun r => .str r.name) rfl nd (pd_ixt (pd_var 0) pd_int rfl) rfl (bkF__law_inputs (by decide +kernel)) fun x hx => ⟨_, _, fun _ _ _ _ _ => gd_name 7 nd, by decide, fun _ _ _ _ _ => pd_ixt (pd_var 7) pd_int rfl⟩)).is (by rw [show (fun r : Al => PyData.str r.name) = PyData.str ∘ Al.name from rfl, ← List.map_map])) rfl)).is (r' := .d (.list ((namesA B).map .str))) (by unfold namesA; rw [← sortS_eq])) ?_)
  rw [hin]
  generalize namesA B = names at *
  refine sd_cons (sd_own 2 nd (pf_cat (pd_lst (pds_cons (pd_tup pds_nil) pds_nil)) (PF.pd (pf_lc0 (own := [("_law_name", 8)]) (enc := .str) (xs := names) (f := fun x => .tuple [.str x]) rfl nd (pd_var 1) rfl (bkF__law_inputs (by decide +kernel)) fun x hx => ⟨_, _, fun _ _ _ _ _ => gd_name 8 nd, by decide, fun _ _ _ _ _ => pd_tup (pds_cons (pd_var 8) pds_nil)⟩)) (by rw [List.length_map]; simp; omega)) ?_)
  refine sd_cons (sd1_join (fun d => d = [.va (.d (eParts B)), .va (.d (.list (names.map .str))), .ow (oLst ((lotsL names).map eL)), .no, .no, .no, .no, .no, .no]) (sd_if (q := decide ((names.length : Int) = 2)) ((ptd_eqi (pd_len B0 (pd_var 1) rfl) pd_int).is (by rw [List.length_map])) (fun h => ?_) fun h => sd_nil ?_) ?_)
  · have h' := of_decide_eq_true h
    have hn2 : names.length = 2 := by omega
    match names, hn2 with
    | [x, y], _ => exact sd_one (sd_apnd 2 rfl (pd_tup (pds_cons (pd_ixl (pd_var 1) pd_int rfl) (pds_cons (pd_ixl (pd_var 1) pd_int rfl) pds_nil))) (nble rfl) rfl)
  · have h' := of_decide_eq_false h
    have hn2 : ¬ names.length = 2 := by omega
    unfold lotsL
    rw [if_neg hn2, List.append_nil, List.map_cons, List.map_map]
    rfl
  · rintro d rfl
    refine sd_frz 2 rfl ?_
    refine sd_cons (sd_set 3 nd ((PF.pd (pf_cat (pd_lst (pds_cons pd_non pds_nil)) (PF.pd (pf_lc0 (own := [("_law_name", 8)]) (enc := .str) (xs := sortS (B.commands.map (·.name))) (f := fun n => eOr (.doo n)) rfl nd ((PF.pd (pf_sortedSq (xs := B.commands.map (·.name)) B0 hr.units ((PF.pd (pf_lc0 (own := [("_law_part", 7)]) (enc := eCm) (xs := B.commands) (f := fun r => .str r.name) rfl nd (pd_ixt (pd_var 0) pd_int rfl) rfl (bkF__law_inputs (by decide +kernel)) fun x hx => ⟨_, _, fun _ _ _ _ _ => gd_name 7 nd, by decide, fun _ _ _ _ _ => pd_ixt (pd_var 7) pd_int rfl⟩)).is (by rw [show (fun r : Cm => PyData.str r.name) = PyData.str ∘ Cm.name from rfl, ← List.map_map])) rfl)).is (by rw [← sortS_eq])) rfl (bkF__law_inputs (by decide +kernel)) fun x hx => ⟨_, _, fun _ _ _ _ _ => gd_name 8 nd, by decide, fun _ _ _ _ _ => pd_tup (pds_cons pd_str (pds_cons (pd_var 8) pds_nil))⟩)) ?_))) ?_)
    · simp [sortS_eq]; omega
    refine sd_cons (sd_set 3 nd ((PF.pd (pf_cat (PF.pd (pf_cat (pd_var 3) (PF.pd (pf_lc0 (own := [("_law_name", 8)]) (enc := .str) (xs := sortS (B.rows.map (·.name))) (f := fun n => eOr (.run n)) rfl nd ((PF.pd (pf_sortedSq (xs := B.rows.map (·.name)) B0 hr.units ((PF.pd (pf_lc0 (own := [("_law_part", 7)]) (enc := eRw) (xs := B.rows) (f := fun r => .str r.name) rfl nd (pd_ixt (pd_var 0) pd_int rfl) rfl (bkF__law_inputs (by decide +kernel)) fun x hx => ⟨_, _, fun _ _ _ _ _ => gd_name 7 nd, by decide, fun _ _ _ _ _ => pd_ixt (pd_var 7) pd_int rfl⟩)).is (by rw [show (fun r : Rw => PyData.str r.name) = PyData.str ∘ Rw.name from rfl, ← List.map_map])) rfl)).is (by rw [← sortS_eq])) rfl (bkF__law_inputs (by decide +kernel)) fun x hx => ⟨_, _, fun _ _ _ _ _ => gd_name 8 nd, by decide, fun _ _ _ _ _ => pd_tup (pds_cons pd_str (pds_cons (pd_var 8) pds_nil))⟩)) ?_)) (pd_lst (pds_cons (pd_tup (pds_cons pd_str pds_nil)) pds_nil)) ?_)).is (r' := .d (.list ((orderMs B).map eOr))) ?_) ?_)
    · simp [sortS_eq]; omega
    · simp [sortS_eq]; omega
    · rw [orderMs_eq]; simp [eOr, Function.comp_def]
    generalize orderMs B = os at *
    refine sd_cons (sd_own 4 nd (pf_lst pds_nil) ?_)
    refine sd_cons (sd_for (d := .list ((lotsL names).map eL)) (fun i δ => δ = [.va (.d (eParts B)), .va (.d (.list (names.map .str))), .va (.d (.list ((lotsL names).map eL))), .va (.d (.list (os.map eOr))), .ow (oLst ((((lotsL names).take i).flatMap fun l => os.map fun o => (l, o)).map eIn)), .no, .no, .no, .no]) (pd_var 2) rfl rfl (fun i y δ1 hy hδ => ?_) (fun δ1 hδ => ?_) PassesOwn.never rfl)
    · subst hδ
      rw [List.getElem?_map] at hy
      obtain ⟨l, hl, rfl⟩ := Option.map_eq_some_iff.mp hy
      have hacc := flat_len (n := 13) (xs := (lotsL names).take i) (f := fun l => os.map fun o => (l, o)) fun x _ => by rw [List.length_map]; exact hol
      have htl : ((lotsL names).take i).length ≤ 6 := by rw [List.length_take]; omega
      have hsucc : ((lotsL names).take (i + 1)).flatMap (fun l => os.map fun o => (l, o)) = ((lotsL names).take i).flatMap (fun l => os.map fun o => (l, o)) ++ os.map fun o => (l, o) := by
        rw [List.take_add_one, hl, List.flatMap_append]; simp
      rw [hsucc]
      generalize ((lotsL names).take i).flatMap (fun l => os.map fun o => (l, o)) = acc at *
      refine ⟨_, _, gd_name 5 nd, ?_⟩
      refine sd_cons (sd_for (d := .list (os.map eOr)) (fun j δ => δ = [.va (.d (eParts B)), .va (.d (.list (names.map .str))), .va (.d (.list ((lotsL names).map eL))), .va (.d (.list (os.map eOr))), .ow (oLst ((acc ++ (os.take j).map fun o => (l, o)).map eIn)), .va (.d (eL l)), .no, .no, .no]) (pd_var 3) rfl (by rw [List.take_zero, List.map_nil, List.append_nil]; rfl) (fun j z δ1 hz hδ => ?_) (fun δ1 hδ => ?_) PassesOwn.never rfl)
      · subst hδ
        rw [List.getElem?_map] at hz
        obtain ⟨o, ho, rfl⟩ := Option.map_eq_some_iff.mp hz
        have hj : (os.take j).length ≤ 13 := by rw [List.length_take]; omega
        refine ⟨_, _, gd_name 6 nd, sd_cons (sd_apnd 4 rfl (pd_tup (pds_cons (pd_var 5) (pds_cons (pd_var 6) pds_nil))) (by rw [List.length_map, List.length_append, List.length_map]; omega) (sd_drop 6 (sd_nil ?_)))⟩
        have e : (acc ++ (os.take (j + 1)).map fun o => (l, o)).map eIn = (acc ++ (os.take j).map fun o => (l, o)).map eIn ++ [eIn (l, o)] := by rw [List.take_add_one, ho]; simp
        rw [e]
        rfl
      · subst hδ
        rw [List.length_map, List.take_length]
        exact sd_drop 5 (sd_nil rfl)
    · subst hδ
      rw [List.length_map, List.take_length]
      exact sd_frz 4 rfl (sd_one (sd_ret (pd_var 4) rfl))
end
end Fw
set_option maxHeartbeats 2000000
namespace Fw
open PySem PySem.Spec PyProof.Rows L2 PySem.W
def addStd (f : List Std) (s : Std) : List Std := if s ∈ f then f else f ++ [s]
theorem addStd_mem {f : List Std} {s x : Std} : x ∈ addStd f s ↔ x ∈ f ∨ x = s := by
  unfold addStd
  split
  · rename_i h
    exact ⟨.inl, fun z => z.elim id fun e => by rw [e]; exact h⟩
  · rw [List.mem_append, List.mem_singleton]
theorem addStd_len (f : List Std) (s : Std) : (addStd f s).length ≤ f.length + 1 := by
  unfold addStd
  split
  · omega
  · rw [List.length_append]; exact Nat.le_refl _
/-- what comes of one standing -/
def come1 (B : Bok) (o : Ord) (lots : List (List Str)) (f : List Std) (s : Std) : List Std := lots.foldl (fun f l => addStd f (tickM B s l o)) f
def comesL (B : Bok) (cr : List Std) (o : Ord) (lots : List (List Str)) : List Std := cr.foldl (come1 B o lots) []
theorem come1_mem {B : Bok} {o : Ord} {s x : Std} : ∀ {lots : List (List Str)} {f : List Std}, x ∈ come1 B o lots f s ↔ x ∈ f ∨ ∃ l ∈ lots, x = tickM B s l o
  | [], f => by simp [come1]
  | l :: t, f => by
    have ih := come1_mem (B := B) (o := o) (s := s) (x := x) (lots := t) (f := addStd f (tickM B s l o))
    have e : come1 B o (l :: t) f s = come1 B o t (addStd f (tickM B s l o)) s := rfl
    rw [e, ih, addStd_mem]
    simp only [List.mem_cons, exists_eq_or_imp, or_assoc]
theorem come1_len {B : Bok} {o : Ord} {s : Std} : ∀ {lots : List (List Str)} {f : List Std}, (come1 B o lots f s).length ≤ f.length + lots.length
  | [], f => Nat.le_refl _
  | l :: t, f => by
    have ih := come1_len (B := B) (o := o) (s := s) (lots := t) (f := addStd f (tickM B s l o))
    have h := addStd_len f (tickM B s l o)
    have e : come1 B o (l :: t) f s = come1 B o t (addStd f (tickM B s l o)) s := rfl
    rw [e, List.length_cons]
    omega
theorem comes_memF {B : Bok} {o : Ord} {lots : List (List Str)} {x : Std} : ∀ {cr : List Std} {f : List Std}, x ∈ cr.foldl (come1 B o lots) f ↔ x ∈ f ∨ ∃ s ∈ cr, ∃ l ∈ lots, x = tickM B s l o
  | [], f => by simp
  | s :: t, f => by
    rw [List.foldl_cons, comes_memF (cr := t), come1_mem]
    simp only [List.mem_cons, exists_eq_or_imp, or_assoc]
theorem comes_mem {B : Bok} {cr : List Std} {o : Ord} {lots : List (List Str)} {x : Std} : x ∈ comesL B cr o lots ↔ ∃ s ∈ cr, ∃ l ∈ lots, x = tickM B s l o := by
  unfold comesL
  rw [comes_memF]
  simp
theorem comes_lenF {B : Bok} {o : Ord} {lots : List (List Str)} : ∀ {cr : List Std} {f : List Std}, (cr.foldl (come1 B o lots) f).length ≤ f.length + cr.length * lots.length
  | [], f => by simp
  | s :: t, f => by
    have ih := comes_lenF (B := B) (o := o) (lots := lots) (cr := t) (f := come1 B o lots f s)
    have h := come1_len (B := B) (o := o) (s := s) (lots := lots) (f := f)
    rw [List.foldl_cons, List.length_cons, Nat.succ_mul]
    omega
theorem comes_len {B : Bok} {cr : List Std} {o : Ord} {lots : List (List Str)} : (comesL B cr o lots).length ≤ cr.length * lots.length := by
  have := comes_lenF (B := B) (o := o) (lots := lots) (cr := cr) (f := [])
  rw [List.length_nil, Nat.zero_add] at this
  exact this
theorem comes_VS {B : Bok} (V : VB B) {cr : List Std} {o : Ord} {lots : List (List Str)} (h : ∀ s ∈ cr, VS B s) (vo : VO B o) : ∀ s ∈ comesL B cr o lots, VS B s := fun s hs => by
  obtain ⟨t, ht, l, hl, rfl⟩ := comes_mem.mp hs
  exact tickM_VS V (h t ht) vo
theorem come1_VS {B : Bok} (V : VB B) {o : Ord} {lots : List (List Str)} {f : List Std} {s : Std} (hf : ∀ x ∈ f, VS B x) (h : VS B s) (vo : VO B o) : ∀ x ∈ come1 B o lots f s, VS B x := fun x hx => by
  rcases come1_mem.mp hx with z | ⟨l, hl, rfl⟩
  · exact hf x z
  · exact tickM_VS V h vo
def pickIn (B : Bok) (n : Int) : List Str × Ord := (inputsM B).getD (n % ((inputsM B).length : Int)).toNat ([], .no)
def histTo (B : Bok) (ns : List Int) (k : Nat) (j : Nat) : Std := (List.range j).foldl (fun s j => tickM B s (pickIn B (ns.getD (k + j) 0)).1 (pickIn B (ns.getD (k + j) 0)).2) (startM0 B)
def histM (B : Bok) (ns : List Int) (at_ : Nat) (k : Nat) : Std := histTo B ns (at_ + 2 + 5 * k) (ns.getD (at_ + 1 + 5 * k) 0 % 5).toNat
def crowdTo (B : Bok) (ns : List Int) (at_ : Nat) (n : Nat) : List Std := (List.range n).foldl (fun f k => addStd f (histM B ns at_ k)) []
def crowdM (B : Bok) (ns : List Int) (at_ : Nat) : List Std := crowdTo B ns at_ (1 + ns.getD at_ 0 % 3).toNat
theorem inputs_ne (B : Bok) : 0 < (inputsM B).length := by
  unfold inputsM lotsL
  simp only [List.cons_append, List.flatMap_cons, List.length_append, List.length_map]
  have : 0 < (orderMs B).length := by unfold orderMs; simp
  omega
theorem inputs_VO {B : Bok} : ∀ p ∈ inputsM B, VO B p.2 := fun p h => by
  obtain ⟨l, _, h⟩ := List.mem_flatMap.mp h
  obtain ⟨o, ho, rfl⟩ := List.mem_map.mp h
  exact orders_VO o ho
theorem pickIn_at (B : Bok) (n : Int) : (inputsM B)[(n % ((inputsM B).length : Int)).toNat]? = some (pickIn B n) := by
  have h := inputs_ne B
  have h0 := Int.emod_nonneg n (show ((inputsM B).length : Int) ≠ 0 by omega)
  have h1 := Int.emod_lt_of_pos n (show 0 < ((inputsM B).length : Int) by omega)
  unfold pickIn
  rw [List.getD_eq_getElem?_getD, List.getElem?_eq_getElem (by omega)]
  rfl
theorem pickIn_VO (B : Bok) (n : Int) : VO B (pickIn B n).2 := inputs_VO _ (List.mem_of_getElem? (pickIn_at B n))
theorem histTo_succ (B : Bok) (ns : List Int) (k j : Nat) : histTo B ns k (j + 1) = tickM B (histTo B ns k j) (pickIn B (ns.getD (k + j) 0)).1 (pickIn B (ns.getD (k + j) 0)).2 := by
  unfold histTo
  rw [List.range_succ, List.foldl_append]
  rfl
theorem crowdTo_succ (B : Bok) (ns : List Int) (a n : Nat) : crowdTo B ns a (n + 1) = addStd (crowdTo B ns a n) (histM B ns a n) := by
  unfold crowdTo
  rw [List.range_succ, List.foldl_append]
  rfl
theorem start_VS {B : Bok} (V : VB B) : VS B (startM0 B) := by
  have hs := safe_mem V
  have hm := V.md _ (find_name (f := Md.name) hs).1
  refine ⟨hs, ?_, nofun⟩
  exact VT.turned _ (VT.turned _ VT.nil VT.nil) hm.1
theorem histTo_VS {B : Bok} (V : VB B) (ns : List Int) (k : Nat) : ∀ j, VS B (histTo B ns k j)
  | 0 => start_VS V
  | j + 1 => by rw [histTo_succ]; exact tickM_VS V (histTo_VS V ns k j) (pickIn_VO B _)
theorem crowdTo_VS {B : Bok} (V : VB B) (ns : List Int) (a : Nat) : ∀ n, ∀ s ∈ crowdTo B ns a n, VS B s
  | 0, s, h => by cases h
  | n + 1, s, h => by
    rw [crowdTo_succ, addStd_mem] at h
    rcases h with z | rfl
    · exact crowdTo_VS V ns a n s z
    · exact histTo_VS V ns _ _
theorem crowdTo_len (B : Bok) (ns : List Int) (a : Nat) : ∀ n, (crowdTo B ns a n).length ≤ n
  | 0 => Nat.le_refl _
  | n + 1 => by
    rw [crowdTo_succ]
    exact Nat.le_trans (addStd_len _ _) (Nat.succ_le_succ (crowdTo_len B ns a n))
section
variable {P : Program} {w0 : World} {K : PySem.W.Frag} {mg : Str → Option Value} {base : Heap} {CT CG CS CB : Addr}
theorem tk0 {s : Std} : ∀ t, tkR s t → ∃ ds, t = .tuple ds ∧ atI ds 0 = some (eS s) := fun t ⟨a, b, c, e⟩ => ⟨_, e, rfl⟩
def cComes (ars : List Ar) (q : Ar) : Prop := ∃ (B : Bok) (cr : List Std) (o : Ord) (lots : List (List Str)), VB B ∧ (∀ s ∈ cr, VS B s) ∧ VO B o ∧ cr.length ≤ 1000 ∧ lots.length ≤ 100 ∧ ars = [.d (eParts B), .d (.list (cr.map eS)), .d (eOr o), .d (.list (lots.map eL))] ∧ q = .d (.list ((comesL B cr o lots).map eS))
theorem ok__law_comes (T : DefAt K mg "_law_comes" sF__law_comes) (O1 : Okd P w0 K mg base 3 "_law_tick" ["_law_parts_here", "_law_state", "_law_alarms", "_law_order"] cLTick) : Okd P w0 K mg base 4 "_law_comes" ["_law_parts_here", "_law_crowd_here", "_law_order", "_law_lots"] cComes := by
  refine okd_mk T scF__law_comes (fun _ _ _ _ _ _ us hl => match us, hl with | [_, _, _, _], _ => rfl) (fun ars q ⟨_, _, _, _, _, _, _, _, _, e, _⟩ => by rw [e]; rfl) (by decide) fun ars q cc f cdv A outer s H E hr => ?_
  obtain ⟨B, cr, o, lots, V, vs, vo, h1, h2, rfl, rfl⟩ := cc
  have nd := scF__law_comes.nd
  refine sd_cons (sd_own 4 nd (pf_lst pds_nil) ?_)
  refine sd_cons (sd_for (d := .list (cr.map eS)) (fun i δ => δ = [.va (.d (eParts B)), .va (.d (.list (cr.map eS))), .va (.d (eOr o)), .va (.d (.list (lots.map eL))), .ow (oLst (((cr.take i).foldl (come1 B o lots) []).map eS)), .no, .no, .no]) (pd_var 1) rfl rfl (fun i y δ1 hy hδ => ?_) (fun δ1 hδ => ?_) PassesOwn.never rfl)
  · subst hδ
    rw [List.getElem?_map] at hy
    obtain ⟨t, ht, rfl⟩ := Option.map_eq_some_iff.mp hy
    have vt := vs t (List.mem_of_getElem? ht)
    have hl := comes_lenF (B := B) (o := o) (lots := lots) (cr := cr.take i) (f := [])
    have hti : (cr.take i).length ≤ 1000 := by rw [List.length_take]; omega
    have hmul := Nat.mul_le_mul hti h2
    have vf : ∀ x ∈ (cr.take i).foldl (come1 B o lots) [], VS B x := comes_VS V (cr := cr.take i) (fun s hs => vs s (List.mem_of_mem_take hs)) vo
    rw [foldl_take ht]
    generalize (cr.take i).foldl (come1 B o lots) [] = acc at *
    have hacc : acc.length ≤ 100000 := by simp only [List.length_nil] at hl; omega
    refine ⟨_, _, gd_name 5 nd, ?_⟩
    refine sd_cons (sd_for (d := .list (lots.map eL)) (fun j δ => δ = [.va (.d (eParts B)), .va (.d (.list (cr.map eS))), .va (.d (eOr o)), .va (.d (.list (lots.map eL))), .ow (oLst ((come1 B o (lots.take j) acc t).map eS)), .va (.d (eS t)), .no, .no]) (pd_var 3) rfl rfl (fun j z δ1 hz hδ => ?_) (fun δ1 hδ => ?_) PassesOwn.never rfl)
    · subst hδ
      rw [List.getElem?_map] at hz
      obtain ⟨l, hl2, rfl⟩ := Option.map_eq_some_iff.mp hz
      have hl3 := come1_len (B := B) (o := o) (s := t) (lots := lots.take j) (f := acc)
      have htj : (lots.take j).length ≤ 100 := by rw [List.length_take]; omega
      have vf2 := come1_VS V (lots := lots.take j) vf vt vo
      have hsucc : come1 B o (lots.take (j + 1)) acc t = addStd (come1 B o (lots.take j) acc t) (tickM B t l o) := foldl_take hl2
      rw [hsucc]
      generalize come1 B o (lots.take j) acc t = acc2 at *
      have vk := tickM_VS V vt vo (al := l)
      refine ⟨_, _, gd_name 6 nd, ?_⟩
      refine sd_cons (sd_set 7 nd (pd_ixe (pd_call O1 hr (pad_cons (pd_var 0) (pad_cons (pd_var 5) (pad_cons (pd_var 6) (pad_cons (pd_var 2) pad_nil)))) ⟨B, t, l, o, V, vt, vo, rfl, rfl⟩) pd_int tk0) ?_)
      generalize tickM B t l o = s2 at *
      refine sd_cons (sd_if (q := !decide (s2 ∈ acc2)) (ptd_own 4 rfl ((ptd_notind (units65 hr) (pd_var 7) (pd_var 4) (shp_eS (vk.ok V)) (shp_eSs fun x hx => (vf2 x hx).ok V)).is (by rw [any_eS])) rfl) (fun h => ?_) fun h => sd_nil ?_)
      · have e : addStd acc2 s2 = acc2 ++ [s2] := if_neg (by simpa using h)
        rw [e]
        refine sd_one (sd_apnd 4 rfl (pd_var 7) (by rw [List.length_map]; omega) (sd_drop 6 (sd_drop 7 (sd_nil ?_))))
        rw [List.map_append]; rfl
      · have e : addStd acc2 s2 = acc2 := if_pos (by simpa using h)
        rw [e]
        exact sd_drop 6 (sd_drop 7 (sd_nil rfl))
    · subst hδ
      rw [List.length_map, List.take_length]
      exact sd_drop 5 (sd_nil rfl)
  · subst hδ
    rw [List.length_map, List.take_length]
    exact sd_frz 4 rfl (sd_one (sd_ret (pd_var 4) rfl))
def cCrowd (ars : List Ar) (q : Ar) : Prop := ∃ (B : Bok) (ns : List Int) (a : Nat), VB B ∧ a + 18 ≤ ns.length ∧ ars = [.d (eParts B), .d (.list (ns.map .int)), .d (.int (a : Int))] ∧ q = .d (.list ((crowdM B ns a).map eS))
theorem ok__law_crowd (T : DefAt K mg "_law_crowd" sF__law_crowd) (B0 : Bt mg) (O1 : Okd P w0 K mg base 3 "_law_tick" ["_law_parts_here", "_law_state", "_law_alarms", "_law_order"] cLTick) (O2 : Okd P w0 K mg base 3 "_law_start" ["_law_parts_here"] cStart) (O3 : Okd P w0 K mg base 1 "_law_inputs" ["_law_parts_here"] cInputs) : Okd P w0 K mg base 4 "_law_crowd" ["_law_parts_here", "_law_numbers_here", "_law_at"] cCrowd := by
  refine okd_mk T scF__law_crowd (fun _ _ _ _ _ _ us hl => match us, hl with | [_, _, _], _ => rfl) (fun ars q ⟨_, _, _, _, _, e, _⟩ => by rw [e]; rfl) (by decide) fun ars q cc f cdv A outer s H E hr => ?_
  obtain ⟨B, ns, a, V, hz, rfl, rfl⟩ := cc
  have nd := scF__law_crowd.nd
  have hne := inputs_ne B
  have at_ : ∀ (k : Nat) (z : Int), z = (k : Int) → k < ns.length → atI (ns.map PyData.int) z = some (.int (ns.getD k 0)) := fun k z e h => by
    subst e; exact ati_nn (Int.natCast_nonneg _) (nums_at h)
  refine sd_cons (sd_set 3 nd (pd_call O3 (hr.mono (by decide)) (pad_cons (pd_var 0) pad_nil) ⟨B, V, rfl, rfl⟩) ?_)
  refine sd_cons (sd_own 4 nd (pf_lst pds_nil) ?_)
  refine sd_cons (sd_range B0 (n := 1 + ns.getD a 0 % 3) (fun i δ => δ = [.va (.d (eParts B)), .va (.d (.list (ns.map .int))), .va (.d (.int (a : Int))), .va (.d (.list ((inputsM B).map eIn))), .ow (oLst ((crowdTo B ns a i).map eS)), .no, .no, .no, .no]) (pd_add pd_int (pd_mod (pd_inti B0 (pd_ixl (pd_var 1) (pd_var 2) (at_ a _ rfl (by omega)))) pd_int (by decide))) (by omega) (by omega) rfl (fun i δ1 hi hδ => ?_) (fun δ1 hδ => ?_) PassesOwn.never rfl)
  · subst hδ
    have hi3 : i < 3 := by omega
    have vf := crowdTo_VS V ns a i
    have hlen := crowdTo_len B ns a i
    rw [crowdTo_succ]
    generalize crowdTo B ns a i = acc at *
    refine ⟨_, _, gd_name 5 nd, ?_⟩
    refine sd_cons (sd_set 6 nd (pd_call O2 hr (pad_cons (pd_var 0) pad_nil) ⟨B, V, rfl, rfl⟩) ?_)
    refine sd_cons (sd_range B0 (n := ns.getD (a + 1 + 5 * i) 0 % 5) (fun j δ => δ = [.va (.d (eParts B)), .va (.d (.list (ns.map .int))), .va (.d (.int (a : Int))), .va (.d (.list ((inputsM B).map eIn))), .ow (oLst (acc.map eS)), .va (.d (.int (i : Int))), .va (.d (eS (histTo B ns (a + 2 + 5 * i) j))), .no, .no]) (pd_mod (pd_inti B0 (pd_ixl (pd_var 1) (pd_add (pd_add (pd_var 2) pd_int) (pd_mul pd_int (pd_var 5) (.inl ⟨by decide, by decide⟩))) (at_ (a + 1 + 5 * i) _ (by omega) (by omega)))) pd_int (by decide)) (by omega) (by omega) rfl (fun j δ1 hj hδ => ?_) (fun δ1 hδ => ?_) PassesOwn.never rfl)
    · subst hδ
      have hj4 : j < 4 ∨ j = 4 := by omega
      have hj5 : j < 5 := by omega
      have vh := histTo_VS V ns (a + 2 + 5 * i) j
      rw [histTo_succ]
      generalize histTo B ns (a + 2 + 5 * i) j = sh at *
      have hp := pickIn_at B (ns.getD (a + 2 + 5 * i + j) 0)
      have vp := pickIn_VO B (ns.getD (a + 2 + 5 * i + j) 0)
      refine ⟨_, _, gd_name 7 nd, ?_⟩
      refine sd_cons (sd_set 8 nd (pd_ixl (d := eIn (pickIn B (ns.getD (a + 2 + 5 * i + j) 0))) (pd_var 3) (pd_mod (pd_inti B0 (pd_ixl (pd_var 1) (pd_add (pd_add (pd_add (pd_var 2) pd_int) (pd_mul pd_int (pd_var 5) (.inl ⟨by decide, by decide⟩))) (pd_var 7)) (at_ (a + 2 + 5 * i + j) _ (by omega) (by omega)))) (pd_len B0 (pd_var 3) rfl) (by rw [List.length_map]; omega)) (ati_nn (by rw [List.length_map]; exact Int.emod_nonneg _ (by omega)) (by rw [List.length_map, List.getElem?_map, hp]; rfl))) ?_)
      generalize pickIn B (ns.getD (a + 2 + 5 * i + j) 0) = p at *
      refine sd_cons (sd_set 6 nd (pd_ixe (pd_call O1 hr (pad_cons (pd_var 0) (pad_cons (pd_var 6) (pad_cons (pd_ixt (d := eL p.1) (pd_var 8) pd_int rfl) (pad_cons (pd_ixt (d := eOr p.2) (pd_var 8) pd_int rfl) pad_nil)))) ⟨B, sh, p.1, p.2, V, vh, vp, rfl, rfl⟩) pd_int tk0) ?_)
      exact sd_drop 7 (sd_drop 8 (sd_nil rfl))
    · subst hδ
      have vk := histTo_VS V ns (a + 2 + 5 * i) (ns.getD (a + 1 + 5 * i) 0 % 5).toNat
      have eh : histM B ns a i = histTo B ns (a + 2 + 5 * i) (ns.getD (a + 1 + 5 * i) 0 % 5).toNat := rfl
      rw [eh]
      generalize histTo B ns (a + 2 + 5 * i) (ns.getD (a + 1 + 5 * i) 0 % 5).toNat = s2 at *
      refine sd_cons (sd_if (q := !decide (s2 ∈ acc)) (ptd_own 4 rfl ((ptd_notind (units65 hr) (pd_var 6) (pd_var 4) (shp_eS (vk.ok V)) (shp_eSs fun x hx => (vf x hx).ok V)).is (by rw [any_eS])) rfl) (fun h => ?_) fun h => sd_nil ?_)
      · have e : addStd acc s2 = acc ++ [s2] := if_neg (by simpa using h)
        rw [e]
        refine sd_one (sd_apnd 4 rfl (pd_var 6) (by rw [List.length_map]; omega) (sd_drop 5 (sd_drop 6 (sd_nil ?_))))
        rw [List.map_append]; rfl
      · have e : addStd acc s2 = acc := if_pos (by simpa using h)
        rw [e]
        exact sd_drop 5 (sd_drop 6 (sd_nil rfl))
  · subst hδ
    exact sd_frz 4 rfl (sd_one (sd_ret (pd_var 4) rfl))
end
end Fw
set_option maxHeartbeats 2000000
namespace Fw
open PySem PySem.Spec PyProof.Rows L2 PySem.W
def runL (B : Bok) (cr : List Std) (os : List Ord) (lots : List (List Str)) : List Std := os.foldl (fun c o => comesL B c o lots) cr
def someL (B : Bok) (os : List Ord) (w : Wish) (lots : List (List Str)) : Nat → List Std → Bool
  | 0, cr => allM cr w
  | n + 1, cr => os.any fun o => someL B os w lots n (comesL B cr o lots)
theorem runL_len {B : Bok} {lots : List (List Str)} (hl : lots.length ≤ 6) : ∀ (os : List Ord) {cr : List Std}, (runL B cr os lots).length ≤ cr.length * 6 ^ os.length
  | [], cr => by simp [runL]
  | o :: os, cr => by
    have h := runL_len (B := B) hl os (cr := comesL B cr o lots)
    have h2 := comes_len (B := B) (cr := cr) (o := o) (lots := lots)
    have h3 : cr.length * lots.length ≤ cr.length * 6 := Nat.mul_le_mul_left _ hl
    have e : runL B cr (o :: os) lots = runL B (comesL B cr o lots) os lots := rfl
    rw [e, List.length_cons, Nat.pow_succ]
    refine Nat.le_trans h ?_
    have h4 : (comesL B cr o lots).length * 6 ^ os.length ≤ (cr.length * 6) * 6 ^ os.length := Nat.mul_le_mul_right _ (Nat.le_trans h2 h3)
    refine Nat.le_trans h4 (Nat.le_of_eq ?_)
    rw [Nat.mul_assoc, Nat.mul_comm 6]
theorem runL_VS {B : Bok} (V : VB B) {lots : List (List Str)} : ∀ {os : List Ord} {cr : List Std}, (∀ s ∈ cr, VS B s) → (∀ o ∈ os, VO B o) → ∀ s ∈ runL B cr os lots, VS B s
  | [], _, h, _ => h
  | o :: os, cr, h, ho => runL_VS V (os := os) (cr := comesL B cr o lots) (comes_VS V h (ho o (List.mem_cons_self ..))) fun x hx => ho x (List.mem_cons_of_mem _ hx)
theorem none_meet {cr : List Std} {w : Wish} : (cr.all fun s => !(!meetsM s w)) = allM cr w := by
  unfold allM
  congr 1
  funext s
  exact Bool.not_not _
section
variable {P : Program} {w0 : World} {K : PySem.W.Frag} {mg : Str → Option Value} {base : Heap} {CT CG CS CB : Addr}
def cLBrings (ars : List Ar) (q : Ar) : Prop := ∃ (B : Bok) (cr : List Std) (os : List Ord) (w : Wish) (lots : List (List Str)), VB B ∧ (∀ s ∈ cr, VS B s) ∧ (∀ o ∈ os, VO B o) ∧ cr.length ≤ 3 ∧ os.length ≤ 3 ∧ lots.length ≤ 6 ∧ ars = [.d (eParts B), .d (.list (cr.map eS)), .d (.list (os.map eOr)), .d (eW w), .d (.list (lots.map eL))] ∧ q = .d (.bool (allM (runL B cr os lots) w))
theorem ok__law_brings (T : DefAt K mg "_law_brings" sF__law_brings) (B0 : Bt mg) (O1 : Okd P w0 K mg base 4 "_law_comes" ["_law_parts_here", "_law_crowd_here", "_law_order", "_law_lots"] cComes) (O2 : Okd P w0 K mg base 1 "_law_meets" ["_law_state", "_law_wish"] cMeets) : Okd P w0 K mg base 5 "_law_brings" ["_law_parts_here", "_law_crowd_here", "_law_row_here", "_law_wish", "_law_lots"] cLBrings := by
  refine okd_mk T scF__law_brings (fun _ _ _ _ _ _ us hl => match us, hl with | [_, _, _, _, _], _ => rfl) (fun ars q ⟨_, _, _, _, _, _, _, _, _, _, _, e, _⟩ => by rw [e]; rfl) (by decide) fun ars q cc f cdv A outer s H E hr => ?_
  obtain ⟨B, cr, os, w, lots, V, vs, vo, h1, h2, h3, rfl, rfl⟩ := cc
  have nd := scF__law_brings.nd
  refine sd_cons (sd_for (fun i δ => δ = [.va (.d (eParts B)), .va (.d (.list ((runL B cr (os.take i) lots).map eS))), .va (.d (.list (os.map eOr))), .va (.d (eW w)), .va (.d (.list (lots.map eL))), .no, .no]) (pd_var 2) rfl rfl (fun i x δ1 hx hδ => ?_) (fun δ1 hδ => ?_) PassesOwn.never rfl)
  · subst hδ
    rw [List.getElem?_map] at hx
    obtain ⟨o, ho, rfl⟩ := Option.map_eq_some_iff.mp hx
    have hi : i < os.length := (List.getElem?_eq_some_iff.mp ho).1
    have vi : ∀ o ∈ os.take i, VO B o := fun o h => vo o (List.mem_of_mem_take h)
    have hlen := runL_len (B := B) (cr := cr) h3 (os.take i)
    have hp : 6 ^ (os.take i).length ≤ 6 ^ 2 := Nat.pow_le_pow_right (by decide) (by rw [List.length_take]; omega)
    have hb : (runL B cr (os.take i) lots).length ≤ 1000 := by
      have := Nat.mul_le_mul h1 hp
      omega
    have e : runL B cr (os.take (i + 1)) lots = comesL B (runL B cr (os.take i) lots) o lots := foldl_take ho
    rw [e]
    exact ⟨_, _, gd_name 5 nd, sd_cons (sd_set 1 nd (pd_call O1 hr (pad_cons (pd_var 0) (pad_cons (pd_var 1) (pad_cons (pd_var 5) (pad_cons (pd_var 4) pad_nil)))) ⟨B, runL B cr (os.take i) lots, o, lots, V, runL_VS V vs vi, vo o (List.mem_of_getElem? ho), hb, by omega, rfl, rfl⟩) (sd_drop 5 (sd_nil rfl)))⟩
  · subst hδ
    rw [List.length_map, List.take_length]
    refine sd_one (sd_ret (PD.is (pd_eqi (pd_len B0 (PF.pd (pf_lc (own := [("_law_state", 6)]) (enc := eS) (xs := runL B cr os lots) (p := fun s => !meetsM s w) (f := eS) rfl nd (pd_var 1) rfl (bkF__law_brings (by decide +kernel)) fun x hx => ⟨_, _, fun _ _ _ _ _ => gd_name 6 nd, by decide, fun _ _ _ _ _ => ptd_not (ptd_val (pd_call O2 (hr.mono (by decide)) (pad_cons (pd_var 6) (pad_cons (pd_var 3) pad_nil)) ⟨x, w, rfl, rfl⟩)), fun _ _ _ _ _ _ => pd_var 6⟩)) rfl) pd_int) ?_) rfl)
    rw [none_left, none_meet]
def cSome (n : Nat) (ars : List Ar) (q : Ar) : Prop := ∃ (B : Bok) (cr : List Std) (os : List Ord) (w : Wish) (lots : List (List Str)), VB B ∧ (∀ s ∈ cr, VS B s) ∧ (∀ o ∈ os, VO B o) ∧ cr.length * 6 ^ n ≤ 1000 ∧ lots.length ≤ 6 ∧ ars = [.d (eParts B), .d (.list (cr.map eS)), .d (.list (os.map eOr)), .d (.int (n : Int)), .d (eW w), .d (.list (lots.map eL))] ∧ q = .d (.bool (someL B os w lots n cr))
theorem ok__law_some_row (T : DefAt K mg "_law_some_row" sF__law_some_row) (B0 : Bt mg) (O1 : Okd P w0 K mg base 4 "_law_comes" ["_law_parts_here", "_law_crowd_here", "_law_order", "_law_lots"] cComes) (O2 : Okd P w0 K mg base 1 "_law_meets" ["_law_state", "_law_wish"] cMeets) : ∀ n, Okd P w0 K mg base (5 + n) "_law_some_row" ["_law_parts_here", "_law_crowd_here", "_law_orders", "_law_many", "_law_wish", "_law_lots"] (cSome n)
  | 0 => by
    refine okd_mk T scF__law_some_row (fun _ _ _ _ _ _ us hl => match us, hl with | [_, _, _, _, _, _], _ => rfl) (fun ars q ⟨_, _, _, _, _, _, _, _, _, _, e, _⟩ => by rw [e]; rfl) (by decide) fun ars q cc f cdv A outer s H E hr => ?_
    obtain ⟨B, cr, os, w, lots, V, vs, vo, h1, h3, rfl, rfl⟩ := cc
    have nd := scF__law_some_row.nd
    refine sd_cons (sd_if (q := true) ((ptd_eqi (pd_var 3) pd_int).is (by decide)) (fun _ => ?_) tt)
    refine sd_one (sd_ret (PD.is (pd_eqi (pd_len B0 (PF.pd (pf_lc (own := [("_law_state", 6)]) (enc := eS) (xs := cr) (p := fun s => !meetsM s w) (f := eS) rfl nd (pd_var 1) rfl (bkF__law_some_row (by decide +kernel)) fun x hx => ⟨_, _, fun _ _ _ _ _ => gd_name 6 nd, by decide, fun _ _ _ _ _ => ptd_not (ptd_val (pd_call O2 (hr.mono (by decide)) (pad_cons (pd_var 6) (pad_cons (pd_var 4) pad_nil)) ⟨x, w, rfl, rfl⟩)), fun _ _ _ _ _ _ => pd_var 6⟩)) rfl) pd_int) ?_) rfl)
    rw [none_left, none_meet]
    rfl
  | n + 1 => by
    have ih := ok__law_some_row T B0 O1 O2 n
    refine okd_mk (k := 5 + n) T scF__law_some_row (fun _ _ _ _ _ _ us hl => match us, hl with | [_, _, _, _, _, _], _ => rfl) (fun ars q ⟨_, _, _, _, _, _, _, _, _, _, e, _⟩ => by rw [e]; rfl) (by decide) fun ars q cc f cdv A outer s H E hr => ?_
    obtain ⟨B, cr, os, w, lots, V, vs, vo, h1, h3, rfl, rfl⟩ := cc
    have nd := scF__law_some_row.nd
    have hpos : 0 < 6 ^ n := Nat.pow_pos (by decide)
    have h6 : 6 ≤ 6 ^ (n + 1) := by rw [Nat.pow_succ]; omega
    have hc : cr.length * 6 ≤ 1000 := Nat.le_trans (Nat.mul_le_mul_left _ h6) h1
    refine sd_cons (sd_if (q := false) ((ptd_eqi (pd_var 3) pd_int).is (decide_eq_false (by omega))) ff fun _ => sd_nil ?_)
    refine sd_one (sd_ret (pd_anyT (ys := os) (g := fun o => someL B os w lots n (comesL B cr o lots)) B0 rfl (PF.pd (pf_lc0 (own := [("_law_order", 7)]) (enc := eOr) (xs := os) rfl nd (pd_var 2) rfl (bkF__law_some_row (by decide +kernel)) fun o ho => ⟨_, _, fun _ _ _ _ _ => gd_name 7 nd, by decide, fun _ _ _ _ _ => pd_call ih hr (pad_cons (pd_var 0) (pad_cons (pd_call O1 (hr.mono (by omega)) (pad_cons (pd_var 0) (pad_cons (pd_var 1) (pad_cons (pd_var 7) (pad_cons (pd_var 5) pad_nil)))) ⟨B, cr, o, lots, V, vs, vo o ho, by omega, by omega, rfl, rfl⟩) (pad_cons (pd_var 2) (pad_cons ((pd_sub (pd_var 3) pd_int).is (r' := .d (.int (n : Int))) (by congr 2; omega)) (pad_cons (pd_var 4) (pad_cons (pd_var 5) pad_nil)))))) ⟨B, comesL B cr o lots, os, w, lots, V, comes_VS V vs (vo o ho), vo, ?_, h3, rfl, rfl⟩⟩))) rfl)
    have h2 := comes_len (B := B) (cr := cr) (o := o) (lots := lots)
    have h4 : (comesL B cr o lots).length ≤ cr.length * 6 := Nat.le_trans h2 (Nat.mul_le_mul_left _ h3)
    refine Nat.le_trans (Nat.mul_le_mul_right _ h4) (Nat.le_trans (Nat.le_of_eq ?_) h1)
    rw [Nat.pow_succ, Nat.mul_assoc, Nat.mul_comm 6]
end
end Fw
set_option maxHeartbeats 2000000
namespace Fw
open PySem PySem.Spec PyProof.Rows L2 PySem.W
def ks (k : Kn) : List (List Std) := k.map (·.1)
theorem ks_put {k : Kn} {c x : List Std} {r : List Ord} : x ∈ ks (putW k c r) ↔ x ∈ ks k ∨ x = c := by
  unfold ks putW
  split
  · rename_i h
    rw [List.map_map]
    have e2 : ((fun e : List Std × List Ord => e.1) ∘ fun e => if e.1 = c then (e.1, r) else e) = fun e => e.1 := by funext e; simp only [Function.comp]; split <;> rfl
    rw [e2]
    obtain ⟨e, h1, h2⟩ := List.any_eq_true.mp h
    have h2' : e.1 = c := of_decide_eq_true h2
    exact ⟨.inl, fun z => z.elim id fun q => by rw [q]; exact List.mem_map.mpr ⟨e, h1, h2'⟩⟩
  · rw [List.map_append, List.mem_append]
    simp
theorem any_ks {k : Kn} {c : List Std} : (k.any fun e => decide (e.1 = c)) = true ↔ c ∈ ks k := by
  unfold ks
  rw [List.any_eq_true, List.mem_map]
  simp only [decide_eq_true_eq]
/-- what a step of the search keeps -/
structure Lv (B : Bok) (lots : List (List Str)) (os : List Ord) (rows : Kn) (a a' : Kn × Kn) : Prop where
  mono : ∀ c ∈ ks a.1, c ∈ ks a'.1
  new : ∀ c ∈ ks a'.1, c ∈ ks a.1 ∨ c ∈ ks a'.2
  keep : ∀ c ∈ ks a.2, c ∈ ks a'.2
  ent : ∀ e ∈ a'.2, e ∈ a.2 ∨ ∃ x ∈ rows, ∃ o ∈ os, e = (comM B x.1 o lots, x.2 ++ [o])
  put : ∀ x ∈ rows, ∀ o ∈ os, comM B x.1 o lots ∈ ks a'.1
theorem addM_lv {a : Kn × Kn} {c : List Std} {r : List Ord} : (∀ x ∈ ks a.1, x ∈ ks (addM a c r).1) ∧ (∀ x ∈ ks (addM a c r).1, x ∈ ks a.1 ∨ x ∈ ks (addM a c r).2) ∧ (∀ x ∈ ks a.2, x ∈ ks (addM a c r).2) ∧ c ∈ ks (addM a c r).1 := by
  unfold addM
  split
  · rename_i h
    refine ⟨fun x hx => ks_put.mpr (.inl hx), fun x hx => (ks_put.mp hx).imp id fun e => ks_put.mpr (.inr e), fun x hx => ks_put.mpr (.inl hx), ks_put.mpr (.inr rfl)⟩
  · rename_i h
    refine ⟨fun x hx => hx, fun x hx => .inl hx, fun x hx => hx, any_ks.mp ?_⟩
    simpa using h
theorem exM_lv {B : Bok} {lots : List (List Str)} {e : List Std × List Ord} : ∀ (os : List Ord) (a : Kn × Kn), Lv B lots os [e] a (exM B lots os a e)
  | [], a => ⟨fun _ h => h, fun _ h => .inl h, fun _ h => h, fun _ h => .inl h, fun _ _ o h => by cases h⟩
  | o :: os, a => by
    have ih := exM_lv (B := B) (lots := lots) (e := e) os (addO B lots e a o)
    have e1 : exM B lots (o :: os) a e = exM B lots os (addO B lots e a o) e := rfl
    obtain ⟨h1, h2, h3, h4⟩ := addM_lv (a := a) (c := comM B e.1 o lots) (r := e.2 ++ [o])
    rw [e1]
    refine ⟨fun c hc => ih.mono c (h1 c hc), fun c hc => ?_, fun c hc => ih.keep c (h3 c hc), fun x hx => ?_, fun x hx o' ho' => ?_⟩
    · rcases ih.new c hc with z | z
      · exact (h2 c z).imp id fun z => ih.keep c z
      · exact .inr z
    · rcases ih.ent x hx with z | ⟨y, hy, o', ho', q⟩
      · rcases addM_mem z with z | z
        · exact .inl z
        · exact .inr ⟨e, List.mem_singleton.mpr rfl, o, List.mem_cons_self .., z⟩
      · exact .inr ⟨y, hy, o', List.mem_cons_of_mem _ ho', q⟩
    · rcases List.mem_cons.mp ho' with rfl | z
      · rw [List.mem_singleton.mp hx]
        exact ih.mono _ h4
      · exact ih.put x hx o' z
theorem fold_lv {B : Bok} {lots : List (List Str)} {os : List Ord} : ∀ (rows : Kn) (a : Kn × Kn), Lv B lots os rows a (rows.foldl (exM B lots os) a)
  | [], a => ⟨fun _ h => h, fun _ h => .inl h, fun _ h => h, fun _ h => .inl h, fun _ h => by cases h⟩
  | e :: t, a => by
    have h := exM_lv (B := B) (lots := lots) (e := e) os a
    have ih := fold_lv (B := B) (lots := lots) (os := os) t (exM B lots os a e)
    rw [List.foldl_cons]
    refine ⟨fun c hc => ih.mono c (h.mono c hc), fun c hc => ?_, fun c hc => ih.keep c (h.keep c hc), fun x hx => ?_, fun x hx o ho => ?_⟩
    · rcases ih.new c hc with z | z
      · exact (h.new c z).imp id fun z => ih.keep c z
      · exact .inr z
    · rcases ih.ent x hx with z | ⟨y, hy, o, ho, q⟩
      · rcases h.ent x z with z | ⟨y, hy, o, ho, q⟩
        · exact .inl z
        · exact .inr ⟨y, by rw [List.mem_singleton.mp hy]; exact List.mem_cons_self .., o, ho, q⟩
      · exact .inr ⟨y, List.mem_cons_of_mem _ hy, o, ho, q⟩
    · rcases List.mem_cons.mp hx with rfl | z
      · exact ih.mono _ (h.put _ (List.mem_singleton.mpr rfl) o ho)
      · exact ih.put x z o ho
section
variable {B : Bok} {lots : List (List Str)} {most : Int} {c0 : List Std} {w : Wish}
theorem st_succ (i : Nat) : stM B lots most c0 (i + 1) = ((levelM B lots (if (i : Int) < most then orderMs B else []) (stM B lots most c0 i).1 (stM B lots most c0 i).2).2, (levelM B lots (if (i : Int) < most then orderMs B else []) (stM B lots most c0 i).1 (stM B lots most c0 i).2).1) := rfl
theorem st_lv (i : Nat) : Lv B lots (if (i : Int) < most then orderMs B else []) (stM B lots most c0 i).1 ((stM B lots most c0 i).2, []) ((stM B lots most c0 (i + 1)).2, (stM B lots most c0 (i + 1)).1) := fold_lv _ _
theorem run_snoc (os : List Ord) (o : Ord) : runM B c0 (os ++ [o]) lots = comM B (runM B c0 os lots) o lots := by
  unfold runM
  rw [List.foldl_append]; rfl
/-- the rows of turn i -/
theorem st_rows : ∀ i, ∀ e ∈ (stM B lots most c0 i).1, e.2.length = i ∧ (∀ o ∈ e.2, o ∈ orderMs B) ∧ e.1 = runM B c0 e.2 lots
  | 0, e, h => by
    rw [List.mem_singleton.mp h]
    exact ⟨rfl, nofun, rfl⟩
  | i + 1, e, h => by
    rcases (st_lv (B := B) (lots := lots) (most := most) (c0 := c0) i).ent e h with z | ⟨x, hx, o, ho, rfl⟩
    · cases z
    · obtain ⟨h1, h2, h3⟩ := st_rows i x hx
      have ho' : o ∈ orderMs B := by
        split at ho
        · exact ho
        · cases ho
      refine ⟨by simp [h1], fun y hy => ?_, ?_⟩
      · rcases List.mem_append.mp hy with z | z
        · exact h2 y z
        · rw [List.mem_singleton.mp z]; exact ho'
      · show comM B x.1 o lots = runM B c0 (x.2 ++ [o]) lots
        rw [run_snoc, h3]
theorem st_known : ∀ i, ∀ c ∈ ks (stM B lots most c0 i).2, ∃ j, j ≤ i ∧ c ∈ ks (stM B lots most c0 j).1
  | 0, c, h => ⟨0, Nat.le_refl _, h⟩
  | i + 1, c, h => by
    rcases (st_lv (B := B) (lots := lots) (most := most) (c0 := c0) i).new c h with z | z
    · obtain ⟨j, hj, q⟩ := st_known i c z
      exact ⟨j, by omega, q⟩
    · exact ⟨i + 1, Nat.le_refl _, z⟩
theorem st_mono {i : Nat} : ∀ {j : Nat}, i ≤ j → ∀ c ∈ ks (stM B lots most c0 i).2, c ∈ ks (stM B lots most c0 j).2
  | 0, h, c, hc => by
    have : i = 0 := by omega
    subst this; exact hc
  | j + 1, h, c, hc => by
    by_cases q : i = j + 1
    · subst q; exact hc
    · exact (st_lv (B := B) (lots := lots) (most := most) (c0 := c0) j).mono c (st_mono (by omega) c hc)
theorem st_all : ∀ (n : Nat) (os : List Ord), os.length = n → (n : Int) ≤ most → (∀ o ∈ os, o ∈ orderMs B) → runM B c0 os lots ∈ ks (stM B lots most c0 n).2
  | 0, os, h, _, _ => by
    have : os = [] := List.eq_nil_of_length_eq_zero h
    subst this
    exact List.mem_singleton.mpr rfl
  | n + 1, os, h, hm, ho => by
    have hne : os ≠ [] := by intro z; rw [z] at h; cases h
    have hs := (List.dropLast_concat_getLast hne).symm
    have hl : os.dropLast.length = n := by rw [List.length_dropLast, h]; rfl
    have hd : ∀ o ∈ os.dropLast, o ∈ orderMs B := fun o z => ho o (List.dropLast_subset _ z)
    have ih := st_all n os.dropLast hl (by omega) hd
    rw [hs, run_snoc]
    generalize runM B c0 os.dropLast lots = c at *
    obtain ⟨j, hj, hc⟩ := st_known n c ih
    obtain ⟨e, he, rfl⟩ := List.mem_map.mp hc
    have hjm : (j : Int) < most := by omega
    have hp := (st_lv (B := B) (lots := lots) (most := most) (c0 := c0) j).put e he (os.getLast hne) (by rw [if_pos hjm]; exact ho _ (List.getLast_mem hne))
    exact st_mono (by omega) _ hp
theorem hit_none {rows : Kn} (h : hitM w rows = none) : ∀ c ∈ ks rows, allM c w = false := fun c hc => by
  obtain ⟨e, he, rfl⟩ := List.mem_map.mp hc
  unfold hitM at h
  have h' := List.find?_eq_none.mp (Option.map_eq_none_iff.mp h) e he
  simpa using h'
theorem hit_some {rows : Kn} {r : List Ord} (h : hitM w rows = some r) : ∃ e ∈ rows, e.2 = r ∧ allM e.1 w = true := by
  unfold hitM at h
  obtain ⟨e, he, q⟩ := Option.map_eq_some_iff.mp h
  have ha := List.find?_some (p := fun e : List Std × List Ord => allM e.1 w) he
  exact ⟨e, List.mem_of_find?_eq_some he, q, ha⟩
theorem first_at {T : Type} {f : Nat → Option T} {x : T} : ∀ {n : Nat}, (List.range n).findSome? f = some x → ∃ i, i < n ∧ f i = some x ∧ ∀ j, j < i → f j = none
  | 0, h => by cases h
  | n + 1, h => by
    rw [List.range_succ, List.findSome?_append] at h
    cases q : (List.range n).findSome? f with
    | some y =>
      rw [q] at h
      have e : y = x := by simpa using h
      subst e
      obtain ⟨i, h1, h2, h3⟩ := first_at q
      exact ⟨i, by omega, h2, h3⟩
    | none =>
      rw [q] at h
      have h' : f n = some x := by simpa using h
      refine ⟨n, by omega, h', fun j hj => ?_⟩
      exact List.findSome?_eq_none_iff.mp q j (List.mem_range.mpr hj)
theorem miss_below {i : Nat} (hn : ∀ j, j < i → hitM w (stM B lots most c0 j).1 = none) {os : List Ord} (hl : os.length < i) (hm : (os.length : Int) ≤ most) (ho : ∀ o ∈ os, o ∈ orderMs B) : allM (runM B c0 os lots) w = false := by
  obtain ⟨j, hj, hc⟩ := st_known _ _ (st_all (B := B) (lots := lots) (most := most) (c0 := c0) os.length os rfl hm ho)
  exact hit_none (hn j (by omega)) _ hc
/-- none is told -/
theorem best_none (h : bestM B lots most c0 w = none) {os : List Ord} (hm : (os.length : Int) ≤ most) (ho : ∀ o ∈ os, o ∈ orderMs B) : allM (runM B c0 os lots) w = false := by
  unfold bestM at h
  have hn := List.findSome?_eq_none_iff.mp h
  refine miss_below (i := os.length + 1) (fun j hj => hn j (List.mem_range.mpr (by omega))) (by omega) hm ho
/-- a row is told -/
theorem best_some {r : List Ord} (h : bestM B lots most c0 w = some r) : (r.length : Int) ≤ most ∧ (∀ o ∈ r, o ∈ orderMs B) ∧ allM (runM B c0 r lots) w = true ∧ ∀ os : List Ord, os.length < r.length → (∀ o ∈ os, o ∈ orderMs B) → allM (runM B c0 os lots) w = false := by
  unfold bestM at h
  obtain ⟨i, hi, h1, h2⟩ := first_at h
  obtain ⟨e, he, rfl, ha⟩ := hit_some h1
  obtain ⟨g1, g2, g3⟩ := st_rows i e he
  refine ⟨by omega, g2, by rw [← g3]; exact ha, fun os hl ho => miss_below h2 (by omega) (by omega) ho⟩
theorem lv_rows : ∀ k, ∀ c ∈ lvM B lots c0 k, ∃ os : List Ord, os.length = k ∧ (∀ o ∈ os, o ∈ orderMs B) ∧ c = runM B c0 os lots
  | 0, c, h => ⟨[], rfl, nofun, List.mem_singleton.mp h⟩
  | k + 1, c, h => by
    obtain ⟨x, hx, o, ho, rfl⟩ := mem_lv.mp h
    obtain ⟨os, h1, h2, rfl⟩ := lv_rows k x hx
    exact ⟨os ++ [o], by simp [h1], fun y hy => by
      rcases List.mem_append.mp hy with z | z
      · exact h2 y z
      · rw [List.mem_singleton.mp z]; exact ho, (run_snoc os o).symm⟩
theorem lv_miss (h : bestM B lots most c0 w = none) (m0 : 0 ≤ most) : ∀ k, k ≤ most.toNat → ∀ c ∈ lvM B lots c0 k, allM c w = false := fun k hk c hc => by
  obtain ⟨os, h1, h2, rfl⟩ := lv_rows k c hc
  exact best_none h (by omega) h2
end
theorem allM_congr {a b : List Std} {w : Wish} (h : ∀ s, s ∈ a ↔ s ∈ b) : allM a w = allM b w := by
  unfold allM
  rw [Bool.eq_iff_iff, List.all_eq_true, List.all_eq_true]
  exact ⟨fun k s hs => k s ((h s).mpr hs), fun k s hs => k s ((h s).mp hs)⟩
theorem run_mem {B : Bok} {lots lots' : List (List Str)} (hl : ∀ l, l ∈ lots ↔ l ∈ lots') : ∀ {os : List Ord} {a b : List Std}, (∀ s, s ∈ a ↔ s ∈ b) → ∀ s, s ∈ runL B a os lots ↔ s ∈ runM B b os lots'
  | [], a, b, h, s => h s
  | o :: os, a, b, h, s => by
    have e1 : runL B a (o :: os) lots = runL B (comesL B a o lots) os lots := rfl
    have e2 : runM B b (o :: os) lots' = runM B (comM B b o lots') os lots' := rfl
    rw [e1, e2]
    refine run_mem hl (fun t => ?_) s
    rw [comes_mem, mem_com]
    constructor
    · rintro ⟨x, hx, l, hl2, rfl⟩
      exact ⟨x, (h x).mp hx, l, (hl l).mp hl2, rfl⟩
    · rintro ⟨x, hx, l, hl2, rfl⟩
      exact ⟨x, (h x).mpr hx, l, (hl l).mpr hl2, rfl⟩
theorem runM_mem {B : Bok} {lots : List (List Str)} : ∀ {os : List Ord} {a b : List Std}, (∀ s, s ∈ a ↔ s ∈ b) → ∀ s, s ∈ runM B a os lots ↔ s ∈ runM B b os lots
  | [], a, b, h, s => h s
  | o :: os, a, b, h, s => by
    have e1 : runM B a (o :: os) lots = runM B (comM B a o lots) os lots := rfl
    have e2 : runM B b (o :: os) lots = runM B (comM B b o lots) os lots := rfl
    rw [e1, e2]
    refine runM_mem (fun t => ?_) s
    rw [mem_com, mem_com]
    constructor
    · rintro ⟨x, hx, l, hl2, rfl⟩
      exact ⟨x, (h x).mp hx, l, hl2, rfl⟩
    · rintro ⟨x, hx, l, hl2, rfl⟩
      exact ⟨x, (h x).mpr hx, l, hl2, rfl⟩
theorem some_row {B : Bok} {os : List Ord} {w : Wish} {lots : List (List Str)} : ∀ {n : Nat} {cr : List Std}, someL B os w lots n cr = true → ∃ r : List Ord, r.length = n ∧ (∀ o ∈ r, o ∈ os) ∧ allM (runL B cr r lots) w = true
  | 0, cr, h => ⟨[], rfl, nofun, h⟩
  | n + 1, cr, h => by
    obtain ⟨o, ho, h2⟩ := List.any_eq_true.mp h
    obtain ⟨r, h3, h4, h5⟩ := some_row h2
    exact ⟨o :: r, by simp [h3], fun x hx => by
      rcases List.mem_cons.mp hx with rfl | z
      · exact ho
      · exact h4 x z, h5⟩
end Fw
set_option maxHeartbeats 2000000
namespace Fw
open PySem PySem.Spec PyProof.Rows L2 PySem.W
def holds4 : List Str := ["heat", "a", "wheel", "b9"]
def modes3 : List Str := ["safe", "a", "run"]
def cmds3 : List Str := ["go", "a", "burn"]
def als2 : List Str := ["low", "a"]
def rows2 : List Str := ["plan", "a"]
def pHolds (ns : List Int) : List Str := holds4.take (1 + ns.getD 0 0 % 4).toNat
def pModeN (ns : List Int) : List Str := modes3.take (1 + ns.getD 1 0 % 3).toNat
def pEff (ns : List Int) (k : Nat) : Eff := effAt (pHolds ns) (pModeN ns) ns k
def pMd (ns : List Int) (k : Nat) : Md := ⟨(pModeN ns).getD k "", (pEff ns (2 + 3 * k)).on, (pEff ns (2 + 3 * k)).off⟩
def pModes (ns : List Int) : List Md := (List.range (pModeN ns).length).map (pMd ns)
def addB (f : List (List Str)) (l : List Str) : List (List Str) := if 1 < l.length ∧ l ∉ f then f ++ [l] else f
def pLot (ns : List Int) (k : Nat) : List Str := pickM (pHolds ns) (ns.getD (12 + k) 0) []
def pBarTo (ns : List Int) (n : Nat) : List (List Str) := (List.range n).foldl (fun f k => addB f (pLot ns k)) []
def pBarred (ns : List Int) : List (List Str) := pBarTo ns (ns.getD 11 0 % 3).toNat
def pCm (ns : List Int) (k : Nat) : Cm := ⟨cmds3.getD k "", pickM (pModeN ns) (ns.getD (18 + 4 * k) 0) [], (pEff ns (15 + 4 * k)).on, (pEff ns (15 + 4 * k)).off, (pEff ns (15 + 4 * k)).to⟩
def pCmds (ns : List Int) : List Cm := (List.range (ns.getD 14 0 % 4).toNat).map (pCm ns)
def pAl (ns : List Int) (k : Nat) : Al := ⟨als2.getD k "", (pEff ns (28 + 3 * k)).on, (pEff ns (28 + 3 * k)).off, (pEff ns (28 + 3 * k)).to⟩
def pAls (ns : List Int) : List Al := (List.range (ns.getD 27 0 % 3).toNat).map (pAl ns)
def pStep (ns : List Int) (cs : List Cm) (k j : Nat) : Int × Str := (1 + ns.getD (37 + 6 * k + 2 * j) 0 % 3, (cs.getD (ns.getD (38 + 6 * k + 2 * j) 0 % (cs.length : Int)).toNat default).name)
def pStepsTo (ns : List Int) (cs : List Cm) (k n : Nat) : List (Int × Str) := if cs.length = 0 then [] else (List.range n).map (pStep ns cs k)
def pSteps (ns : List Int) (cs : List Cm) (k : Nat) : List (Int × Str) := pStepsTo ns cs k (1 + ns.getD (35 + k) 0 % 3).toNat
def pRwTo (ns : List Int) (cs : List Cm) (n : Nat) : List Rw := if cs.length = 0 then [] else (List.range n).map fun k => ⟨rows2.getD k "", pSteps ns cs k⟩
def pRws (ns : List Int) : List Rw := pRwTo ns (pCmds ns) (ns.getD 34 0 % 3).toNat
def quiets : List (Option Int) := [none, some 1, some 2, some 3, some 4]
def pQuiet (ns : List Int) : Option Int := quiets.getD (ns.getD 49 0 % 5).toNat none
def partsM (ns : List Int) : Bok := ⟨pHolds ns, pModes ns, pBarred ns, pCmds ns, pAls ns, pRws ns, pQuiet ns⟩
theorem pHolds_len (ns : List Int) : (pHolds ns).length ≤ 4 := by unfold pHolds; rw [List.length_take]; exact Nat.min_le_right _ _
theorem pModeN_len (ns : List Int) : (pModeN ns).length ≤ 3 := by unfold pModeN; rw [List.length_take]; exact Nat.min_le_right _ _
theorem pHolds_sub {ns : List Int} {x : Str} (h : x ∈ pHolds ns) : x ∈ holds4 := List.mem_of_mem_take h
theorem pModeN_sub {ns : List Int} {x : Str} (h : x ∈ pModeN ns) : x ∈ modes3 := List.mem_of_mem_take h
/-- picks are names, rising -/
theorem pickF_sub {wo : List Str} : ∀ {xs : List Str} {t : List Str × Int}, (xs.foldl (pickStep wo) t).1.Sublist (t.1 ++ xs)
  | [], t => by rw [List.append_nil]; exact List.Sublist.refl _
  | x :: xs, t => by
    have ih := pickF_sub (wo := wo) (xs := xs) (t := pickStep wo t x)
    rw [List.foldl_cons]
    refine ih.trans ?_
    unfold pickStep
    dsimp only
    split
    · rw [List.append_assoc]; exact List.Sublist.refl _
    · exact List.Sublist.append_left (List.sublist_cons_self _ _) _
theorem pickM_sub (names : List Str) (n : Int) (wo : List Str) : (pickM names n wo).Sublist (names.mergeSort leS) := by
  have := pickF_sub (wo := wo) (xs := names.mergeSort leS) (t := ([], n))
  simpa [pickM] using this
theorem pickM_mem {names : List Str} {n : Int} {wo : List Str} {x : Str} (h : x ∈ pickM names n wo) : x ∈ names := (List.mergeSort_perm _ _).mem_iff.mp ((pickM_sub names n wo).subset h)
theorem pickM_up {names : List Str} (h : names.Nodup) (n : Int) (wo : List Str) : Up (pickM names n wo) := List.Pairwise.sublist (pickM_sub names n wo) (sorted_up h)
theorem pickF_out {wo : List Str} {x : Str} : ∀ {xs : List Str} {t : List Str × Int}, x ∈ (xs.foldl (pickStep wo) t).1 → x ∈ t.1 ∨ x ∉ wo
  | [], t, h => .inl h
  | y :: xs, t, h => by
    rw [List.foldl_cons] at h
    rcases pickF_out h with z | z
    · unfold pickStep at z
      dsimp only at z
      split at z
      · rename_i q
        rcases List.mem_append.mp z with z | z
        · exact .inl z
        · rw [List.mem_singleton.mp z]; exact .inr q.2
      · exact .inl z
    · exact .inr z
theorem pickM_out {names : List Str} {n : Int} {wo : List Str} {x : Str} (h : x ∈ pickM names n wo) : x ∉ wo := (pickF_out h).resolve_left (by simp)
theorem pickM_len (names : List Str) (n : Int) (wo : List Str) : (pickM names n wo).length ≤ names.length := by
  have := (pickM_sub names n wo).length_le
  rwa [List.length_mergeSort] at this
theorem eqv_eL {a b : List Str} : PyData.eqv (eL a) (eL b) = decide (a = b) := by
  have h : ∀ a b : List Str, PyData.eqvAll (a.map .str) (b.map .str) = decide (a = b) := by
    intro a
    induction a with
    | nil => intro b; cases b <;> simp [PyData.eqvAll]
    | cons x xs ih =>
      intro b
      cases b with
      | nil => simp [PyData.eqvAll]
      | cons y ys =>
        rw [List.map_cons, List.map_cons]
        unfold PyData.eqvAll
        rw [ih ys, Bool.eq_iff_iff]
        simp [PyData.eqv]
  show PyData.eqvAll _ _ = _
  exact h a b
theorem any_eL {l : List Str} {xs : List (List Str)} : ((xs.map eL).any fun z => PyData.eqv z (eL l)) = decide (l ∈ xs) := by
  rw [Bool.eq_iff_iff, List.any_eq_true, decide_eq_true_eq]
  constructor
  · rintro ⟨z, hz, e⟩
    obtain ⟨a, ha, rfl⟩ := List.mem_map.mp hz
    rw [eqv_eL, decide_eq_true_eq] at e
    subst e; exact ha
  · intro h
    exact ⟨eL l, List.mem_map.mpr ⟨l, h, rfl⟩, by rw [eqv_eL]; exact decide_eq_true rfl⟩
theorem eL_lay {l : List Str} (h : ∀ x ∈ l, PyData.strOk x = true) : (eL l).canLay0 = true := lay_texts h
theorem eL_depth (l : List Str) : (eL l).depth ≤ 1 := by
  unfold eL PyData.depth
  rw [depth_texts1]; exact Nat.le_refl _
theorem lay_eLs : ∀ {xs : List (List Str)}, (∀ l ∈ xs, ∀ x ∈ l, PyData.strOk x = true) → PyData.canLayAll0 (xs.map eL) = true
  | [], _ => rfl
  | l :: t, h => by
    rw [List.map_cons]
    unfold PyData.canLayAll0
    rw [eL_lay (h l (List.mem_cons_self ..)), lay_eLs fun m hm => h m (List.mem_cons_of_mem _ hm)]
    rfl
theorem depth_eLs : ∀ xs : List (List Str), PyData.depthAll (xs.map eL) ≤ 1
  | [] => Nat.zero_le _
  | l :: t => by
    rw [List.map_cons]
    unfold PyData.depthAll
    exact Nat.max_le.mpr ⟨eL_depth l, depth_eLs t⟩
theorem shp_eL {l : List Str} (h : ∀ x ∈ l, PyData.strOk x = true) : SeqAt.shaped (eL l) = true := shp (eL_lay h) (Nat.le_trans (eL_depth l) (by decide))
theorem shp_eLs {xs : List (List Str)} (h : ∀ l ∈ xs, ∀ x ∈ l, PyData.strOk x = true) : SeqAt.shaped (.list (xs.map eL)) = true := shp (lay_eLs h) (by
  show PyData.depthAll (xs.map eL) + 1 ≤ 64
  have := depth_eLs xs
  omega)
theorem strOk_all : ∀ x ∈ holds4 ++ modes3 ++ cmds3 ++ als2 ++ rows2, PyData.strOk x = true := by decide +kernel
theorem addB_mem {f : List (List Str)} {l x : List Str} (h : x ∈ addB f l) : x ∈ f ∨ (x = l ∧ 1 < l.length) := by
  unfold addB at h
  split at h
  · rename_i q
    rcases List.mem_append.mp h with z | z
    · exact .inl z
    · exact .inr ⟨List.mem_singleton.mp z, q.1⟩
  · exact .inl h
theorem addB_len (f : List (List Str)) (l : List Str) : (addB f l).length ≤ f.length + 1 := by
  unfold addB
  split
  · rw [List.length_append]; exact Nat.le_refl _
  · omega
theorem addB_nodup {f : List (List Str)} {l : List Str} (h : f.Nodup) : (addB f l).Nodup := by
  unfold addB
  split
  · rename_i q
    exact List.nodup_append.mpr ⟨h, List.nodup_cons.mpr ⟨List.not_mem_nil, List.nodup_nil⟩, fun a ha b hb => by
      rw [List.mem_singleton.mp hb]
      intro e
      exact q.2 (e ▸ ha)⟩
  · exact h
theorem pBarTo_succ (ns : List Int) (n : Nat) : pBarTo ns (n + 1) = addB (pBarTo ns n) (pLot ns n) := by
  unfold pBarTo
  rw [List.range_succ, List.foldl_append]; rfl
theorem pBarTo_len (ns : List Int) : ∀ n, (pBarTo ns n).length ≤ n
  | 0 => Nat.le_refl _
  | n + 1 => by rw [pBarTo_succ]; exact Nat.le_trans (addB_len _ _) (Nat.succ_le_succ (pBarTo_len ns n))
theorem pBarTo_mem {ns : List Int} : ∀ {n : Nat}, ∀ l ∈ pBarTo ns n, 1 < l.length ∧ ∃ k, l = pLot ns k
  | 0, l, h => by cases h
  | n + 1, l, h => by
    rw [pBarTo_succ] at h
    rcases addB_mem h with z | ⟨rfl, z⟩
    · exact pBarTo_mem l z
    · exact ⟨z, n, rfl⟩
theorem pBarTo_nodup (ns : List Int) : ∀ n, (pBarTo ns n).Nodup
  | 0 => List.nodup_nil
  | n + 1 => by rw [pBarTo_succ]; exact addB_nodup (pBarTo_nodup ns n)
theorem range_map_succ {T : Type} (f : Nat → T) (n : Nat) : (List.range (n + 1)).map f = (List.range n).map f ++ [f n] := by rw [List.range_succ, List.map_append]; rfl
end Fw
set_option maxHeartbeats 2000000
namespace Fw
open PySem PySem.Spec PyProof.Rows L2 PySem.W
def allNames : List Str := holds4 ++ modes3 ++ cmds3 ++ als2 ++ rows2
theorem names_ok : ∀ x ∈ allNames, isNameM x = true ∧ x.cps.size ≤ 1000 := by decide +kernel
theorem holds_all {x : Str} (h : x ∈ holds4) : x ∈ allNames := by unfold allNames; simp only [List.mem_append]; exact .inl (.inl (.inl (.inl h)))
theorem modes_all {x : Str} (h : x ∈ modes3) : x ∈ allNames := by unfold allNames; simp only [List.mem_append]; exact .inl (.inl (.inl (.inr h)))
theorem cmds_all {x : Str} (h : x ∈ cmds3) : x ∈ allNames := by unfold allNames; simp only [List.mem_append]; exact .inl (.inl (.inr h))
theorem als_all {x : Str} (h : x ∈ als2) : x ∈ allNames := by unfold allNames; simp only [List.mem_append]; exact .inl (.inr h)
theorem rows_all {x : Str} (h : x ∈ rows2) : x ∈ allNames := by unfold allNames; simp only [List.mem_append]; exact .inr h
theorem short_of {xs : List Str} (hl : xs.length ≤ 1000) (h : ∀ x ∈ xs, x ∈ allNames) : Short xs := ⟨hl, fun x hx => (names_ok x (h x hx)).2⟩
theorem lt_of_le {x y : Str} (h : leS x y = true) (ne : x ≠ y) : ltM x y = true := by
  unfold ltM
  rw [decide_eq_true_eq]
  refine Classical.byContradiction fun z => ne (leS_anti h ?_)
  unfold leS
  rw [decide_eq_true_eq]
  exact z
theorem lot_of {xs : List Str} (u : Up xs) (h : ∀ x ∈ xs, x ∈ allNames) : isLotM xs = true := by
  unfold isLotM
  have h1 : xs.all isNameM = true := List.all_eq_true.mpr fun x hx => (names_ok x (h x hx)).1
  rw [h1]
  show (List.range ((xs.length : Int) - 1).toNat).all _ = true
  rw [List.all_eq_true]
  intro k hk
  have hk' := List.mem_range.mp hk
  have h2 : k + 1 < xs.length := by omega
  have hp := List.pairwise_iff_getElem.mp u k (k + 1) (by omega) h2 (by omega)
  rw [List.getD_eq_getElem?_getD, List.getD_eq_getElem?_getD, List.getElem?_eq_getElem (by omega : k < xs.length), List.getElem?_eq_getElem h2]
  exact lt_of_le hp.1 hp.2
theorem lotOf_of {xs known : List Str} (u : Up xs) (h : ∀ x ∈ xs, x ∈ allNames) (hk : ∀ x ∈ xs, x ∈ known) : isLotOfM xs known = true := by
  unfold isLotOfM
  rw [lot_of u h]
  show xs.all _ = true
  exact List.all_eq_true.mpr fun x hx => decide_eq_true (hk x hx)
theorem range_getD {xs : List Str} {n : Nat} (h : n ≤ xs.length) : ((List.range n).map fun k => xs.getD k "") = xs.take n := by
  apply List.ext_getElem?
  intro i
  by_cases q : i < n
  · rw [List.getElem?_map, List.getElem?_range q, List.getElem?_take_of_lt q, List.getElem?_eq_getElem (by omega)]
    show some (xs.getD i "") = _
    rw [List.getD_eq_getElem?_getD, List.getElem?_eq_getElem (by omega)]; rfl
  · rw [List.getElem?_eq_none (by rw [List.length_map, List.length_range]; omega), List.getElem?_eq_none (by rw [List.length_take]; omega)]
theorem holds4_nd : holds4.Nodup := by decide +kernel
theorem modes3_nd : modes3.Nodup := by decide +kernel
theorem cmds3_nd : cmds3.Nodup := by decide +kernel
theorem als2_nd : als2.Nodup := by decide +kernel
theorem rows2_nd : rows2.Nodup := by decide +kernel
section
variable (ns : List Int)
theorem pHolds_nd : (pHolds ns).Nodup := (List.take_sublist _ _).nodup holds4_nd
theorem pModeN_nd : (pModeN ns).Nodup := (List.take_sublist _ _).nodup modes3_nd
theorem pHolds_pos : 1 ≤ (pHolds ns).length := by
  unfold pHolds
  have : holds4.length = 4 := rfl
  rw [List.length_take, this]; omega
theorem pModeN_pos : 1 ≤ (pModeN ns).length := by
  unfold pModeN
  have : modes3.length = 3 := rfl
  rw [List.length_take, this]; omega
theorem pModes_names : (pModes ns).map (·.name) = pModeN ns := by
  unfold pModes
  rw [List.map_map]
  have : ((fun m : Md => m.name) ∘ pMd ns) = fun k => (pModeN ns).getD k "" := rfl
  rw [this, range_getD (Nat.le_refl _), List.take_length]
theorem pCmds_names : (pCmds ns).map (·.name) = cmds3.take (ns.getD 14 0 % 4).toNat := by
  unfold pCmds
  rw [List.map_map]
  have : ((fun m : Cm => m.name) ∘ pCm ns) = fun k => cmds3.getD k "" := rfl
  rw [this, range_getD]
  show _ ≤ 3
  omega
theorem pAls_names : (pAls ns).map (·.name) = als2.take (ns.getD 27 0 % 3).toNat := by
  unfold pAls
  rw [List.map_map]
  have : ((fun m : Al => m.name) ∘ pAl ns) = fun k => als2.getD k "" := rfl
  rw [this, range_getD]
  show _ ≤ 2
  omega
theorem pRws_names : (pRws ns).map (·.name) = if (pCmds ns).length = 0 then [] else rows2.take (ns.getD 34 0 % 3).toNat := by
  unfold pRws pRwTo
  split
  · rfl
  · rw [List.map_map]
    have : ((fun m : Rw => m.name) ∘ fun k => (⟨rows2.getD k "", pSteps ns (pCmds ns) k⟩ : Rw)) = fun k => rows2.getD k "" := rfl
    rw [this, range_getD]
    show _ ≤ 2
    omega
theorem eff_on (k : Nat) : Up (pEff ns k).on ∧ ∀ x ∈ (pEff ns k).on, x ∈ pHolds ns := ⟨pickM_up (pHolds_nd ns) _ _, fun x hx => pickM_mem hx⟩
theorem eff_off (k : Nat) : Up (pEff ns k).off ∧ ∀ x ∈ (pEff ns k).off, x ∈ pHolds ns := ⟨pickM_up (pHolds_nd ns) _ _, fun x hx => pickM_mem hx⟩
theorem eff_dis (k : Nat) : ∀ x ∈ (pEff ns k).on, x ∉ (pEff ns k).off := fun x hx hy => pickM_out hy hx
theorem eff_to (k : Nat) : ∀ t, (pEff ns k).to = some t → t ∈ pModeN ns := fun t h => by
  have h' : toM (pModeN ns) (ns.getD (k + 2) 0) = some t := h
  unfold toM at h'
  rw [List.getD_eq_getElem?_getD] at h'
  cases q : ((pModeN ns).map some ++ [none, none])[((ns.getD (k + 2) 0) % ((pModeN ns).length + 2 : Int)).toNat]? with
  | none => rw [q] at h'; cases h'
  | some z =>
    rw [q] at h'
    have e : z = some t := h'
    subst e
    rcases List.mem_append.mp (List.mem_of_getElem? q) with z | z
    · obtain ⟨y, hy, e⟩ := List.mem_map.mp z
      cases e; exact hy
    · simp at z
theorem hall {x : Str} (h : x ∈ pHolds ns) : x ∈ allNames := holds_all (pHolds_sub h)
theorem mall {x : Str} (h : x ∈ pModeN ns) : x ∈ allNames := modes_all (pModeN_sub h)
theorem sub_short {xs : List Str} (u : Up xs) (h : ∀ x ∈ xs, x ∈ pHolds ns) : Short xs := short_of (by
  have := len_sub u.nodup h
  have := pHolds_len ns
  omega) fun x hx => hall ns (h x hx)
theorem turned_ok (k : Nat) : areTurnedM (pEff ns k).on (pEff ns k).off (pHolds ns) = true := by
  unfold areTurnedM
  rw [lotOf_of (eff_on ns k).1 (fun x hx => hall ns ((eff_on ns k).2 x hx)) (eff_on ns k).2, lotOf_of (eff_off ns k).1 (fun x hx => hall ns ((eff_off ns k).2 x hx)) (eff_off ns k).2]
  show (!(pEff ns k).on.any _) = true
  rw [Bool.not_eq_true', List.any_eq_false]
  intro x hx
  have := eff_dis ns k x hx
  simpa using this
theorem effect_ok (k : Nat) : isEffectM (pEff ns k).on (pEff ns k).off (pEff ns k).to (pHolds ns) ((pModes ns).map (·.name)) = true := by
  unfold isEffectM
  rw [turned_ok, pModes_names]
  show toOkM _ _ = true
  unfold toOkM
  cases h : (pEff ns k).to with
  | none => rfl
  | some t => exact decide_eq_true (eff_to ns k t h)
theorem steps_of (k : Nat) (hk : 0 < (pCmds ns).length) : 1 ≤ (pSteps ns (pCmds ns) k).length ∧ (pSteps ns (pCmds ns) k).length ≤ 3 ∧ ∀ p ∈ pSteps ns (pCmds ns) k, 1 ≤ p.1 ∧ p.1 ≤ 9 ∧ p.2 ∈ (pCmds ns).map (·.name) := by
  have e : pSteps ns (pCmds ns) k = (List.range (1 + ns.getD (35 + k) 0 % 3).toNat).map (pStep ns (pCmds ns) k) := if_neg (by omega)
  rw [e]
  refine ⟨by rw [List.length_map, List.length_range]; omega, by rw [List.length_map, List.length_range]; omega, fun p hp => ?_⟩
  obtain ⟨j, hj, rfl⟩ := List.mem_map.mp hp
  unfold pStep
  refine ⟨by show 1 ≤ 1 + _; omega, by show 1 + _ ≤ 9; omega, ?_⟩
  have h0 := Int.emod_nonneg (ns.getD (38 + 6 * k + 2 * j) 0) (show ((pCmds ns).length : Int) ≠ 0 by omega)
  have h1 := Int.emod_lt_of_pos (ns.getD (38 + 6 * k + 2 * j) 0) (show 0 < ((pCmds ns).length : Int) by omega)
  refine List.mem_map.mpr ⟨_, ?_, rfl⟩
  rw [List.getD_eq_getElem?_getD, List.getElem?_eq_getElem (by omega)]
  exact List.getElem_mem _
theorem pRws_mem {r : Rw} (h : r ∈ pRws ns) : 0 < (pCmds ns).length ∧ ∃ k, r.steps = pSteps ns (pCmds ns) k := by
  unfold pRws pRwTo at h
  split at h
  · cases h
  · obtain ⟨k, _, rfl⟩ := List.mem_map.mp h
    exact ⟨by omega, k, rfl⟩
theorem take_nd {xs : List Str} (h : xs.Nodup) (n : Nat) : (xs.take n).Nodup := (List.take_sublist _ _).nodup h
theorem rws_len : (pRws ns).length ≤ 2 := by
  have := congrArg List.length (pRws_names ns)
  rw [List.length_map] at this
  rw [this]
  split
  · exact Nat.zero_le _
  · rw [List.length_take]; exact Nat.min_le_right _ _
theorem cmds_len3 : (pCmds ns).length ≤ 3 := by unfold pCmds; rw [List.length_map, List.length_range]; omega
theorem als_len2 : (pAls ns).length ≤ 2 := by unfold pAls; rw [List.length_map, List.length_range]; omega
theorem rws_nd : ((pRws ns).map (·.name)).Nodup := by
  rw [pRws_names]
  split
  · exact List.nodup_nil
  · exact take_nd rows2_nd _
theorem rws_all {x : Str} (h : x ∈ (pRws ns).map (·.name)) : x ∈ allNames := by
  rw [pRws_names] at h
  split at h
  · cases h
  · exact rows_all (List.mem_of_mem_take h)
theorem cms_all {x : Str} (h : x ∈ (pCmds ns).map (·.name)) : x ∈ allNames := by
  rw [pCmds_names] at h
  exact cmds_all (List.mem_of_mem_take h)
theorem parts_VB : VB (partsM ns) where
  hn := pHolds_nd ns
  hl := Nat.le_trans (pHolds_len ns) (by decide)
  mn := by show ((pModes ns).map (·.name)).Nodup; rw [pModes_names]; exact pModeN_nd ns
  ml := by show (pModes ns).length ≤ 5; unfold pModes; rw [List.length_map, List.length_range]; have := pModeN_len ns; omega
  m0 := by
    intro h
    have h' : pModes ns = [] := h
    have := congrArg List.length (pModes_names ns)
    rw [h'] at this
    have h2 := pModeN_pos ns
    simp at this
    omega
  md := fun m hm => by
    obtain ⟨k, _, rfl⟩ := List.mem_map.mp (show m ∈ (List.range (pModeN ns).length).map (pMd ns) from hm)
    exact ⟨⟨(eff_on ns _).1, (eff_on ns _).2⟩, ⟨(eff_off ns _).1, (eff_off ns _).2⟩⟩
  cn := by show ((pCmds ns).map (·.name)).Nodup; rw [pCmds_names]; exact take_nd cmds3_nd _
  cl := Nat.le_trans (cmds_len3 ns) (by decide)
  cm := fun c hc => by
    obtain ⟨k, _, rfl⟩ := List.mem_map.mp (show c ∈ (List.range (ns.getD 14 0 % 4).toNat).map (pCm ns) from hc)
    exact ⟨⟨(eff_on ns _).1, (eff_on ns _).2⟩, ⟨(eff_off ns _).1, (eff_off ns _).2⟩, fun t h => by
      show t ∈ (pModes ns).map (·.name)
      rw [pModes_names]; exact eff_to ns _ t h⟩
  an := by show ((pAls ns).map (·.name)).Nodup; rw [pAls_names]; exact take_nd als2_nd _
  al := Nat.le_trans (als_len2 ns) (by decide)
  am := fun c hc => by
    obtain ⟨k, _, rfl⟩ := List.mem_map.mp (show c ∈ (List.range (ns.getD 27 0 % 3).toNat).map (pAl ns) from hc)
    exact ⟨⟨(eff_on ns _).1, (eff_on ns _).2⟩, ⟨(eff_off ns _).1, (eff_off ns _).2⟩, fun t h => by
      show t ∈ (pModes ns).map (·.name)
      rw [pModes_names]; exact eff_to ns _ t h⟩
  rn := rws_nd ns
  rl := Nat.le_trans (rws_len ns) (by decide)
  rm := fun r hr => by
    obtain ⟨h0, k, e⟩ := pRws_mem ns hr
    obtain ⟨h1, h2, h3⟩ := steps_of ns k h0
    rw [e]
    exact ⟨List.length_pos_iff.mp h1, Nat.le_trans h2 (by decide), h3⟩
  so := fun x h => strOk_all x (by
    show x ∈ allNames
    rcases h with (h | h) | (h | h)
    · exact hall ns h
    · have h' : x ∈ (pModes ns).map (·.name) := h
      rw [pModes_names] at h'
      exact mall ns h'
    · exact cms_all ns h
    · exact rws_all ns h)
theorem nm_ok {x : Str} (h : x ∈ allNames) : isNameM x = true := (names_ok x h).1
theorem parts_VC : VC (partsM ns) where
  ho := by
    have h := pHolds_pos ns
    have h2 := pHolds_len ns
    exact ⟨short_of (show (pHolds ns).length ≤ 1000 by omega) (fun x hx => hall ns hx), fun x hx => nm_ok (hall ns hx), pHolds_nd ns, show (1 : Int) ≤ ((pHolds ns).length : Int) by omega, show ((pHolds ns).length : Int) ≤ 6 by omega⟩
  mo := by
    show Names ((pModes ns).map (·.name)) 1 5
    have h := pModeN_pos ns
    have h2 := pModeN_len ns
    rw [pModes_names]
    exact ⟨short_of (by omega) (fun x hx => mall ns hx), fun x hx => nm_ok (mall ns hx), pModeN_nd ns, by omega, by omega⟩
  co := by
    show Names ((pCmds ns).map (·.name)) 0 8
    have h2 := cmds_len3 ns
    refine ⟨short_of (by rw [List.length_map]; omega) (fun x hx => cms_all ns hx), fun x hx => nm_ok (cms_all ns hx), by rw [pCmds_names]; exact take_nd cmds3_nd _, by omega, by rw [List.length_map]; omega⟩
  al := by
    show Names ((pAls ns).map (·.name)) 0 4
    have h2 := als_len2 ns
    have ha : ∀ x ∈ (pAls ns).map (·.name), x ∈ allNames := fun x hx => by
      rw [pAls_names] at hx
      exact als_all (List.mem_of_mem_take hx)
    refine ⟨short_of (by rw [List.length_map]; omega) ha, fun x hx => nm_ok (ha x hx), by rw [pAls_names]; exact take_nd als2_nd _, by omega, by rw [List.length_map]; omega⟩
  ro := by
    show Names ((pRws ns).map (·.name)) 0 3
    have h2 := rws_len ns
    refine ⟨short_of (by rw [List.length_map]; omega) (fun x hx => rws_all ns hx), fun x hx => nm_ok (rws_all ns hx), rws_nd ns, by omega, by rw [List.length_map]; omega⟩
  md := fun m hm => by
    obtain ⟨k, _, rfl⟩ := List.mem_map.mp (show m ∈ (List.range (pModeN ns).length).map (pMd ns) from hm)
    exact ⟨sub_short ns (eff_on ns _).1 (eff_on ns _).2, sub_short ns (eff_off ns _).1 (eff_off ns _).2, turned_ok ns _⟩
  bn := by
    show (pBarTo ns _).length ≤ 3
    have := pBarTo_len ns (ns.getD 11 0 % 3).toNat
    omega
  bd := pBarTo_nodup ns _
  bv := fun l hl => by
    obtain ⟨h1, k, rfl⟩ := pBarTo_mem l (show l ∈ pBarTo ns _ from hl)
    have u : Up (pLot ns k) := pickM_up (pHolds_nd ns) _ _
    have hs : ∀ x ∈ pLot ns k, x ∈ pHolds ns := fun x hx => pickM_mem hx
    exact ⟨sub_short ns u hs, h1, lotOf_of u (fun x hx => hall ns (hs x hx)) hs⟩
  cm := fun c hc => by
    obtain ⟨k, _, rfl⟩ := List.mem_map.mp (show c ∈ (List.range (ns.getD 14 0 % 4).toNat).map (pCm ns) from hc)
    have u : Up (pickM (pModeN ns) (ns.getD (18 + 4 * k) 0) []) := pickM_up (pModeN_nd ns) _ _
    have hs : ∀ x ∈ pickM (pModeN ns) (ns.getD (18 + 4 * k) 0) [], x ∈ pModeN ns := fun x hx => pickM_mem hx
    refine ⟨short_of ?_ fun x hx => mall ns (hs x hx), sub_short ns (eff_on ns _).1 (eff_on ns _).2, sub_short ns (eff_off ns _).1 (eff_off ns _).2, ?_, effect_ok ns _⟩
    · have h1 := len_sub u.nodup hs
      have h2 := pModeN_len ns
      show (pickM (pModeN ns) (ns.getD (18 + 4 * k) 0) []).length ≤ 1000
      omega
    · show isLotOfM (pickM (pModeN ns) (ns.getD (18 + 4 * k) 0) []) ((pModes ns).map (·.name)) = true
      rw [pModes_names]
      exact lotOf_of u (fun x hx => mall ns (hs x hx)) hs
  am := fun c hc => by
    obtain ⟨k, _, rfl⟩ := List.mem_map.mp (show c ∈ (List.range (ns.getD 27 0 % 3).toNat).map (pAl ns) from hc)
    exact ⟨sub_short ns (eff_on ns _).1 (eff_on ns _).2, sub_short ns (eff_off ns _).1 (eff_off ns _).2, effect_ok ns _⟩
  rm := fun r hr => by
    obtain ⟨h0, k, e⟩ := pRws_mem ns hr
    obtain ⟨h1, h2, h3⟩ := steps_of ns k h0
    rw [e]
    refine ⟨h1, by omega, fun p hp => ?_⟩
    obtain ⟨p1, p2, p3⟩ := h3 p hp
    unfold isStepM
    rw [decide_eq_true p1, decide_eq_true p2]
    exact decide_eq_true p3
  qu := fun q h => by
    have h' : quiets.getD (ns.getD 49 0 % 5).toNat none = some q := h
    have hq0 := Int.emod_nonneg (ns.getD 49 0) (show (5 : Int) ≠ 0 by decide)
    have hq1 := Int.emod_lt_of_pos (ns.getD 49 0) (show (0 : Int) < 5 by decide)
    generalize ns.getD 49 0 % 5 = z at *
    have hc : z = 0 ∨ z = 1 ∨ z = 2 ∨ z = 3 ∨ z = 4 := by omega
    rcases hc with rfl | rfl | rfl | rfl | rfl <;> simp [quiets] at h' <;> omega
theorem parts_orders : (orderMs (partsM ns)).length ≤ 7 := by
  rw [orderMs_eq]
  have h1 : (partsM ns).commands.length ≤ 3 := cmds_len3 ns
  have h2 : (partsM ns).rows.length ≤ 2 := rws_len ns
  simp [sortS_eq]
  omega
end
theorem up_sort {xs : List Str} (h : Up xs) : xs.mergeSort leS = xs := up_unique (sorted_up h.nodup) h fun x => (List.mergeSort_perm _ _).mem_iff
theorem mem_sortT {l : List Str} {xs : List (List Str)} : l ∈ FwC.sortT xs ↔ l ∈ xs := (List.mergeSort_perm _ _).mem_iff
theorem lots_mem {names : List Str} (u : Up names) (h : names.length ≤ 2) (l : List Str) : l ∈ lotsL names ↔ l ∈ lotsM names := by
  unfold lotsM lotsTo
  rw [up_sort u]
  match names, h with
  | [], _ => simp [lotsL, FwC.combosM, FwC.picks, mem_sortT, List.range_succ]
  | [x], _ => simp [lotsL, FwC.combosM, FwC.picks, mem_sortT, List.range_succ]
  | [x, y], _ => simp [lotsL, FwC.combosM, FwC.picks, mem_sortT, List.range_succ, or_assoc]
end Fw
set_option maxHeartbeats 4000000
namespace Fw
open PySem PySem.Spec PyProof.Rows L2 PySem.W
/-- the slots of the law's parts -/
def ptS (ns : List Int) (s4 s5 s6 s7 s8 s9 s10 s11 s12 s13 s14 s15 s16 : Sl) : List Sl :=
  [.va (.d (.list (ns.map .int))), .va (.d (.int 0)), .va (.d (.list ((pHolds ns).map .str))), .va (.d (.list ((pModeN ns).map .str))), s4, s5, s6, s7, s8, s9, s10, s11, s12, s13, s14, s15, s16]
theorem strs_at {xs : List Str} {k : Nat} (h : k < xs.length) : (xs.map PyData.str)[k]? = some (.str (xs.getD k "")) := by
  rw [List.getElem?_map, List.getD_eq_getElem?_getD, List.getElem?_eq_getElem h]; rfl
section
variable {P : Program} {w0 : World} {K : PySem.W.Frag} {mg : Str → Option Value} {base : Heap} {CT CG CS CB : Addr}
def cParts (ars : List Ar) (q : Ar) : Prop := ∃ ns : List Int, 60 ≤ ns.length ∧ ars = [.d (.list (ns.map .int)), .d (.int 0)] ∧ q = .d (eParts (partsM ns))
theorem ok__law_parts (T : DefAt K mg "_law_parts" sF__law_parts) (B0 : Bt mg) (O1 : Okd P w0 K mg base 1 "_law_pick" ["_law_names", "_law_number", "_law_without"] cPick) (O2 : Okd P w0 K mg base 2 "_law_effect" ["_law_holds", "_law_modes", "_law_numbers_here", "_law_at"] cEffect) : Okd P w0 K mg base 3 "_law_parts" ["_law_numbers_here", "_law_at"] cParts := by
  refine okd_mk T scF__law_parts (fun _ _ _ _ _ _ us hl => match us, hl with | [_, _], _ => rfl) (fun ars q ⟨_, _, e, _⟩ => by rw [e]; rfl) (by decide) fun ars q cc f cdv A outer s H E hr => ?_
  obtain ⟨ns, hz, rfl, rfl⟩ := cc
  have nd := scF__law_parts.nd
  have r1 := hr.mono (show 1 ≤ 2 by decide)
  have at_ : ∀ (k : Nat) (z : Int), z = (k : Int) → k < ns.length → atI (ns.map PyData.int) z = some (.int (ns.getD k 0)) := fun k z e h => by
    subst e; exact ati_nn (Int.natCast_nonneg _) (nums_at h)
  have lh := pHolds_len ns
  have lm := pModeN_len ns
  have eff : ∀ k : Nat, k + 2 < ns.length → cEffect [.d (.list ((pHolds ns).map .str)), .d (.list ((pModeN ns).map .str)), .d (.list (ns.map .int)), .d (.int (k : Int))] (.d (eEf (pEff ns k))) := fun k hk => ⟨pHolds ns, pModeN ns, ns, k, by omega, by omega, hk, rfl, rfl⟩
  refine sd_cons (sd_set 2 nd (PD.is (r' := .d (.list ((pHolds ns).map .str))) (pd_slto (pd_lst (pds_cons pd_str (pds_cons pd_str (pds_cons pd_str (pds_cons pd_str pds_nil))))) (pd_add pd_int (pd_mod (pd_inti B0 (pd_ixl (pd_var 0) (pd_var 1) (at_ 0 _ rfl (by omega)))) pd_int (by decide))) (by omega)) (by unfold pHolds; rw [List.map_take]; rfl)) ?_)
  refine sd_cons (sd_set 3 nd (PD.is (r' := .d (.list ((pModeN ns).map .str))) (pd_slto (pd_lst (pds_cons pd_str (pds_cons pd_str (pds_cons pd_str pds_nil)))) (pd_add pd_int (pd_mod (pd_inti B0 (pd_ixl (pd_var 0) (pd_add (pd_var 1) pd_int) (at_ 1 _ rfl (by omega)))) pd_int (by decide))) (by omega)) (by unfold pModeN; rw [List.map_take]; rfl)) ?_)
  -- the modes
  refine sd_cons (sd_own 4 nd (pf_lst pds_nil) ?_)
  refine sd_cons (sd_range B0 (fun i δ => δ = ptS ns (.ow (oLst (((List.range i).map (pMd ns)).map eMd))) .no .no .no .no .no .no .no .no .no .no .no .no) (pd_len B0 (pd_var 3) rfl) (by rw [List.length_map]; omega) (by rw [List.length_map]; omega) rfl (fun i δ1 hi hδ => ?_) (fun δ1 hδ => ?_) PassesOwn.never rfl)
  · subst hδ
    rw [List.length_map] at hi
    have hi' : i < (pModeN ns).length := by omega
    refine ⟨_, _, gd_name 5 nd, ?_⟩
    refine sd_cons (sd_asg (r := .d (.tuple [eL (pEff ns (2 + 3 * i)).on, eL (pEff ns (2 + 3 * i)).off, eO (pEff ns (2 + 3 * i)).to])) (pd_call O2 hr (pad_cons (pd_var 2) (pad_cons (pd_var 3) (pad_cons (pd_var 0) (pad_cons (PD.is (r' := .d (.int ((2 + 3 * i : Nat) : Int))) (pd_add (pd_add (pd_var 1) pd_int) (pd_mul pd_int (pd_var 5) (.inl ⟨by decide, by decide⟩))) (congrArg (fun z : Int => Ar.d (.int z)) (by omega))) pad_nil)))) (eff (2 + 3 * i) (by omega))) (gd_tup rfl (gds_cons (gd_name 6 nd) (gds_cons (gd_name 7 nd) (gds_cons (gd_name 8 nd) gds_nil)))) ?_)
    refine sd_cons (sd_apnd 4 rfl (pd_tup (pds_cons (pd_ixl (pd_var 3) (pd_var 5) (ati_nn (Int.natCast_nonneg _) (by rw [Int.toNat_natCast]; exact strs_at hi'))) (pds_cons (pd_var 6) (pds_cons (pd_var 7) pds_nil)))) (by rw [List.length_map, List.length_map, List.length_range]; omega) (sd_drop 5 (sd_drop 6 (sd_drop 7 (sd_drop 8 (sd_nil ?_))))))
    rw [range_map_succ, List.map_append]; rfl
  subst hδ
  rw [List.length_map]
  have em : ((List.range ((pModeN ns).length : Int).toNat).map (pMd ns)) = pModes ns := rfl
  rw [em]
  refine sd_frz 4 rfl ?_
  -- the barred lots
  refine sd_cons (sd_own 9 nd (pf_lst pds_nil) ?_)
  have hok : ∀ k, ∀ x ∈ pLot ns k, PyData.strOk x = true := fun k x hx => strOk_all x (by
    simp only [List.mem_append]
    exact .inl (.inl (.inl (.inl (pHolds_sub (pickM_mem hx))))))
  refine sd_cons (sd_range B0 (n := ns.getD 11 0 % 3) (fun i δ => δ = ptS ns (.va (.d (.list ((pModes ns).map eMd)))) .no .no .no .no (.ow (oLst ((pBarTo ns i).map eL))) .no .no .no .no .no .no .no) (pd_mod (pd_inti B0 (pd_ixl (pd_var 0) (pd_add (pd_var 1) pd_int) (at_ 11 _ rfl (by omega)))) pd_int (by decide)) (by omega) (by omega) rfl (fun i δ1 hi hδ => ?_) (fun δ1 hδ => ?_) PassesOwn.never rfl)
  · subst hδ
    have hi3 : i < 3 := by omega
    have hbl := pBarTo_len ns i
    have hbm := pBarTo_mem (ns := ns) (n := i)
    rw [pBarTo_succ]
    have hlot := hok i
    have hbok : ∀ l ∈ pBarTo ns i, ∀ x ∈ l, PyData.strOk x = true := fun l hl => by
      obtain ⟨_, k, rfl⟩ := hbm l hl
      exact hok k
    have hpl : pickM (pHolds ns) (ns.getD (12 + i) 0) [] = pLot ns i := rfl
    refine ⟨_, _, gd_name 5 nd, ?_⟩
    refine sd_cons (sd_set 10 nd (r := .d (eL (pLot ns i))) (pd_call O1 r1 (pad_cons (pd_var 2) (pad_cons (pd_ixl (pd_var 0) (pd_add (pd_add (pd_var 1) pd_int) (pd_var 5)) (at_ (12 + i) _ (by omega) (by omega))) (pad_cons (pd_tup pds_nil) pad_nil))) ⟨pHolds ns, _, ns.getD (12 + i) 0, [], rfl, by omega, rfl, rfl⟩) ?_)
    generalize pLot ns i = lot at *
    generalize pBarTo ns i = bs at *
    refine sd_cons (sd_if (q := decide ((1 : Int) < (lot.length : Int)) && !decide (lot ∈ bs)) (PWD.ptd (pwd_and ((ptd_gt (pd_len B0 (pd_var 10) rfl) pd_int).is (by rw [List.length_map])) fun _ => pwd_and1 (ptd_own 9 rfl ((ptd_notind (units65 hr) (pd_var 10) (pd_var 9) (shp_eL hlot) (shp_eLs hbok)).is (by rw [any_eL])) rfl))) (fun h => ?_) fun h => sd_nil ?_)
    · have h' : (1 : Int) < (lot.length : Int) ∧ lot ∉ bs := by simpa using h
      have e : addB bs lot = bs ++ [lot] := if_pos ⟨by omega, h'.2⟩
      rw [e]
      refine sd_one (sd_apnd 9 rfl (pd_var 10) (by rw [List.length_map]; omega) (sd_drop 5 (sd_drop 10 (sd_nil ?_))))
      rw [List.map_append]; rfl
    · have h' : ¬ (1 < lot.length ∧ lot ∉ bs) := fun z => by
        have : (1 : Int) < (lot.length : Int) := by omega
        simp [z.2, this] at h
      have e : addB bs lot = bs := if_neg h'
      rw [e]
      exact sd_drop 5 (sd_drop 10 (sd_nil rfl))
  subst hδ
  have eb : pBarTo ns (ns.getD 11 0 % 3).toNat = pBarred ns := rfl
  rw [eb]
  refine sd_frz 9 rfl ?_
  -- the commands
  refine sd_cons (sd_own 11 nd (pf_lst pds_nil) ?_)
  refine sd_cons (sd_range B0 (n := ns.getD 14 0 % 4) (fun i δ => δ = ptS ns (.va (.d (.list ((pModes ns).map eMd)))) .no .no .no .no (.va (.d (.list ((pBarred ns).map eL)))) .no (.ow (oLst (((List.range i).map (pCm ns)).map eCm))) .no .no .no .no .no) (pd_mod (pd_inti B0 (pd_ixl (pd_var 0) (pd_add (pd_var 1) pd_int) (at_ 14 _ rfl (by omega)))) pd_int (by decide)) (by omega) (by omega) rfl (fun i δ1 hi hδ => ?_) (fun δ1 hδ => ?_) PassesOwn.never rfl)
  · subst hδ
    have hi3 : i < 3 := by omega
    refine ⟨_, _, gd_name 5 nd, ?_⟩
    refine sd_cons (sd_asg (r := .d (.tuple [eL (pEff ns (15 + 4 * i)).on, eL (pEff ns (15 + 4 * i)).off, eO (pEff ns (15 + 4 * i)).to])) (pd_call O2 hr (pad_cons (pd_var 2) (pad_cons (pd_var 3) (pad_cons (pd_var 0) (pad_cons (PD.is (r' := .d (.int ((15 + 4 * i : Nat) : Int))) (pd_add (pd_add (pd_var 1) pd_int) (pd_mul pd_int (pd_var 5) (.inl ⟨by decide, by decide⟩))) (congrArg (fun z : Int => Ar.d (.int z)) (by omega))) pad_nil)))) (eff (15 + 4 * i) (by omega))) (gd_tup rfl (gds_cons (gd_name 6 nd) (gds_cons (gd_name 7 nd) (gds_cons (gd_name 8 nd) gds_nil)))) ?_)
    refine sd_cons (sd_apnd 11 rfl (pd_tup (pds_cons (pd_ixl (pd_lst (ds := cmds3.map .str) (pds_cons pd_str (pds_cons pd_str (pds_cons pd_str pds_nil)))) (pd_var 5) (ati_nn (Int.natCast_nonneg _) (by rw [Int.toNat_natCast]; exact strs_at (show i < cmds3.length from hi3)))) (pds_cons (pd_call O1 r1 (pad_cons (pd_var 3) (pad_cons (pd_ixl (pd_var 0) (pd_add (pd_add (pd_var 1) pd_int) (pd_mul pd_int (pd_var 5) (.inl ⟨by decide, by decide⟩))) (at_ (18 + 4 * i) _ (by omega) (by omega))) (pad_cons (pd_tup pds_nil) pad_nil))) ⟨pModeN ns, _, ns.getD (18 + 4 * i) 0, [], rfl, by omega, rfl, rfl⟩) (pds_cons (pd_var 6) (pds_cons (pd_var 7) (pds_cons (pd_var 8) pds_nil)))))) (by rw [List.length_map, List.length_map, List.length_range]; omega) (sd_drop 5 (sd_drop 6 (sd_drop 7 (sd_drop 8 (sd_nil ?_))))))
    rw [range_map_succ, List.map_append]; rfl
  subst hδ
  have ec : (List.range (ns.getD 14 0 % 4).toNat).map (pCm ns) = pCmds ns := rfl
  rw [ec]
  refine sd_frz 11 rfl ?_
  -- the alarms
  refine sd_cons (sd_own 12 nd (pf_lst pds_nil) ?_)
  refine sd_cons (sd_range B0 (n := ns.getD 27 0 % 3) (fun i δ => δ = ptS ns (.va (.d (.list ((pModes ns).map eMd)))) .no .no .no .no (.va (.d (.list ((pBarred ns).map eL)))) .no (.va (.d (.list ((pCmds ns).map eCm)))) (.ow (oLst (((List.range i).map (pAl ns)).map eAl))) .no .no .no .no) (pd_mod (pd_inti B0 (pd_ixl (pd_var 0) (pd_add (pd_var 1) pd_int) (at_ 27 _ rfl (by omega)))) pd_int (by decide)) (by omega) (by omega) rfl (fun i δ1 hi hδ => ?_) (fun δ1 hδ => ?_) PassesOwn.never rfl)
  · subst hδ
    have hi3 : i < 2 := by omega
    refine ⟨_, _, gd_name 5 nd, ?_⟩
    refine sd_cons (sd_asg (r := .d (.tuple [eL (pEff ns (28 + 3 * i)).on, eL (pEff ns (28 + 3 * i)).off, eO (pEff ns (28 + 3 * i)).to])) (pd_call O2 hr (pad_cons (pd_var 2) (pad_cons (pd_var 3) (pad_cons (pd_var 0) (pad_cons (PD.is (r' := .d (.int ((28 + 3 * i : Nat) : Int))) (pd_add (pd_add (pd_var 1) pd_int) (pd_mul pd_int (pd_var 5) (.inl ⟨by decide, by decide⟩))) (congrArg (fun z : Int => Ar.d (.int z)) (by omega))) pad_nil)))) (eff (28 + 3 * i) (by omega))) (gd_tup rfl (gds_cons (gd_name 6 nd) (gds_cons (gd_name 7 nd) (gds_cons (gd_name 8 nd) gds_nil)))) ?_)
    refine sd_cons (sd_apnd 12 rfl (pd_tup (pds_cons (pd_ixl (pd_lst (ds := als2.map .str) (pds_cons pd_str (pds_cons pd_str pds_nil))) (pd_var 5) (ati_nn (Int.natCast_nonneg _) (by rw [Int.toNat_natCast]; exact strs_at (show i < als2.length from hi3)))) (pds_cons (pd_var 6) (pds_cons (pd_var 7) (pds_cons (pd_var 8) pds_nil))))) (by rw [List.length_map, List.length_map, List.length_range]; omega) (sd_drop 5 (sd_drop 6 (sd_drop 7 (sd_drop 8 (sd_nil ?_))))))
    rw [range_map_succ, List.map_append]; rfl
  subst hδ
  have ea : (List.range (ns.getD 27 0 % 3).toNat).map (pAl ns) = pAls ns := rfl
  rw [ea]
  refine sd_frz 12 rfl ?_
  -- the rows
  have hres : eParts (partsM ns) = .tuple [.list ((pHolds ns).map .str), .list ((pModes ns).map eMd), .list ((pBarred ns).map FwC.eT), .list ((pCmds ns).map eCm), .list ((pAls ns).map eAl), .list ((pRwTo ns (pCmds ns) (ns.getD 34 0 % 3).toNat).map eRw), eI (pQuiet ns)] := rfl
  rw [hres]
  have lc : (pCmds ns).length ≤ 3 := by unfold pCmds; rw [List.length_map, List.length_range]; omega
  generalize pCmds ns = cs at *
  refine sd_cons (sd_own 13 nd (pf_lst pds_nil) ?_)
  refine sd_cons (sd_range B0 (n := ns.getD 34 0 % 3) (fun i δ => δ = ptS ns (.va (.d (.list ((pModes ns).map eMd)))) .no .no .no .no (.va (.d (.list ((pBarred ns).map eL)))) .no (.va (.d (.list (cs.map eCm)))) (.va (.d (.list ((pAls ns).map eAl)))) (.ow (oLst ((pRwTo ns cs i).map eRw))) .no .no .no) (pd_mod (pd_inti B0 (pd_ixl (pd_var 0) (pd_add (pd_var 1) pd_int) (at_ 34 _ rfl (by omega)))) pd_int (by decide)) (by omega) (by omega) (by unfold pRwTo; split <;> rfl) (fun i δ1 hi hδ => ?_) (fun δ1 hδ => ?_) PassesOwn.never rfl)
  · subst hδ
    have hi3 : i < 2 := by omega
    have hrl : (pRwTo ns cs i).length ≤ 2 := by
      unfold pRwTo
      split
      · exact Nat.zero_le _
      · rw [List.length_map, List.length_range]; omega
    refine ⟨_, _, gd_name 5 nd, ?_⟩
    refine sd_cons (sd_own 14 nd (pf_lst pds_nil) ?_)
    refine sd_cons (sd_range B0 (n := 1 + ns.getD (35 + i) 0 % 3) (fun j δ => δ = ptS ns (.va (.d (.list ((pModes ns).map eMd)))) (.va (.d (.int (i : Int)))) .no .no .no (.va (.d (.list ((pBarred ns).map eL)))) .no (.va (.d (.list (cs.map eCm)))) (.va (.d (.list ((pAls ns).map eAl)))) (.ow (oLst ((pRwTo ns cs i).map eRw))) (.ow (oLst ((pStepsTo ns cs i j).map eSt))) .no .no) (pd_add pd_int (pd_mod (pd_inti B0 (pd_ixl (pd_var 0) (pd_add (pd_add (pd_var 1) pd_int) (pd_var 5)) (at_ (35 + i) _ (by omega) (by omega)))) pd_int (by decide))) (by omega) (by omega) (by unfold pStepsTo; split <;> rfl) (fun j δ1 hj hδ => ?_) (fun δ1 hδ => ?_) PassesOwn.never rfl)
    · subst hδ
      have hj3 : j < 3 := by omega
      refine ⟨_, _, gd_name 15 nd, ?_⟩
      refine sd_cons (sd_if (q := decide ((0 : Int) < (cs.length : Int))) ((ptd_gt (pd_len B0 (pd_var 11) rfl) pd_int).is (by rw [List.length_map])) (fun h => ?_) fun h => sd_nil ?_)
      · have h' := of_decide_eq_true h
        have hne : ¬ cs.length = 0 := by omega
        have e1 : pStepsTo ns cs i j = (List.range j).map (pStep ns cs i) := if_neg hne
        have e2 : pStepsTo ns cs i (j + 1) = (List.range j).map (pStep ns cs i) ++ [pStep ns cs i j] := by unfold pStepsTo; rw [if_neg hne, range_map_succ]
        rw [e1, e2]
        have h0 := Int.emod_nonneg (ns.getD (38 + 6 * i + 2 * j) 0) (show (cs.length : Int) ≠ 0 by omega)
        have h1 := Int.emod_lt_of_pos (ns.getD (38 + 6 * i + 2 * j) 0) (show 0 < (cs.length : Int) by omega)
        have hat0 : ∀ z : Int, 0 ≤ z → z < (cs.length : Int) → (cs.map eCm)[z.toNat]? = some (eCm (cs.getD z.toNat default)) := fun z z0 z1 => by
          rw [List.getElem?_map, List.getD_eq_getElem?_getD, List.getElem?_eq_getElem (by omega)]; rfl
        have hat := hat0 _ h0 h1
        refine sd_one (sd_apnd 14 rfl (pd_tup (pds_cons (pd_add pd_int (pd_mod (pd_inti B0 (pd_ixl (pd_var 0) (pd_add (pd_add (pd_add (pd_var 1) pd_int) (pd_mul pd_int (pd_var 5) (.inl ⟨by decide, by decide⟩))) (pd_mul pd_int (pd_var 15) (.inl ⟨by decide, by decide⟩))) (at_ (37 + 6 * i + 2 * j) _ (by omega) (by omega)))) pd_int (by decide))) (pds_cons (pd_ixt (d := .str (cs.getD (ns.getD (38 + 6 * i + 2 * j) 0 % (cs.length : Int)).toNat default).name) (pd_ixl (pd_var 11) (pd_mod (pd_inti B0 (pd_ixl (pd_var 0) (pd_add (pd_add (pd_add (pd_var 1) pd_int) (pd_mul pd_int (pd_var 5) (.inl ⟨by decide, by decide⟩))) (pd_mul pd_int (pd_var 15) (.inl ⟨by decide, by decide⟩))) (at_ (38 + 6 * i + 2 * j) _ (by omega) (by omega)))) (pd_len B0 (pd_var 11) rfl) (by rw [List.length_map]; omega)) (ati_nn (by rw [List.length_map]; exact h0) (by rw [List.length_map]; exact hat))) pd_int rfl) pds_nil))) (by rw [List.length_map, List.length_map, List.length_range]; omega) (sd_drop 15 (sd_nil ?_)))
        rw [List.map_append]; rfl
      · have h' := of_decide_eq_false h
        have hne : cs.length = 0 := by omega
        have e1 : pStepsTo ns cs i j = [] := if_pos hne
        have e2 : pStepsTo ns cs i (j + 1) = [] := if_pos hne
        rw [e1, e2]
        exact sd_drop 15 (sd_nil rfl)
    subst hδ
    have es : pStepsTo ns cs i (1 + ns.getD (35 + i) 0 % 3).toNat = pSteps ns cs i := rfl
    rw [es]
    refine sd_frz 14 rfl ?_
    refine sd_cons (sd_if (q := decide ((0 : Int) < ((pSteps ns cs i).length : Int))) ((ptd_gt (pd_len B0 (pd_var 14) rfl) pd_int).is (by rw [List.length_map])) (fun h => ?_) fun h => sd_nil ?_)
    · have h' := of_decide_eq_true h
      have hne : ¬ cs.length = 0 := fun z => by
        have : pSteps ns cs i = [] := if_pos z
        rw [this] at h'
        exact absurd h' (by decide)
      have e2 : pRwTo ns cs (i + 1) = pRwTo ns cs i ++ [⟨rows2.getD i "", pSteps ns cs i⟩] := by unfold pRwTo; rw [if_neg hne, if_neg hne, range_map_succ]
      rw [e2]
      refine sd_one (sd_apnd 13 rfl (pd_tup (pds_cons (pd_ixl (pd_lst (ds := rows2.map .str) (pds_cons pd_str (pds_cons pd_str pds_nil))) (pd_var 5) (ati_nn (Int.natCast_nonneg _) (by rw [Int.toNat_natCast]; exact strs_at (show i < rows2.length from hi3)))) (pds_cons (pd_tuple B0 (pd_var 14)) pds_nil))) (by rw [List.length_map]; omega) (sd_drop 5 (sd_drop 14 (sd_nil ?_))))
      rw [List.map_append]; rfl
    · have h' := of_decide_eq_false h
      have hne : cs.length = 0 := Classical.byContradiction fun z => by
        have e : pSteps ns cs i = (List.range (1 + ns.getD (35 + i) 0 % 3).toNat).map (pStep ns cs i) := if_neg z
        rw [e, List.length_map, List.length_range] at h'
        omega
      have e1 : pRwTo ns cs i = [] := if_pos hne
      have e2 : pRwTo ns cs (i + 1) = [] := if_pos hne
      rw [e1, e2]
      exact sd_drop 5 (sd_drop 14 (sd_nil rfl))
  subst hδ
  refine sd_frz 13 rfl ?_
  have hq0 := Int.emod_nonneg (ns.getD 49 0) (show (5 : Int) ≠ 0 by decide)
  have hq1 := Int.emod_lt_of_pos (ns.getD 49 0) (show (0 : Int) < 5 by decide)
  refine sd_cons (sd_set 16 nd (r := .d (eI (pQuiet ns))) (pd_ixl (pd_lst (ds := quiets.map eI) (pds_cons pd_non (pds_cons pd_int (pds_cons pd_int (pds_cons pd_int (pds_cons pd_int pds_nil)))))) (pd_mod (pd_inti B0 (pd_ixl (pd_var 0) (pd_add (pd_var 1) pd_int) (at_ 49 _ rfl (by omega)))) pd_int (by decide)) (ati_nn hq0 ?_)) ?_)
  · unfold pQuiet
    generalize ns.getD 49 0 % 5 = z at *
    rw [List.getElem?_map, List.getD_eq_getElem?_getD, List.getElem?_eq_getElem (show z.toNat < quiets.length by show _ < 5; omega)]
    rfl
  exact sd_one (sd_ret (pd_tup (pds_cons (pd_var 2) (pds_cons (pd_var 4) (pds_cons (pd_var 9) (pds_cons (pd_var 11) (pds_cons (pd_var 12) (pds_cons (pd_var 13) (pds_cons (pd_var 16) pds_nil)))))))) rfl)
end
end Fw
set_option maxHeartbeats 4000000
namespace Fw
open PySem PySem.Spec PyProof.Rows L2 PySem.W
abbrev numbersM (cells : List Int) : List Int := numsM cells 120
def sortC (cr : List Std) : List Std := cr.mergeSort (dataLe false eK)
def ordersL (B : Bok) : List Ord := (([Ord.no] ++ B.commands.map fun c => .doo c.name) ++ B.rows.map fun r => .run r.name) ++ [.stop]
def lNames (B : Bok) (ns : List Int) : List Str := pickM (B.alarms.map (·.name)) (ns.getD 100 0) []
def lOn (B : Bok) (ns : List Int) : List Str := pickM B.holds (ns.getD 101 0) []
def lMode (B : Bok) (ns : List Int) : Option Str := (([none] ++ B.modes.map fun m : Md => some m.name) : List (Option Str)).getD (ns.getD 102 0 % ((B.modes.length : Int) + 1)).toNat none
def lWish (B : Bok) (ns : List Int) : Wish := ⟨lMode B ns, lOn B ns, pickM B.holds (ns.getD 103 0) (lOn B ns)⟩
theorem nums_len (cells : List Int) (many : Nat) : (numsM cells many).length = many := by
  unfold numsM
  dsimp only
  generalize (cells.take 63).flatMap _ = xs
  rw [List.length_take, List.length_append, List.length_replicate]
  omega
theorem mem_sortC {cr : List Std} {s : Std} : s ∈ sortC cr ↔ s ∈ cr := (List.mergeSort_perm _ _).mem_iff
theorem sortC_len (cr : List Std) : (sortC cr).length = cr.length := (List.mergeSort_perm _ _).length_eq
theorem ex_map {T U : Type} {xs : List T} {g : T → Str} {h : Str → U} {o : U} : (∃ a, (∃ m, m ∈ xs ∧ g m = a) ∧ h a = o) ↔ ∃ m, m ∈ xs ∧ h (g m) = o :=
  ⟨fun ⟨_, ⟨m, hm, e⟩, q⟩ => ⟨m, hm, by rw [e]; exact q⟩, fun ⟨m, hm, q⟩ => ⟨g m, ⟨m, hm, rfl⟩, q⟩⟩
theorem mem_ordersL {B : Bok} {o : Ord} : o ∈ ordersL B ↔ o ∈ orderMs B := by
  rw [orderMs_eq]
  unfold ordersL
  have h1 : ∀ x, x ∈ sortS (B.commands.map (·.name)) ↔ x ∈ B.commands.map (·.name) := fun x => by rw [sortS_eq]; exact (List.mergeSort_perm _ _).mem_iff
  have h2 : ∀ x, x ∈ sortS (B.rows.map (·.name)) ↔ x ∈ B.rows.map (·.name) := fun x => by rw [sortS_eq]; exact (List.mergeSort_perm _ _).mem_iff
  simp only [List.mem_append, List.mem_map, h1, h2, ex_map]
theorem lNames_ok {B : Bok} (V : VB B) (h2 : B.alarms.length ≤ 2) (ns : List Int) : Up (lNames B ns) ∧ (lNames B ns).length ≤ 2 :=
  ⟨pickM_up V.an _ _, Nat.le_trans (pickM_len _ _ _) (by rw [List.length_map]; exact h2)⟩
section
variable {B : Bok} {cr : List Std} {names : List Str} {w : Wish}
theorem same_run (u : Up names) (h : names.length ≤ 2) (os : List Ord) : allM (runL B cr os (lotsL names)) w = allM (runM B (ascM cr) os (lotsM names)) w :=
  allM_congr (run_mem (lots_mem u h) fun s => mem_asc.symm)
theorem same_runM (os : List Ord) : allM (runM B cr os (lotsM names)) w = allM (runM B (ascM cr) os (lotsM names)) w :=
  allM_congr (runM_mem fun s => mem_asc.symm)
theorem some_false (u : Up names) (h : names.length ≤ 2) {n : Nat} (k : ∀ os : List Ord, os.length = n → (∀ o ∈ os, o ∈ orderMs B) → allM (runM B (ascM cr) os (lotsM names)) w = false) : someL B (ordersL B) w (lotsL names) n cr = false := by
  cases q : someL B (ordersL B) w (lotsL names) n cr with
  | false => rfl
  | true =>
    obtain ⟨r, h1, h2, h3⟩ := some_row q
    rw [same_run u h, k r h1 fun o ho => mem_ordersL.mp (h2 o ho)] at h3
    exact h3.symm
end
theorem eqv_eOr {a b : Ord} : PyData.eqv (eOr a) (eOr b) = decide (a = b) := by
  rw [Bool.eq_iff_iff]
  cases a <;> cases b <;> simp [eOr, PyData.eqv, PyData.eqvAll] <;> intro h <;> exact absurd h (by decide)
theorem any_eOr {o : Ord} {xs : List Ord} : ((xs.map eOr).any fun z => PyData.eqv z (eOr o)) = decide (o ∈ xs) := by
  rw [Bool.eq_iff_iff, List.any_eq_true, decide_eq_true_eq]
  constructor
  · rintro ⟨z, hz, e⟩
    obtain ⟨a, ha, rfl⟩ := List.mem_map.mp hz
    rw [eqv_eOr, decide_eq_true_eq] at e
    subst e; exact ha
  · intro h
    exact ⟨eOr o, List.mem_map.mpr ⟨o, h, rfl⟩, by rw [eqv_eOr]; exact decide_eq_true rfl⟩
theorem lay_eOr {B : Bok} (V : VB B) {o : Ord} (vo : VO B o) : (eOr o).canLay0 = true := by
  have h1 : PyData.strOk "do" = true := by decide +kernel
  have h2 : PyData.strOk "run" = true := by decide +kernel
  have h3 : PyData.strOk "stop" = true := by decide +kernel
  cases o with
  | no => rfl
  | doo x => show (PyData.strOk "do" && (PyData.strOk x && true)) = true; rw [h1, V.so x (.inr (.inl vo))]; rfl
  | run x => show (PyData.strOk "run" && (PyData.strOk x && true)) = true; rw [h2, V.so x (.inr (.inr vo))]; rfl
  | stop => show (PyData.strOk "stop" && true) = true; rw [h3]; rfl
theorem eOr_depth (o : Ord) : (eOr o).depth ≤ 1 := by cases o <;> exact nble rfl
theorem lay_eOrs {B : Bok} (V : VB B) : ∀ {xs : List Ord}, (∀ o ∈ xs, VO B o) → PyData.canLayAll0 (xs.map eOr) = true
  | [], _ => rfl
  | o :: t, h => by
    rw [List.map_cons]
    unfold PyData.canLayAll0
    rw [lay_eOr V (h o (List.mem_cons_self ..)), lay_eOrs V fun m hm => h m (List.mem_cons_of_mem _ hm)]
    rfl
theorem depth_eOrs : ∀ xs : List Ord, PyData.depthAll (xs.map eOr) ≤ 1
  | [] => Nat.zero_le _
  | o :: t => by
    rw [List.map_cons]
    unfold PyData.depthAll
    exact Nat.max_le.mpr ⟨eOr_depth o, depth_eOrs t⟩
theorem shp_eOr {B : Bok} (V : VB B) {o : Ord} (vo : VO B o) : SeqAt.shaped (eOr o) = true := shp (lay_eOr V vo) (Nat.le_trans (eOr_depth o) (by decide))
theorem shp_eOrs {B : Bok} (V : VB B) {xs : List Ord} (h : ∀ o ∈ xs, VO B o) : SeqAt.shaped (.list (xs.map eOr)) = true := shp (lay_eOrs V h) (by
  show PyData.depthAll (xs.map eOr) + 1 ≤ 64
  have := depth_eOrs xs
  omega)
end Fw
set_option maxHeartbeats 4000000
namespace Fw
open PySem PySem.Spec PyProof.Rows L2 PySem.W
section
variable {X : Cx} {a b : Expr} {δ : List Sl} {pos : Pos}
theorem ptd_isnotb {c d : Bool} (ha : PD X a δ (.d (.bool c))) (hb : PD X b δ (.d (.bool d))) : PTD X (.Compare a [.IsNot] [b] pos) δ (!decide (c = d)) :=
  ptd_cmp (ra := .d (.bool c)) (rb := .d (.bool d)) op_notBl (fun x y H G Q gs hx hy k => by cases hx; cases hy; exact ⟨c, d, rfl, rfl, k _ H G (.refl gs) (Dq.bl _)⟩) ha hb (nomark _)
end
section
variable {P : Program} {w0 : World} {K : PySem.W.Frag} {mg : Str → Option Value} {base : Heap} {CT CG CS CB : Addr}
/-- the defs that the law calls -/
structure Lw (P : Program) (w0 : World) (K : PySem.W.Frag) (mg : Str → Option Value) (base : Heap) (CB : Addr) : Prop where
  numbers : Okd P w0 K mg base 2 "_law_numbers" ["_law_script", "_law_many"] (cNumbers K)
  parts : Okd P w0 K mg base 3 "_law_parts" ["_law_numbers_here", "_law_at"] cParts
  made : Okd P w0 K mg base 8 "_law_made" ["_law_parts_here"] (cMade CB)
  crowd : Okd P w0 K mg base 4 "_law_crowd" ["_law_parts_here", "_law_numbers_here", "_law_at"] cCrowd
  key : Okd P w0 K mg base 1 "_law_key" ["_law_state"] cKey
  pick : Okd P w0 K mg base 1 "_law_pick" ["_law_names", "_law_number", "_law_without"] cPick
  best : Okd P w0 K mg base 7 "best_row" ["book", "crowd", "wish", "alarms", "most"] (cBest CB)
  paper : Okd P w0 K mg base 8 "none_paper" ["book", "crowd", "wish", "alarms", "most"] (cPaper CB)
  check : Okd P w0 K mg base 7 "check_none" ["book", "crowd", "wish", "alarms", "paper"] (cCheckNone CB)
  brings : Okd P w0 K mg base 7 "brings" ["book", "crowd", "orders", "wish", "alarms"] (cBrings CB)
  lbrings : Okd P w0 K mg base 5 "_law_brings" ["_law_parts_here", "_law_crowd_here", "_law_row_here", "_law_wish", "_law_lots"] cLBrings
  some : ∀ n, Okd P w0 K mg base (5 + n) "_law_some_row" ["_law_parts_here", "_law_crowd_here", "_law_orders", "_law_many", "_law_wish", "_law_lots"] (cSome n)
def cLaw (K : PySem.W.Frag) (ars : List Ar) (q : Ar) : Prop := ∃ cells : List Int, ars = [.o (rScr K cells)] ∧ q = .d (.bool true)
def lwS (K : PySem.W.Frag) (cells ns : List Int) (CB : Addr) (B : Bok) (s4 s5 s6 s7 s8 s9 s10 s11 s12 : Sl) : List Sl :=
  [.va (.o (rScr K cells)), .va (.d (.list (ns.map .int))), .va (.d (eParts B)), .va (rBook CB B), s4, s5, s6, s7, s8, s9, s10, s11, s12, .no, .no, .no, .no, .no]
theorem sd_same {X : Cx} {sts : List Stmt} {E : DE} {δ : List Sl} (δ' : List Sl) (e : δ = δ') (h : SD X sts δ' E) : SD X sts δ E := by subst e; exact h
theorem law_fn {f : Addr} {fd : FuncData} (F : Fun K "law" "law" sF_law f fd) (B0 : Bt mg) (O : Lw P w0 K mg base CB) : FnOk P w0 K mg base CX0 9 f fd ["_law_script"] (spD (cLaw K)) := by
  refine fn_D F scF_law (fun ars q ⟨_, e, _⟩ => by rw [e]; rfl) (by decide) fun ars q cc cdv A outer s H E hr => ?_
  obtain ⟨cells, rfl, rfl⟩ := cc
  have nd := scF_law.nd
  have hns := nums_len cells 120
  refine sd_cons (sd_set 1 nd (pd_call O.numbers (hr.mono (by decide)) (pad_cons (pd_var 0) (pad_cons pd_int pad_nil)) ⟨cells, 120, by decide, rfl, rfl⟩) ?_)
  generalize numsM cells 120 = ns at *
  have at_ : ∀ (k : Nat) (z : Int), z = (k : Int) → k < ns.length → atI (ns.map PyData.int) z = some (.int (ns.getD k 0)) := fun k z e h => by
    subst e; exact ati_nn (Int.natCast_nonneg _) (nums_at h)
  refine sd_cons (sd_set 2 nd (pd_call O.parts (hr.mono (by decide)) (pad_cons (pd_var 1) (pad_cons pd_int pad_nil)) ⟨ns, by omega, rfl, rfl⟩) ?_)
  have V := parts_VB ns
  have C := parts_VC ns
  have h7 := parts_orders ns
  have ha2 : (partsM ns).alarms.length ≤ 2 := als_len2 ns
  have hmp : 1 ≤ (partsM ns).modes.length := List.length_pos_iff.mpr V.m0
  have hcl := V.cl
  have hrl := V.rl
  have hhl := V.hl
  have hml := V.ml
  generalize partsM ns = B at *
  refine sd_cons (sd_set 3 nd (pd_call O.made (hr.mono (by decide)) (pad_cons (pd_var 2) pad_nil) ⟨B, C, rfl, rfl⟩) ?_)
  have hc3 : (crowdM B ns 80).length ≤ 3 := by
    have := crowdTo_len B ns 80 (1 + ns.getD 80 0 % 3).toNat
    unfold crowdM
    omega
  have hcv : ∀ s ∈ crowdM B ns 80, VS B s := crowdTo_VS V ns 80 _
  refine sd_cons (sd_set 4 nd (r := .d (.list ((sortC (crowdM B ns 80)).map eS))) (PF.pd (rSortK_pd (ts := crowdM B ns 80) (enc := eS) (key := eK) B0 col_seq O.key (hr.mono (by decide)) (pd_call O.crowd (hr.mono (by decide)) (pad_cons (pd_var 2) (pad_cons (pd_var 1) (pad_cons pd_int pad_nil))) ⟨B, ns, 80, V, by omega, rfl, rfl⟩) (fun v H G Q gs a k => ?_) (alike_eK _) (.tuples fun b => ⟨_, _, rfl⟩) fun t ht => ⟨Nat.le_trans (eK_depth t) (by decide), t, rfl, rfl⟩)) ?_)
  · have a' : Dq G v (.list ((crowdM B ns 80).map eS)) := a
    cases a' with
    | lst h1 h2 => exact ⟨_, _, rfl, .inl (SqL.of (gs _ _ h1)), k _ G (.refl _) (.refl gs) h2⟩
  have hc3' : (sortC (crowdM B ns 80)).length ≤ 3 := by rw [sortC_len]; exact hc3
  have hcv' : ∀ s ∈ sortC (crowdM B ns 80), VS B s := fun s hs => hcv s (mem_sortC.mp hs)
  generalize sortC (crowdM B ns 80) = cr at *
  clear hc3 hcv
  refine sd_same (lwS K cells ns CB B (.va (.d (.list (cr.map eS)))) .no .no .no .no .no .no .no .no) rfl ?_
  -- names, lots
  have hnm := lNames_ok V ha2 ns
  refine sd_cons (sd_set 5 nd (r := .d (eL (lNames B ns))) (pd_call O.pick (hr.mono (by decide)) (pad_cons (PD.is (r' := .d (.list ((B.alarms.map (·.name)).map .str))) (PF.pd (pf_lc0 (own := [("_law_part", 13)]) (enc := eAl) (xs := B.alarms) (f := fun r => .str r.name) rfl nd (pd_ixt (pd_var 2) pd_int rfl) rfl (bkF_law (by decide +kernel)) fun x hx => ⟨_, _, fun _ _ _ _ _ => gd_name 13 nd, by decide, fun _ _ _ _ _ => pd_ixt (pd_var 13) pd_int rfl⟩)) (by rw [List.map_map]; rfl)) (pad_cons (pd_ixl (pd_var 1) pd_int (at_ 100 _ rfl (by omega))) (pad_cons (pd_tup pds_nil) pad_nil))) ⟨B.alarms.map (·.name), _, ns.getD 100 0, [], rfl, by rw [List.length_map]; omega, rfl, rfl⟩) ?_)
  obtain ⟨hup, hn2⟩ := hnm
  generalize lNames B ns = names at *
  have hlen2 : ∀ (c : Bool), c = decide ((names.length : Int) = 2) → (if (if c then (1 : Int) else 0) = 1 then [eL names] else []) = (if names.length = 2 then [names] else []).map eL := fun c hc => by
    by_cases q : names.length = 2
    · have e : c = true := by rw [hc]; exact decide_eq_true (by omega)
      subst e
      rw [if_pos q]; rfl
    · have e : c = false := by rw [hc]; exact decide_eq_false (by omega)
      subst e
      rw [if_neg q]; rfl
  refine sd_cons (sd_set 6 nd (PD.is (r' := .d (.list ((lotsL names).map eL))) (PF.pd (pf_cat (PF.pd (pf_cat (pd_lst (pds_cons (pd_tup pds_nil) pds_nil)) (PF.pd (pf_lc0 (own := [("_law_name", 14)]) (enc := .str) (xs := names) (f := fun x => eL [x]) rfl nd (pd_var 5) rfl (bkF_law (by decide +kernel)) fun x hx => ⟨_, _, fun _ _ _ _ _ => gd_name 14 nd, by decide, fun _ _ _ _ _ => pd_tup (pds_cons (pd_var 14) pds_nil)⟩)) ?_)) (pd_rep (ds := [eL names]) (i := if decide ((names.length : Int) = 2) then 1 else 0) (pd_lst (pds_cons (pd_var 5) pds_nil)) (pd_intb B0 ((pd_eqi (pd_len B0 (pd_var 5) rfl) pd_int).is (by rw [List.length_map]))) ?_ ?_ (nble rfl)) ?_)) ?_) ?_)
  · rw [List.length_map]; simp; omega
  · split <;> decide
  · split <;> decide
  · rw [hlen2 _ rfl, List.length_map, List.length_append, List.length_map]
    have : (if names.length = 2 then [names] else ([] : List (List Str))).length ≤ 1 := by split <;> simp
    simp
    omega
  · rw [hlen2 _ rfl]
    unfold lotsL
    rw [List.map_append, List.map_cons, List.map_map]
    rfl
  refine sd_same (lwS K cells ns CB B (.va (.d (.list (cr.map eS)))) (.va (.d (eL names))) (.va (.d (.list ((lotsL names).map eL)))) .no .no .no .no .no .no) rfl ?_
  -- the wish
  refine sd_cons (sd_set 7 nd (r := .d (eL (lOn B ns))) (pd_call O.pick (hr.mono (by decide)) (pad_cons (pd_ixt (d := .list (B.holds.map .str)) (pd_var 2) pd_int rfl) (pad_cons (pd_ixl (pd_var 1) pd_int (at_ 101 _ rfl (by omega))) (pad_cons (pd_tup pds_nil) pad_nil))) ⟨B.holds, _, ns.getD 101 0, [], rfl, by omega, rfl, rfl⟩) ?_)
  have hz0 := Int.emod_nonneg (ns.getD 102 0) (show (B.modes.length : Int) + 1 ≠ 0 by omega)
  have hz1 := Int.emod_lt_of_pos (ns.getD 102 0) (show (0 : Int) < (B.modes.length : Int) + 1 by omega)
  have hwm : ([PyData.none] ++ B.modes.map fun m : Md => PyData.str m.name)[(ns.getD 102 0 % ((B.modes.length : Int) + 1)).toNat]? = some (eO (lMode B ns)) := by
    have e : ([PyData.none] ++ B.modes.map fun m : Md => PyData.str m.name) = (([none] ++ B.modes.map fun m : Md => some m.name) : List (Option Str)).map eO := by
      rw [List.map_append, List.map_map]; rfl
    unfold lMode
    generalize ns.getD 102 0 % ((B.modes.length : Int) + 1) = z at *
    rw [e, List.getElem?_map, List.getD_eq_getElem?_getD, List.getElem?_eq_getElem (by simp; omega)]
    rfl
  refine sd_cons (sd_set 8 nd (r := .d (eW (lWish B ns))) (pd_tup (pds_cons (pd_ixl (d := eO (lMode B ns)) (PF.pd (pf_cat (pd_lst (pds_cons pd_non pds_nil)) (PF.pd (pf_lc0 (own := [("_law_mode", 15)]) (enc := eMd) (xs := B.modes) (f := fun m => .str m.name) rfl nd (pd_ixt (pd_var 2) pd_int rfl) rfl (bkF_law (by decide +kernel)) fun x hx => ⟨_, _, fun _ _ _ _ _ => gd_name 15 nd, by decide, fun _ _ _ _ _ => pd_ixt (pd_var 15) pd_int rfl⟩)) ?_)) (pd_mod (pd_inti B0 (pd_ixl (pd_var 1) pd_int (at_ 102 _ rfl (by omega)))) (pd_add (pd_len B0 (pd_ixt (d := .list (B.modes.map eMd)) (pd_var 2) pd_int rfl) rfl) pd_int) ?_) (ati_nn ?_ ?_)) (pds_cons (pd_var 7) (pds_cons (pd_call O.pick (hr.mono (by decide)) (pad_cons (pd_ixt (d := .list (B.holds.map .str)) (pd_var 2) pd_int rfl) (pad_cons (pd_ixl (pd_var 1) pd_int (at_ 103 _ rfl (by omega))) (pad_cons (pd_var 7) pad_nil))) ⟨B.holds, _, ns.getD 103 0, lOn B ns, rfl, by omega, rfl, rfl⟩) pds_nil)))) ?_)
  · rw [List.length_map]; simp; omega
  · rw [List.length_map]; omega
  · rw [List.length_map]; exact hz0
  · rw [List.length_map]; exact hwm
  have hon : lOn B ns = (lWish B ns).on := rfl
  rw [hon]
  generalize lWish B ns = w at *
  refine sd_same (lwS K cells ns CB B (.va (.d (.list (cr.map eS)))) (.va (.d (eL names))) (.va (.d (.list ((lotsL names).map eL)))) (.va (.d (eL w.on))) (.va (.d (eW w))) .no .no .no .no) rfl ?_
  -- the orders
  refine sd_cons (sd_set 9 nd (PD.is (r' := .d (.list ((ordersL B).map eOr))) (PF.pd (pf_cat (PF.pd (pf_cat (PF.pd (pf_cat (pd_lst (pds_cons pd_non pds_nil)) (PF.pd (pf_lc0 (own := [("_law_part", 13)]) (enc := eCm) (xs := B.commands) (f := fun c => eOr (.doo c.name)) rfl nd (pd_ixt (pd_var 2) pd_int rfl) rfl (bkF_law (by decide +kernel)) fun x hx => ⟨_, _, fun _ _ _ _ _ => gd_name 13 nd, by decide, fun _ _ _ _ _ => pd_tup (pds_cons pd_str (pds_cons (pd_ixt (pd_var 13) pd_int rfl) pds_nil))⟩)) ?_)) (PF.pd (pf_lc0 (own := [("_law_part", 13)]) (enc := eRw) (xs := B.rows) (f := fun c => eOr (.run c.name)) rfl nd (pd_ixt (pd_var 2) pd_int rfl) rfl (bkF_law (by decide +kernel)) fun x hx => ⟨_, _, fun _ _ _ _ _ => gd_name 13 nd, by decide, fun _ _ _ _ _ => pd_tup (pds_cons pd_str (pds_cons (pd_ixt (pd_var 13) pd_int rfl) pds_nil))⟩)) ?_)) (pd_lst (pds_cons (pd_tup (pds_cons pd_str pds_nil)) pds_nil)) ?_)) ?_) ?_)
  · rw [List.length_map]; simp; omega
  · rw [List.length_append, List.length_map, List.length_map]; simp; omega
  · rw [List.length_append, List.length_append, List.length_map, List.length_map]; simp; omega
  · unfold ordersL
    rw [List.map_append, List.map_append, List.map_append, List.map_map, List.map_map]
    rfl
  refine sd_cons (sd_set 10 nd (pd_mod (pd_inti B0 (pd_ixl (pd_var 1) pd_int (at_ 104 _ rfl (by omega)))) pd_int (by decide)) ?_)
  have hm0 : 0 ≤ ns.getD 104 0 % 4 := by omega
  have hm3 : ns.getD 104 0 % 4 ≤ 3 := by omega
  generalize ns.getD 104 0 % 4 = most at *
  refine sd_same (lwS K cells ns CB B (.va (.d (.list (cr.map eS)))) (.va (.d (eL names))) (.va (.d (.list ((lotsL names).map eL)))) (.va (.d (eL w.on))) (.va (.d (eW w))) (.va (.d (.list ((ordersL B).map eOr)))) (.va (.d (.int most))) .no .no) rfl ?_
  have hlots : (lotsL names).length ≤ 6 := by have := lotsL_len names; omega
  have hol : (ordersL B).length ≤ 13 := by
    unfold ordersL
    simp
    omega
  have hov : ∀ o ∈ ordersL B, VO B o := fun o ho => orders_VO o (mem_ordersL.mp ho)
  -- the search
  refine sd_cons (sd_try (sd_one (sd_set 11 nd (r := .d (eRes (bestM B (lotsM names) most (ascM cr) w))) (pd_call O.best (hr.mono (by decide)) (pad_cons (pd_var 3) (pad_cons (pd_var 4) (pad_cons (pd_var 8) (pad_cons (pd_var 5) (pad_cons (pd_var 10) pad_nil))))) ⟨B, cr, w, names, most, V, hcv', hc3', hn2, hm0, hm3, h7, rfl, rfl⟩) ?_)))
  have cpap : cPaper CB [rBook CB B, .d (.list (cr.map eS)), .d (eW w), .d (eL names), .d (.int most)] (.d (eRp (paperR B (lotsM names) (ascM cr) w most))) := ⟨B, cr, w, names, most, V, hcv', hc3', hn2, hm0, hm3, h7, rfl, rfl⟩
  have hpow : ∀ k : Nat, k ≤ 2 → cr.length * 6 ^ k ≤ 1000 := fun k hk => by
    have h1 : 6 ^ k ≤ 6 ^ 2 := Nat.pow_le_pow_right (by decide) hk
    have := Nat.mul_le_mul hc3' h1
    omega
  cases hb : bestM B (lotsM names) most (ascM cr) w with
  | none =>
    have hpr : paperR B (lotsM names) (ascM cr) w most = some (paperM B (lotsM names) (ascM cr) (most.toNat + 1)) := by unfold paperR; rw [hb]; rfl
    rw [hpr] at cpap
    have hlen : (paperM B (lotsM names) (ascM cr) (most.toNat + 1)).length = most.toNat + 1 := by unfold paperM; rw [List.length_map, List.length_range]
    refine sd_cons (sd_if (q := true) ((ptd_isn (pd_var 11) pd_non).is rfl) (fun _ => ?_) tt)
    refine sd_cons (sd_set 12 nd (r := .d (ePp (paperM B (lotsM names) (ascM cr) (most.toNat + 1)))) (pd_call O.paper hr (pad_cons (pd_var 3) (pad_cons (pd_var 4) (pad_cons (pd_var 8) (pad_cons (pd_var 5) (pad_cons (pd_var 10) pad_nil))))) cpap) ?_)
    refine sd_cons (sd_if (q := false || false) (PWD.ptd (pwd_or ((ptd_isnotb (pd_call O.check (hr.mono (by decide)) (pad_cons (pd_var 3) (pad_cons (pd_var 4) (pad_cons (pd_var 8) (pad_cons (pd_var 5) (pad_cons (pd_var 12) pad_nil))))) ⟨B, cr, w, names, most.toNat, V, hcv', hc3', hn2, by omega, h7, lv_miss hb hm0, rfl, rfl⟩) pd_bl).is rfl) fun _ => pwd_or1 ((ptd_nei (pd_len B0 (pd_var 12) rfl) (pd_add (pd_var 10) pd_int)).is (by rw [List.length_map, hlen]; simp; omega)))) ff fun _ => sd_nil ?_)
    refine sd_one (sd_ret (PD.is (pd_not (pd_anyT (ys := List.range (min 2 most + 1).toNat) (g := fun k => someL B (ordersL B) w (lotsL names) k cr) B0 rfl (PF.pd (pf_lcr (own := [("_law_many", 16)]) B0 rfl nd (pd_add (pd_min2 B0 rfl pd_int (pd_var 10)) pd_int) (by omega) (by omega) (bkF_law (by decide +kernel)) fun k hk => ⟨_, _, fun _ _ _ _ _ => gd_name 16 nd, by decide, fun _ _ _ _ _ => pd_call (O.some k) (hr.mono (by omega)) (pad_cons (pd_var 2) (pad_cons (pd_var 4) (pad_cons (pd_var 9) (pad_cons (pd_var 16) (pad_cons (pd_var 8) (pad_cons (pd_var 6) pad_nil)))))) ⟨B, cr, ordersL B, w, lotsL names, V, hcv', hov, hpow k (by omega), hlots, rfl, rfl⟩⟩)))) ?_) rfl)
    have hf : (List.range (min 2 most + 1).toNat).any (fun k => someL B (ordersL B) w (lotsL names) k cr) = false := by
      rw [List.any_eq_false]
      intro k hk
      have hk' := List.mem_range.mp hk
      rw [some_false hup hn2 fun os h1 h2 => best_none hb (by omega) h2]
      decide
    rw [hf]
    rfl
  | some r =>
    obtain ⟨b1, b2, b3, b4⟩ := best_some hb
    have hpr : paperR B (lotsM names) (ascM cr) w most = none := by unfold paperR; rw [hb]; rfl
    rw [hpr] at cpap
    have hrv : ∀ o ∈ r, VO B o := fun o ho => orders_VO o (b2 o ho)
    have hin : tell r (fun o => !decide (o ∈ ordersL B)) eOr = [] := by
      unfold tell
      rw [List.filter_eq_nil_iff.mpr fun o ho => by simp [mem_ordersL.mpr (b2 o ho)]]
      rfl
    have hlb : allM (runL B cr r (lotsL names)) w = true := by rw [same_run hup hn2]; exact b3
    have hbr : allM (runM B cr r (lotsM names)) w = true := by rw [same_runM]; exact b3
    have hr3 : r.length ≤ 3 := by omega
    refine sd_cons (sd_if (q := false) ((ptd_isn (pd_var 11) pd_non).is rfl) ff fun _ => sd_nil ?_)
    refine sd_cons (sd_if (q := false || (false || false)) (PWD.ptd (pwd_or ((ptd_gt (pd_len B0 (pd_var 11) rfl) (pd_var 10)).is (by rw [List.length_map]; exact decide_eq_false (by omega))) fun _ => pwd_or (PTD.is (c' := false) (ptd_gt (pd_len B0 (PF.pd (pf_lc (own := [("_law_order", 17)]) (enc := eOr) (xs := r) (p := fun o => !decide (o ∈ ordersL B)) (f := eOr) rfl nd (pd_var 11) rfl (bkF_law (by decide +kernel)) fun x hx => ⟨_, _, fun _ _ _ _ _ => gd_name 17 nd, by decide, fun _ _ _ _ _ => PTD.is (c' := !decide (x ∈ ordersL B)) (ptd_notind (units65 hr) (pd_var 17) (pd_var 9) (shp_eOr V (hrv x hx)) (shp_eOrs V hov)) (by rw [any_eOr]), fun _ _ _ _ _ _ => pd_var 17⟩)) rfl) pd_int) (by rw [hin]; rfl)) fun _ => pwd_or1 ((ptd_not (ptd_val (pd_call O.lbrings (hr.mono (by decide)) (pad_cons (pd_var 2) (pad_cons (pd_var 4) (pad_cons (pd_var 11) (pad_cons (pd_var 8) (pad_cons (pd_var 6) pad_nil))))) ⟨B, cr, r, w, lotsL names, V, hcv', hrv, hc3', hr3, hlots, rfl, rfl⟩))).is (by rw [hlb]; rfl)))) ff fun _ => sd_nil ?_)
    refine sd_cons (sd_if (q := false || false) (PWD.ptd (pwd_or ((ptd_isnotb (pd_call O.brings (hr.mono (by decide)) (pad_cons (pd_var 3) (pad_cons (pd_var 4) (pad_cons (pd_var 11) (pad_cons (pd_var 8) (pad_cons (pd_var 5) pad_nil))))) ⟨B, cr, r, w, names, V, hcv', hrv, hc3', hr3, hn2, rfl, rfl⟩) pd_bl).is (by rw [hbr]; rfl)) fun _ => pwd_or1 ((ptd_notn (pd_call O.paper hr (pad_cons (pd_var 3) (pad_cons (pd_var 4) (pad_cons (pd_var 8) (pad_cons (pd_var 5) (pad_cons (pd_var 10) pad_nil))))) cpap) pd_non).is rfl))) ff fun _ => sd_nil ?_)
    refine sd_one (sd_ret (PD.is (pd_not (pd_anyT (ys := List.range (min 2 (r.length : Int)).toNat) (g := fun k => someL B (ordersL B) w (lotsL names) k cr) B0 rfl (PF.pd (pf_lcr (own := [("_law_many", 16)]) B0 rfl nd (pd_min2 B0 rfl pd_int ((pd_len B0 (pd_var 11) rfl).is (r' := .d (.int (r.length : Int))) (by rw [List.length_map]))) (by omega) (by omega) (bkF_law (by decide +kernel)) fun k hk => ⟨_, _, fun _ _ _ _ _ => gd_name 16 nd, by decide, fun _ _ _ _ _ => pd_call (O.some k) (hr.mono (by omega)) (pad_cons (pd_var 2) (pad_cons (pd_var 4) (pad_cons (pd_var 9) (pad_cons (pd_var 16) (pad_cons (pd_var 8) (pad_cons (pd_var 6) pad_nil)))))) ⟨B, cr, ordersL B, w, lotsL names, V, hcv', hov, hpow k (by omega), hlots, rfl, rfl⟩⟩)))) ?_) rfl)
    have hf : (List.range (min 2 (r.length : Int)).toNat).any (fun k => someL B (ordersL B) w (lotsL names) k cr) = false := by
      rw [List.any_eq_false]
      intro k hk
      have hk' := List.mem_range.mp hk
      rw [some_false hup hn2 fun os h1 h2 => b4 os (by omega) h2]
      decide
    rw [hf]
    rfl
end
end Fw
set_option maxHeartbeats 4000000
namespace FwH
open PySem PySem.Spec PyProof.Rows L2 Fw
open PySem.W (Frag nsIn)
section
variable {K : Frag} {h : Heap} {mg : Str → Option Value}
abbrev Sy (K : Frag) : Prop := Says fa ps cb dfs K
theorem fact (c : Sy K) (i : Nat) {f : He.Fa} (e : fa[i]? = some f) : f.ok K = true := c.fa f (List.mem_of_getElem? e)
theorem defAt (X : K.In h) (G : h.Ns mainGlobals mg) (c : Sy K) (i j : Nat) {x : Str} {st : Stmt} (e : dfs[i]? = some ⟨.fn x, x, x, st⟩) (g : fa[j]? = some (.glo x)) : DefAt K mg x st := by
  obtain ⟨fd, F⟩ := c.fn _ (List.mem_of_getElem? e)
  exact ⟨_, fd, F, He.glo_ok X G (fact c j g)⟩
theorem methAt (c : Sy K) (i j : Nat) {C m qual : Str} {st : Stmt} (e : dfs[i]? = some ⟨.me C m, m, qual, st⟩) (g : fa[j]? = some (.meth C m)) : MethAt K (He.ga K C) m qual st := by
  obtain ⟨fd, F⟩ := c.fn _ (List.mem_of_getElem? e)
  exact ⟨_, fd, F, He.meth_ok (fact c j g)⟩
theorem propAt (c : Sy K) (i j : Nat) {C m qual : Str} {st : Stmt} (e : dfs[i]? = some ⟨.ge C m, m, qual, st⟩) (g : ps[j]? = some (C, m)) : PropAt K (He.ga K C) m qual st := by
  obtain ⟨fd, F⟩ := c.fn _ (List.mem_of_getElem? e)
  exact ⟨_, _, fd, F, c.ps _ (List.mem_of_getElem? g)⟩
theorem initAt (X : K.In h) (G : h.Ns mainGlobals mg) (c : Sy K) (i j l : Nat) {C qual : Str} {st : Stmt} (e : dfs[i]? = some ⟨.me C "__init__", "__init__", qual, st⟩) (g : fa[j]? = some (.mkr C)) (g2 : fa[l]? = some (.glo C)) : InitAt K mg (He.ga K C) C qual st := by
  obtain ⟨fd, F⟩ := c.fn _ (List.mem_of_getElem? e)
  exact ⟨_, fd, F, He.mkr_ok (fact c j g), He.glo_ok X G (fact c l g2)⟩
theorem free (X : K.In h) (G : h.Ns mainGlobals mg) (c : Sy K) (i : Nat) {x : Str} (e : fa[i]? = some (.free x)) : mg x = none := He.free_ok X G (fact c i e)
theorem txt (X : K.In h) (G : h.Ns mainGlobals mg) (c : Sy K) (i : Nat) {x z : Str} (e : fa[i]? = some (.str x z)) : ∃ u, mg x = some u ∧ RelV (.str z) u := by
  obtain ⟨t, q⟩ := He.str_ok X G (fact c i e)
  exact ⟨_, q, t, rfl⟩
theorem num (X : K.In h) (G : h.Ns mainGlobals mg) (c : Sy K) (i : Nat) {x : Str} {z : Int} (e : fa[i]? = some (.int x z)) : ∃ u, mg x = some u ∧ RelV (.int z) u := by
  obtain ⟨t, q⟩ := He.int_ok X G (fact c i e)
  exact ⟨_, q, t, rfl⟩
theorem comb (X : K.In h) (G : h.Ns mainGlobals mg) (c : Sy K) : mg "combinations" = some (.type FwC.TC) := PySem.W.mg_of X G (c.cb ("combinations", "itertools.combinations") (List.mem_of_getElem? (i := 0) rfl))

theorem bt (X : K.In h) (G : h.Ns mainGlobals mg) (c : Sy K) : Bt mg := ⟨free X G c 90 rfl, free X G c 91 rfl, free X G c 92 rfl, free X G c 93 rfl, free X G c 94 rfl, free X G c 95 rfl, free X G c 96 rfl, free X G c 97 rfl, free X G c 98 rfl, free X G c 99 rfl, free X G c 100 rfl, free X G c 101 rfl, free X G c 102 rfl⟩
theorem kst (X : K.In h) (G : h.Ns mainGlobals mg) (c : Sy K) : Ks mg := ⟨txt X G c 103 rfl, txt X G c 104 rfl, txt X G c 105 rfl, txt X G c 106 rfl, txt X G c 107 rfl, num X G c 108 rfl⟩
theorem cfTurn (c : Sy K) : CF K (He.ga K "Turn") LT := ⟨He.cls_ok (fact c 55 rfl), fun f hf => by
    rcases List.mem_cons.mp hf with rfl | hf
    · exact He.noat_ok (fact c 57 rfl)
    rcases List.mem_cons.mp hf with rfl | hf
    · exact He.noat_ok (fact c 58 rfl)
    rcases List.mem_cons.mp hf with rfl | hf
    · exact He.noat_ok (fact c 59 rfl)
    rcases List.mem_cons.mp hf with rfl | hf
    · exact He.noat_ok (fact c 60 rfl)
    rcases List.mem_cons.mp hf with rfl | hf
    · exact He.noat_ok (fact c 61 rfl)
    rcases List.mem_cons.mp hf with rfl | hf
    · exact He.noat_ok (fact c 62 rfl)
    rcases List.mem_cons.mp hf with rfl | hf
    · exact He.noat_ok (fact c 63 rfl)
    rcases List.mem_cons.mp hf with rfl | hf
    · exact He.noat_ok (fact c 64 rfl)
    rcases List.mem_cons.mp hf with rfl | hf
    · exact He.noat_ok (fact c 65 rfl)
    rcases List.mem_cons.mp hf with rfl | hf
    · exact He.noat_ok (fact c 66 rfl)
    cases hf⟩
theorem cfGears (c : Sy K) : CF K (He.ga K "Gears") LG := ⟨He.cls_ok (fact c 49 rfl), fun f hf => by
    rcases List.mem_cons.mp hf with rfl | hf
    · exact He.noat_ok (fact c 67 rfl)
    rcases List.mem_cons.mp hf with rfl | hf
    · exact He.noat_ok (fact c 68 rfl)
    rcases List.mem_cons.mp hf with rfl | hf
    · exact He.noat_ok (fact c 69 rfl)
    rcases List.mem_cons.mp hf with rfl | hf
    · exact He.noat_ok (fact c 70 rfl)
    rcases List.mem_cons.mp hf with rfl | hf
    · exact He.noat_ok (fact c 71 rfl)
    rcases List.mem_cons.mp hf with rfl | hf
    · exact He.noat_ok (fact c 72 rfl)
    cases hf⟩
theorem cfStep (c : Sy K) : CF K (He.ga K "Step") LS := ⟨He.cls_ok (fact c 52 rfl), fun f hf => by
    rcases List.mem_cons.mp hf with rfl | hf
    · exact He.noat_ok (fact c 73 rfl)
    rcases List.mem_cons.mp hf with rfl | hf
    · exact He.noat_ok (fact c 74 rfl)
    rcases List.mem_cons.mp hf with rfl | hf
    · exact He.noat_ok (fact c 75 rfl)
    rcases List.mem_cons.mp hf with rfl | hf
    · exact He.noat_ok (fact c 76 rfl)
    cases hf⟩
theorem cfBook (c : Sy K) : CF K (He.ga K "Book") LB := ⟨He.cls_ok (fact c 46 rfl), fun f hf => by
    rcases List.mem_cons.mp hf with rfl | hf
    · exact He.noat_ok (fact c 77 rfl)
    rcases List.mem_cons.mp hf with rfl | hf
    · exact He.noat_ok (fact c 78 rfl)
    rcases List.mem_cons.mp hf with rfl | hf
    · exact He.noat_ok (fact c 79 rfl)
    rcases List.mem_cons.mp hf with rfl | hf
    · exact He.noat_ok (fact c 80 rfl)
    cases hf⟩
end
section
variable {P : Program} {w : World} {K : Frag} {h : Heap} {mg : Str → Option Value}
theorem lw (X : K.In h) (G : h.Ns mainGlobals mg) (c : Sy K) (base : Heap) : Lw P w K mg base (He.ga K "Book") := by
  have B0 := bt X G c
  have Z := kst X G c
  have cs : Cs K (He.ga K "Turn") (He.ga K "Gears") (He.ga K "Step") := ⟨cfTurn c, cfGears c, cfStep c⟩
  have cB := cfBook c
  have meets := ok_meets (P := P) (w0 := w) (mg := mg) (base := base) (defAt X G c 18 18 rfl rfl) B0
  have allmeet := ok_all_meet (P := P) (w0 := w) (mg := mg) (base := base) (defAt X G c 19 19 rfl rfl) B0 meets
  have turned := ok_turned (P := P) (w0 := w) (mg := mg) (base := base) (defAt X G c 12 12 rfl rfl) B0
  have orderof := ok_order_of (P := P) (w0 := w) (mg := mg) (base := base) (defAt X G c 14 14 rfl rfl) B0
  have lkey := ok_law_key (P := P) (w0 := w) (mg := mg) (base := base) (defAt X G c 43 43 rfl rfl) B0
  have halt := ok_halt (P := P) (w0 := w) (mg := mg) (base := base) (methAt c 56 82 rfl rfl) cs
  have effect := ok_effect (P := P) (w0 := w) (mg := mg) (base := base) (methAt c 55 81 rfl rfl) cs turned
  have begin_ := ok_begin (P := P) (w0 := w) (mg := mg) (base := base) (methAt c 57 83 rfl rfl) cs B0 halt
  have command := ok_command (P := P) (w0 := w) (mg := mg) (base := base) (methAt c 58 84 rfl rfl) cs effect
  have obey := ok_obey (P := P) (w0 := w) (mg := mg) (base := base) (methAt c 60 86 rfl rfl) cs halt begin_ command
  have wait := ok_wait (P := P) (w0 := w) (mg := mg) (base := base) (methAt c 61 87 rfl rfl) cs halt effect
  have go := ok_go_on (P := P) (w0 := w) (mg := mg) (base := base) (methAt c 62 88 rfl rfl) cs begin_ command
  have answer := ok_answer (P := P) (w0 := w) (mg := mg) (base := base) (methAt c 59 85 rfl rfl) cs halt effect
  have stepI := ok_Step (P := P) (w0 := w) (mg := mg) (base := base) (initAt X G c 52 53 51 rfl rfl rfl) cs B0
  have turnI := ok_Turn (P := P) (w0 := w) (mg := mg) (base := base) (initAt X G c 54 56 54 rfl rfl rfl) cs
  have step := ok_step (P := P) (w0 := w) (mg := mg) (base := base) (methAt c 63 89 rfl rfl) cs stepI
  have tick := ok_tick_by (P := P) (w0 := w) (mg := mg) (base := base) (defAt X G c 13 13 rfl rfl) cs turnI answer wait obey go step
  have bp : Bp P w K mg base (He.ga K "Book") := ⟨ok_modes (propAt c 46 0 rfl rfl) cB B0 Z, ok_commands (propAt c 47 1 rfl rfl) cB B0 Z, ok_alarms (propAt c 48 2 rfl rfl) cB B0 Z, ok_rows (propAt c 49 3 rfl rfl) cB B0 Z, ok_quiet (propAt c 50 4 rfl rfl) cB, ok_safe (propAt c 51 5 rfl rfl) cB B0 Z⟩
  have gears := ok_Gears (P := P) (w0 := w) (mg := mg) (base := base) (initAt X G c 53 50 48 rfl rfl rfl) cs B0 bp
  have isname := ok_is_name (P := P) (w0 := w) (mg := mg) (base := base) (defAt X G c 0 0 rfl rfl) B0 Z
  have islot := ok_is_lot (P := P) (w0 := w) (mg := mg) (base := base) (defAt X G c 1 1 rfl rfl) B0 isname
  have islotof := ok_is_lot_of (P := P) (w0 := w) (mg := mg) (base := base) (defAt X G c 2 2 rfl rfl) B0 islot
  have areturned := ok_are_turned (P := P) (w0 := w) (mg := mg) (base := base) (defAt X G c 3 3 rfl rfl) B0 islotof
  have require := ok_require (P := P) (w0 := w) (mg := mg) (base := base) (defAt X G c 4 4 rfl rfl)
  have reqnames := ok_require_names (P := P) (w0 := w) (mg := mg) (base := base) (defAt X G c 5 5 rfl rfl) B0 isname require
  have iseffect := ok_is_effect (P := P) (w0 := w) (mg := mg) (base := base) (defAt X G c 6 6 rfl rfl) B0 areturned
  have isstep := ok_is_step (P := P) (w0 := w) (mg := mg) (base := base) (defAt X G c 7 7 rfl rfl) B0
  have namesof := ok_names_of (P := P) (w0 := w) (mg := mg) (base := base) (defAt X G c 8 8 rfl rfl)
  have book := ok_Book (P := P) (w0 := w) (mg := mg) (base := base) (initAt X G c 45 47 45 rfl rfl rfl) cB B0 Z require reqnames namesof areturned islotof iseffect isstep
  have orders := ok_orders_of (P := P) (w0 := w) (mg := mg) (base := base) (defAt X G c 16 16 rfl rfl) B0 bp
  have ascending := ok_ascending (P := P) (w0 := w) (mg := mg) (base := base) (defAt X G c 15 15 rfl rfl) B0 orderof
  have coming := ok_coming (P := P) (w0 := w) (mg := mg) (base := base) (defAt X G c 20 20 rfl rfl) cs B0 ascending tick
  have lots := ok_lots_of (P := P) (w0 := w) (mg := mg) (base := base) (defAt X G c 17 17 rfl rfl) B0 (comb X G c)
  have isorder := ok_is_order (P := P) (w0 := w) (mg := mg) (base := base) (defAt X G c 9 9 rfl rfl) B0 bp namesof
  have isinput := ok_is_input (P := P) (w0 := w) (mg := mg) (base := base) (defAt X G c 10 10 rfl rfl) B0 bp isorder islotof namesof
  have checkinputs := ok_check_inputs (P := P) (w0 := w) (mg := mg) (base := base) (defAt X G c 11 11 rfl rfl) isinput
  have checkorders := ok_check_orders (P := P) (w0 := w) (mg := mg) (base := base) (defAt X G c 21 21 rfl rfl) checkinputs
  have brings := ok_brings (P := P) (w0 := w) (mg := mg) (base := base) (defAt X G c 22 22 rfl rfl) checkorders gears lots coming allmeet
  have best := ok_best_row (P := P) (w0 := w) (mg := mg) (base := base) (defAt X G c 23 23 rfl rfl) B0 Z ascending gears lots coming allmeet orders
  have paper := ok_none_paper (P := P) (w0 := w) (mg := mg) (base := base) (defAt X G c 24 24 rfl rfl) B0 best ascending gears lots coming orders
  have has := ok_has_part (P := P) (w0 := w) (mg := mg) (base := base) (defAt X G c 25 25 rfl rfl) B0
  have check := ok_check_none (P := P) (w0 := w) (mg := mg) (base := base) (defAt X G c 26 26 rfl rfl) B0 has gears lots coming allmeet orders
  have lrow := ok__law_row (P := P) (w0 := w) (mg := mg) (base := base) (defAt X G c 27 27 rfl rfl) B0
  have lnumbers := ok__law_numbers (P := P) (w0 := w) (mg := mg) (base := base) (defAt X G c 28 28 rfl rfl) B0 lrow
  have lpick := ok__law_pick (P := P) (w0 := w) (mg := mg) (base := base) (defAt X G c 29 29 rfl rfl) B0
  have leffect := ok__law_effect (P := P) (w0 := w) (mg := mg) (base := base) (defAt X G c 30 30 rfl rfl) B0 lpick
  have lparts := ok__law_parts (P := P) (w0 := w) (mg := mg) (base := base) (defAt X G c 31 31 rfl rfl) B0 lpick leffect
  have lmade := ok__law_made (P := P) (w0 := w) (mg := mg) (base := base) (defAt X G c 32 32 rfl rfl) book
  have lturned := ok__law_turned (P := P) (w0 := w) (mg := mg) (base := base) (defAt X G c 33 33 rfl rfl) B0
  have lafter := ok__law_after (P := P) (w0 := w) (mg := mg) (base := base) (defAt X G c 34 34 rfl rfl) B0 lturned
  have lstart := ok__law_start (P := P) (w0 := w) (mg := mg) (base := base) (defAt X G c 35 35 rfl rfl) lafter
  have ltick := ok__law_tick (P := P) (w0 := w) (mg := mg) (base := base) (defAt X G c 36 36 rfl rfl) B0 lafter
  have linputs := ok__law_inputs (P := P) (w0 := w) (mg := mg) (base := base) (defAt X G c 37 37 rfl rfl) B0
  have lcrowd := ok__law_crowd (P := P) (w0 := w) (mg := mg) (base := base) (defAt X G c 38 38 rfl rfl) B0 ltick lstart linputs
  have lcomes := ok__law_comes (P := P) (w0 := w) (mg := mg) (base := base) (defAt X G c 39 39 rfl rfl) ltick
  have lmeets := ok__law_meets (P := P) (w0 := w) (mg := mg) (base := base) (defAt X G c 40 40 rfl rfl) B0
  have lbrings := ok__law_brings (P := P) (w0 := w) (mg := mg) (base := base) (defAt X G c 41 41 rfl rfl) B0 lcomes lmeets
  have lsome := ok__law_some_row (P := P) (w0 := w) (mg := mg) (base := base) (defAt X G c 42 42 rfl rfl) B0 lcomes lmeets
  exact ⟨lnumbers, lparts, lmade, lcrowd, lkey, lpick, best, paper, check, brings, lbrings, lsome⟩
/-- the law's def -/
theorem law_at (X : K.In h) (G : h.Ns mainGlobals mg) (c : Sy K) {fl : Addr} (hl : mg ("law" : Str) = some (.ref fl)) : ∃ fd : FuncData, (∀ (s : Shared) (v : Value), BindsTo s fd ⟨[v], []⟩ [("_law_script", v)]) ∧ ∀ base : Heap, FnOk P w K mg base CX0 9 fl fd ["_law_script"] (spD (cLaw K)) := by
  obtain ⟨fd, F⟩ := c.fn _ (List.mem_of_getElem? (i := 44) (a := ⟨.fn "law", "law", "law", sF_law⟩) rfl)
  have e := hl.symm.trans (He.glo_ok X G (fact c 44 (f := .glo "law") rfl))
  cases e
  have F' : Fun K "law" "law" sF_law (He.ga K "law") fd := F
  refine ⟨fd, ?_, fun base => law_fn F' (bt X G c) (lw X G c base)⟩
  obtain ⟨oc, od, kV, doc, pm, an, cdv, ct, osl, rfl, lk, hcd⟩ := F'.ex
  exact fun s v => .of_eq rfl
end
end FwH
set_option maxHeartbeats 0
open PySem PySem.W PySem.Calls PyProof.Rows
theorem PySem.Challenge.cw_farword_k93_whole_rows_that_bring_a_wish_holds : PySem.Challenge.rw_farword_k93_whole_rows_that_bring_a_wish.Holds := by
  w_on; o_law
  refine HeadRun.head_imp (r := FwH.R) (q := FwH.qv) (H := FwH.hk) (ob := FwH.ob) (M := 20000) (loose := FwH.names) (d := HeadRun.topDef FwH.R.prog 68) (kwd := []) FwH.ob_eq FwH.run
    (by kernel_rfl) (by kernel_rfl) (by kernel_rfl) (by rfl) (by first | assumption | decide +kernel) (by decide +kernel) ⟨rfl, rfl, rfl, rfl, rfl, by decide +kernel⟩ ?hw ?hc
  case hw => w_witness2
  case hc =>
    refine L2.walk_ofE (l := PySem.Challenge.rw_farword_k93_whole_rows_that_bring_a_wish) (n := 63) (k := 9) (x := "_law_script") (CX := L2.CX0) rfl (by decide) (by kernel_rfl) ⟨rfl, by decide, by decide⟩ ?F (fun _ _ _ _ z => z)
    intro w mg fl h Y G hmg0
    obtain ⟨K, KX, c⟩ := Y
    have hmg : mg ("law" : PySem.Str) = some (.ref fl) := by
      have e : (HeadRun.topDef FwH.R.prog 68).name = ("law" : PySem.Str) := by kernel_rfl
      rw [← e]
      exact hmg0
    obtain ⟨fd, hb, hF⟩ := FwH.law_at (P := (PySem.Challenge.rw_farword_k93_whole_rows_that_bring_a_wish).prog) (w := w) KX G c hmg
    exact ⟨K, fd, Fw.spD (Fw.cLaw K), KX, hb, fun H a ns _ _ hS => ⟨H, [.o (Fw.rScr K ns)], .d (.bool true), fun _ _ z => z, .cons ⟨a, rfl, hS⟩ .nil, ⟨ns, rfl, rfl⟩, fun v H' G' _ hv => by cases hv; rfl⟩, fun base _ _ => hF base⟩
