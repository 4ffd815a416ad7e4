import PyProof.Rows.All
import Wide.All
import OpenK.AllK
import Wide.FinOn
import HandS.ForMost
import HandS.Defaults
import HandS.Property
import HandS.HeadHook2
import PySem.Challenge.RW_lagbound_k42_growth_judged
import KE.KStateDown
import HandS.Head0
import HandS.Head1
import HandS.Head2
import HandS.HeadEnd
import HandS.Deep
import HandS.Conv
import HandS.IsInst
import HandS.Flow
import HandS.StrMore
import HandS.TupAny
import HandS.TupLe
import HandS.DictComp
import HandS.SetKeys
import HandS.Walk
import HandS.Codes
import HandS.MakeKwOnly
import KE.KDictCopyH
import HandS.SortKw
import HandS.ExcValue
import KE.SortKeyHeap
import PyProof.ReprRoads
import PyProof.ReprLen
import PyProof.FitsInt
set_option Elab.async false
set_option linter.all false
set_option maxRecDepth 100000
set_option maxHeartbeats 4000000
namespace GJ
open PySem PySem.Spec PyProof.Rows L2

/-! ### the text by places -/
def top (i : Nat) : Stmt := PySem.Challenge.pw_lagbound_k42_growth_judged.main.body.getD i (.Pass ⟨0, 0, 0, 0⟩)
def dfn (x : Str) (i : Nat) : He.DefD := ⟨(x, none), x, x, defArgs (top i), defBody (top i), defScope (top i), [], []⟩
/-- a property of the class Machine: its name, its place in the class's body -/
abbrev Pr : Type := Str × Nat
def prSt (p : Pr) : Stmt := inClass (top 31) p.2
def prQ (p : Pr) : Str := "Machine." ++ p.1

/-! ### getters behind properties -/
def prAd (K : PySem.W.Frag) (p : Pr) : Addr := match PySem.W.findIn K (.ref (He.ga K "Machine")) p.1 with
  | some (some (.ref d)) => d
  | _ => 0
def gtAd (K : PySem.W.Frag) (p : Pr) : Addr := match PySem.W.recIn K (prAd K p) "property" with
  | some (.ref g :: _) => g
  | _ => 0
def prB (K : PySem.W.Frag) (p : Pr) : Bool :=
  He.eqO (PySem.W.findIn K (.ref (He.ga K "Machine")) p.1) (some (some (.ref (prAd K p)))) &&
  (He.eqO (PySem.W.specialIn K (.ref (prAd K p)) "__get__") (some (some (.builtin "property.__get__"))) &&
  (decide (PySem.W.takesIn K (.ref (prAd K p)) = some true) &&
  ((match PySem.W.recIn K (prAd K p) "property" with
    | some (.ref g :: _) => decide (g = gtAd K p)
    | _ => false) &&
  (PySem.W.keepIn K (.ref (gtAd K p)) && (match K.lookup (gtAd K p) with
    | some ⟨_, _, .func fd, _⟩ => PySem.W.codeIn K fd.code (prQ p) && He.dflB K fd.defaults []
    | _ => false)))))
def fnAt (K : PySem.W.Frag) (a : Addr) : He.FnW := match K.lookup a with
  | some ⟨_, _, .func fd, _⟩ => some (fd.name, fd.qualname, fd.params, fd.body, fd.scope, fd.globals, fd.closure, fd.builtins)
  | _ => none
def prVal (p : Pr) : He.FnW := some (p.1, prQ p, defArgs (prSt p), .stmts (defBody (prSt p)), defScope (prSt p), mainGlobals, [], builtinsNs)
theorem pr_ok {K : PySem.W.Frag} {p : Pr} (c : prB K p = true) (e : fnAt K (gtAd K p) = prVal p) :
    PropOf K (He.ga K "Machine") p.1 (prAd K p) (gtAd K p) ∧ ∃ fd, FunD K p.1 (prQ p) (defArgs (prSt p)) (defBody (prSt p)) (defScope (prSt p)) [] [] (gtAd K p) fd := by
  obtain ⟨c1, c⟩ := He.ba c
  obtain ⟨c2, c⟩ := He.ba c
  obtain ⟨c3, c⟩ := He.ba c
  obtain ⟨c4, c⟩ := He.ba c
  obtain ⟨c5, c6⟩ := He.ba c
  refine ⟨⟨He.eqO_ok c1, He.eqO_ok c2, of_decide_eq_true c3, ?_⟩, ?_⟩
  · split at c4
    · rename_i g r q
      exact ⟨r, by rw [q, of_decide_eq_true c4]⟩
    · cases c4
  · unfold fnAt at e
    cases q : K.lookup (gtAd K p) with
    | none => rw [q] at c6; cases c6
    | some o =>
      obtain ⟨oc, od, dt, osl⟩ := o
      rw [q] at c6 e
      cases dt with
      | func fd =>
        obtain ⟨n1, n2, n3, n4, n5, n6, n7, n8, n9, n10, n11, n12, n13, n14, n15⟩ := fd
        have e2 : (some (n1, n2, n3, n4, n5, n6, n7, n15) : He.FnW) = prVal p := e
        simp only [prVal, Option.some.injEq, Prod.mk.injEq] at e2
        obtain ⟨h1, h2, h3, h4, h5, h6, h7, h8⟩ := e2
        subst h1 h2 h3 h4 h5 h6 h7 h8
        obtain ⟨k1, k2⟩ := He.ba (show (PySem.W.codeIn K n13 (prQ p) && He.dflB K n8 []) = true from c6)
        exact ⟨_, ⟨oc, od, n8, n9, n10, n11, n12, n13, n14, osl, rfl, q, k1, He.dflB_ok k2, .inl rfl⟩, c5⟩
      | _ => cases c6

/-! ### the Hook: defs, facts, properties -/
abbrev Al : Type := He.AlD × (Bool × List He.FnW)
def obsP (fa : List He.Fa) (fn : List He.DefD) (ps : List Pr) (K : PySem.W.Frag) : Al := (He.obsD fa fn K, (ps.all (prB K), ps.map fun p => fnAt K (gtAd K p)))
def valP (fn : List He.DefD) (ps : List Pr) : Al := (He.valD fn, (true, ps.map prVal))
def SaysP (fa : List He.Fa) (fn : List He.DefD) (ps : List Pr) (K : PySem.W.Frag) : Prop := obsP fa fn ps K = valP fn ps
/-- what is looked at: a little of all that the module names, more of the class Machine -/
def goD (g : Addr → Option Obj) : Nat → List Addr → List Addr
  | 0, l => l
  | n + 1, l => goD g n (He.growD g l)
def asP (g : Addr → Option Obj) (n : Nat) : List Addr := (He.asD g 2 ++ goD g n [He.ga (He.frG g [mainGlobals]) "Machine"]).eraseDups
def obsPG (n : Nat) (fa : List He.Fa) (fn : List He.DefD) (ps : List Pr) (g : Addr → Option Obj) : Al := obsP fa fn ps (He.frG g (asP g n))
def hookP (n : Nat) (fa : List He.Fa) (fn : List He.DefD) (ps : List Pr) : PySem.W.Hook where
  α := Al
  obs := fun s => obsPG n fa fn ps s.heap.get?
  val := fun _ => valP fn ps
  says := fun _ h => ∃ K : PySem.W.Frag, K.In h ∧ SaysP fa fn ps K
  of := fun _ _ e => ⟨_, He.frG_in, e⟩
  keeps := fun _ _ _ ⟨K, hK, c⟩ k => ⟨K, PySem.W.Frag.In.keeps hK k, c⟩
theorem obsPG_eq {n : Nat} {fa : List He.Fa} {fn : List He.DefD} {ps : List Pr} {g : Addr → Option Obj} {s : Shared} (h : ∀ a, g a = s.heap.get? a) : obsPG n fa fn ps g = (hookP n fa fn ps).obs s := by
  have e : g = s.heap.get? := funext h
  rw [e] <;> rfl

/-! ### what the walk leans on, behind the top -/
structure Env (K : PySem.W.Frag) (mg : Str → Option Value) (fa : List He.Fa) (fn : List He.DefD) (ps : List Pr) : Prop where
  fn : ∀ (i : Nat) (d : He.DefD), fn[i]? = some d → ∃ fd, FunD K d.name d.qual d.params d.body d.scope (d.dvs K) (d.kws K) (He.fAd K d.at_) fd
  fa : ∀ (i : Nat) (f : He.Fa), fa[i]? = some f → f.ok K = true
  pr : ∀ (i : Nat) (p : Pr), ps[i]? = some p → PropOf K (He.ga K "Machine") p.1 (prAd K p) (gtAd K p) ∧ ∃ fd, FunD K p.1 (prQ p) (defArgs (prSt p)) (defBody (prSt p)) (defScope (prSt p)) [] [] (gtAd K p) fd
  glo : ∀ x, (He.Fa.glo x).ok K = true → mg x = some (.ref (He.ga K x))
  free : ∀ x, (He.Fa.free x).ok K = true → mg x = none
  int : ∀ x i, (He.Fa.int x i).ok K = true → ∃ t, mg x = some (.int i t)
  str : ∀ x z, (He.Fa.str x z).ok K = true → ∃ t, mg x = some (.str z t)
theorem env_of {K : PySem.W.Frag} {h : Heap} {mg : Str → Option Value} {fa : List He.Fa} {fn : List He.DefD} {ps : List Pr} (X : K.In h) (G : h.Ns mainGlobals mg) (c : SaysP fa fn ps K) : Env K mg fa fn ps := by
  have c1 : He.SaysD fa fn K := congrArg (fun z : Al => z.1) c
  have c2 : ps.all (prB K) = true := congrArg (fun z : Al => z.2.1) c
  have c3 : (ps.map fun p => fnAt K (gtAd K p)) = ps.map prVal := congrArg (fun z : Al => z.2.2) c
  refine ⟨fun i d e => c1.def_ i e, fun i f e => c1.fact i e, fun i p e => ?_, fun x e => He.glo_ok X G e, fun x e => He.free_ok X G e, fun x i e => He.int_ok X G e, fun x z e => He.str_ok X G e⟩
  have c4 : (ps.map fun p => fnAt K (gtAd K p))[i]? = (ps.map prVal)[i]? := by rw [c3]
  rw [List.getElem?_map, List.getElem?_map, e] at c4
  exact pr_ok (List.all_eq_true.mp c2 p (List.mem_of_getElem? e)) (Option.some.inj c4)
end GJ

set_option Elab.async false
set_option linter.all false
set_option maxRecDepth 100000
set_option maxHeartbeats 4000000
namespace GJ
open PySem PySem.Spec PyProof.Rows L2
/-! ### the tables of the text (printed by mkhead.py) -/
abbrev s_consists_of : Stmt := top 9
abbrev s_is_letters : Stmt := top 10
abbrev s_is_word : Stmt := top 11
abbrev s_check_letters : Stmt := top 12
abbrev s_word_key : Stmt := top 13
abbrev s_shared_length : Stmt := top 14
abbrev s_lag_of : Stmt := top 15
abbrev s_is_number : Stmt := top 20
abbrev s_check_number : Stmt := top 21
abbrev s_is_state_of : Stmt := top 22
abbrev s_is_short_word : Stmt := top 23
abbrev s_is_right_side : Stmt := top 24
abbrev s_is_right_arc : Stmt := top 25
abbrev s_check_many : Stmt := top 26
abbrev s_check_sides : Stmt := top 27
abbrev s_check_arcs : Stmt := top 28
abbrev s_side_key : Stmt := top 29
abbrev s_arc_key : Stmt := top 30
abbrev s_is_known_side : Stmt := top 33
abbrev s_is_known_arc : Stmt := top 34
abbrev s_last_state : Stmt := top 35
abbrev s_is_way : Stmt := top 36
abbrev s_read_of : Stmt := top 37
abbrev s_reached : Stmt := top 39
abbrev s_useful_states : Stmt := top 40
abbrev s_is_integer : Stmt := top 42
abbrev s_state_at : Stmt := top 44
abbrev s_written_by : Stmt := top 45
abbrev s_is_growth : Stmt := top 46
abbrev s__law_store : Stmt := top 48
abbrev s__law_mix : Stmt := top 49
abbrev s__law_take : Stmt := top 50
abbrev s__law_between : Stmt := top 51
abbrev s__law_pick : Stmt := top 52
abbrev s__law_word : Stmt := top 53
abbrev s__law_arc : Stmt := top 54
abbrev s__law_unlike_word : Stmt := top 55
abbrev s__law_order : Stmt := top 56
abbrev s__law_turned : Stmt := top 57
abbrev s__law_repeated : Stmt := top 58
abbrev s__law_machine : Stmt := top 59
abbrev s__law_lines : Stmt := top 60
abbrev s__law_delayed : Stmt := top 61
abbrev s__law_forked : Stmt := top 62
abbrev s__law_renamed : Stmt := top 63
abbrev s__law_mixed : Stmt := top 64
abbrev s__law_letters : Stmt := top 65
abbrev s__law_machine_of : Stmt := top 66
abbrev s__law_way_pair : Stmt := top 67
abbrev s__law_same : Stmt := top 68
abbrev s__law_is_integer : Stmt := top 69
abbrev s__law_is_way : Stmt := top 70
abbrev s__law_to_end : Stmt := top 71
abbrev s__law_useful : Stmt := top 72
abbrev s__law_writes : Stmt := top 73
abbrev s__law_common : Stmt := top 74
abbrev s__law_lag : Stmt := top 75
abbrev s__law_is_growth : Stmt := top 76
abbrev s__law_lessened : Stmt := top 77
abbrev s__law_turned_paper : Stmt := top 78
abbrev s__law_spoilt : Stmt := top 79
abbrev s__law_reread : Stmt := top 80
abbrev s__law_papers : Stmt := top 81
abbrev s_law : Stmt := top 82
abbrev s_init : Stmt := inClass (top 31) 0
def dInit : He.DefD := ⟨("Machine", some "__init__"), "__init__", "Machine.__init__", defArgs s_init, defBody s_init, defScope s_init, [], []⟩
def fns : List He.DefD := [dfn "consists_of" 9, dfn "is_letters" 10, dfn "is_word" 11, dfn "check_letters" 12, dfn "word_key" 13, dfn "shared_length" 14, dfn "lag_of" 15, dfn "is_number" 20, dfn "check_number" 21, dfn "is_state_of" 22, dfn "is_short_word" 23, dfn "is_right_side" 24, dfn "is_right_arc" 25, dfn "check_many" 26, dfn "check_sides" 27, dfn "check_arcs" 28, dfn "side_key" 29, dfn "arc_key" 30, dfn "is_known_side" 33, dfn "is_known_arc" 34, dfn "last_state" 35, dfn "is_way" 36, dfn "read_of" 37, dfn "reached" 39, dfn "useful_states" 40, dfn "is_integer" 42, dfn "state_at" 44, dfn "written_by" 45, dfn "is_growth" 46, dfn "_law_store" 48, dfn "_law_mix" 49, dfn "_law_take" 50, dfn "_law_between" 51, dfn "_law_pick" 52, dfn "_law_word" 53, dfn "_law_arc" 54, dfn "_law_unlike_word" 55, dfn "_law_order" 56, dfn "_law_turned" 57, dfn "_law_repeated" 58, dfn "_law_machine" 59, dfn "_law_lines" 60, dfn "_law_delayed" 61, dfn "_law_forked" 62, dfn "_law_renamed" 63, dfn "_law_mixed" 64, dfn "_law_letters" 65, dfn "_law_machine_of" 66, dfn "_law_way_pair" 67, dfn "_law_same" 68, dfn "_law_is_integer" 69, dfn "_law_is_way" 70, dfn "_law_to_end" 71, dfn "_law_useful" 72, dfn "_law_writes" 73, dfn "_law_common" 74, dfn "_law_lag" 75, dfn "_law_is_growth" 76, dfn "_law_lessened" 77, dfn "_law_turned_paper" 78, dfn "_law_spoilt" 79, dfn "_law_reread" 80, dfn "_law_papers" 81, dfn "law" 82, dInit]
def fas : List He.Fa := [.glo "consists_of", .glo "is_letters", .glo "is_word", .glo "check_letters", .glo "word_key", .glo "shared_length", .glo "lag_of", .glo "is_number", .glo "check_number", .glo "is_state_of", .glo "is_short_word", .glo "is_right_side", .glo "is_right_arc", .glo "check_many", .glo "check_sides", .glo "check_arcs", .glo "side_key", .glo "arc_key", .glo "is_known_side", .glo "is_known_arc", .glo "last_state", .glo "is_way", .glo "read_of", .glo "reached", .glo "useful_states", .glo "is_integer", .glo "state_at", .glo "written_by", .glo "is_growth", .glo "_law_store", .glo "_law_mix", .glo "_law_take", .glo "_law_between", .glo "_law_pick", .glo "_law_word", .glo "_law_arc", .glo "_law_unlike_word", .glo "_law_order", .glo "_law_turned", .glo "_law_repeated", .glo "_law_machine", .glo "_law_lines", .glo "_law_delayed", .glo "_law_forked", .glo "_law_renamed", .glo "_law_mixed", .glo "_law_letters", .glo "_law_machine_of", .glo "_law_way_pair", .glo "_law_same", .glo "_law_is_integer", .glo "_law_is_way", .glo "_law_to_end", .glo "_law_useful", .glo "_law_writes", .glo "_law_common", .glo "_law_lag", .glo "_law_is_growth", .glo "_law_lessened", .glo "_law_turned_paper", .glo "_law_spoilt", .glo "_law_reread", .glo "_law_papers", .glo "law", .glo "Machine", .free "isinstance", .free "len", .free "list", .free "tuple", .free "sorted", .free "int", .free "str", .free "bool", .free "range", .free "min", .free "max", .free "repr", .free "enumerate", .int "MOST_LETTERS" 4, .int "MOST_STATES" 64, .int "MOST_ENTRIES" 400, .int "MOST_WRITTEN" 400, .str "SMALL_LETTERS" "abcdefghijklmnopqrstuvwxyz", .cls "Machine", .mkr "Machine", .noat "Machine" "kept_read", .noat "Machine" "kept_write", .noat "Machine" "kept_size", .noat "Machine" "kept_begins", .noat "Machine" "kept_arcs", .noat "Machine" "kept_ends"]
def prs : List Pr := [("read", 1), ("write", 2), ("size", 3), ("begins", 4), ("arcs", 5), ("ends", 6)]
/-- places in the tables -/
abbrev i_consists_of : Nat := 0
abbrev i_is_letters : Nat := 1
abbrev i_is_word : Nat := 2
abbrev i_check_letters : Nat := 3
abbrev i_word_key : Nat := 4
abbrev i_shared_length : Nat := 5
abbrev i_lag_of : Nat := 6
abbrev i_is_number : Nat := 7
abbrev i_check_number : Nat := 8
abbrev i_is_state_of : Nat := 9
abbrev i_is_short_word : Nat := 10
abbrev i_is_right_side : Nat := 11
abbrev i_is_right_arc : Nat := 12
abbrev i_check_many : Nat := 13
abbrev i_check_sides : Nat := 14
abbrev i_check_arcs : Nat := 15
abbrev i_side_key : Nat := 16
abbrev i_arc_key : Nat := 17
abbrev i_is_known_side : Nat := 18
abbrev i_is_known_arc : Nat := 19
abbrev i_last_state : Nat := 20
abbrev i_is_way : Nat := 21
abbrev i_read_of : Nat := 22
abbrev i_reached : Nat := 23
abbrev i_useful_states : Nat := 24
abbrev i_is_integer : Nat := 25
abbrev i_state_at : Nat := 26
abbrev i_written_by : Nat := 27
abbrev i_is_growth : Nat := 28
abbrev i__law_store : Nat := 29
abbrev i__law_mix : Nat := 30
abbrev i__law_take : Nat := 31
abbrev i__law_between : Nat := 32
abbrev i__law_pick : Nat := 33
abbrev i__law_word : Nat := 34
abbrev i__law_arc : Nat := 35
abbrev i__law_unlike_word : Nat := 36
abbrev i__law_order : Nat := 37
abbrev i__law_turned : Nat := 38
abbrev i__law_repeated : Nat := 39
abbrev i__law_machine : Nat := 40
abbrev i__law_lines : Nat := 41
abbrev i__law_delayed : Nat := 42
abbrev i__law_forked : Nat := 43
abbrev i__law_renamed : Nat := 44
abbrev i__law_mixed : Nat := 45
abbrev i__law_letters : Nat := 46
abbrev i__law_machine_of : Nat := 47
abbrev i__law_way_pair : Nat := 48
abbrev i__law_same : Nat := 49
abbrev i__law_is_integer : Nat := 50
abbrev i__law_is_way : Nat := 51
abbrev i__law_to_end : Nat := 52
abbrev i__law_useful : Nat := 53
abbrev i__law_writes : Nat := 54
abbrev i__law_common : Nat := 55
abbrev i__law_lag : Nat := 56
abbrev i__law_is_growth : Nat := 57
abbrev i__law_lessened : Nat := 58
abbrev i__law_turned_paper : Nat := 59
abbrev i__law_spoilt : Nat := 60
abbrev i__law_reread : Nat := 61
abbrev i__law_papers : Nat := 62
abbrev i_law : Nat := 63
abbrev j_Machine : Nat := 64
abbrev j_isinstance : Nat := 65
abbrev j_len : Nat := 66
abbrev j_list : Nat := 67
abbrev j_tuple : Nat := 68
abbrev j_sorted : Nat := 69
abbrev j_int : Nat := 70
abbrev j_str : Nat := 71
abbrev j_bool : Nat := 72
abbrev j_range : Nat := 73
abbrev j_min : Nat := 74
abbrev j_max : Nat := 75
abbrev j_repr : Nat := 76
abbrev j_enumerate : Nat := 77
abbrev j_MOST_LETTERS : Nat := 78
abbrev j_MOST_STATES : Nat := 79
abbrev j_MOST_ENTRIES : Nat := 80
abbrev j_MOST_WRITTEN : Nat := 81
abbrev j_SMALL : Nat := 82
abbrev j_cls : Nat := 83
abbrev j_mkr : Nat := 84
abbrev j_no_kept_read : Nat := 85
abbrev j_no_kept_write : Nat := 86
abbrev j_no_kept_size : Nat := 87
abbrev j_no_kept_begins : Nat := 88
abbrev j_no_kept_arcs : Nat := 89
abbrev j_no_kept_ends : Nat := 90
section
variable {K : PySem.W.Frag} {mg : Str → Option Value}
theorem fr_isinstance (En : Env K mg fas fns prs) : mg "isinstance" = none := En.free "isinstance" (En.fa j_isinstance _ rfl)
theorem fr_len (En : Env K mg fas fns prs) : mg "len" = none := En.free "len" (En.fa j_len _ rfl)
theorem fr_list (En : Env K mg fas fns prs) : mg "list" = none := En.free "list" (En.fa j_list _ rfl)
theorem fr_tuple (En : Env K mg fas fns prs) : mg "tuple" = none := En.free "tuple" (En.fa j_tuple _ rfl)
theorem fr_sorted (En : Env K mg fas fns prs) : mg "sorted" = none := En.free "sorted" (En.fa j_sorted _ rfl)
theorem fr_int (En : Env K mg fas fns prs) : mg "int" = none := En.free "int" (En.fa j_int _ rfl)
theorem fr_str (En : Env K mg fas fns prs) : mg "str" = none := En.free "str" (En.fa j_str _ rfl)
theorem fr_bool (En : Env K mg fas fns prs) : mg "bool" = none := En.free "bool" (En.fa j_bool _ rfl)
theorem fr_range (En : Env K mg fas fns prs) : mg "range" = none := En.free "range" (En.fa j_range _ rfl)
theorem fr_min (En : Env K mg fas fns prs) : mg "min" = none := En.free "min" (En.fa j_min _ rfl)
theorem fr_max (En : Env K mg fas fns prs) : mg "max" = none := En.free "max" (En.fa j_max _ rfl)
theorem fr_repr (En : Env K mg fas fns prs) : mg "repr" = none := En.free "repr" (En.fa j_repr _ rfl)
theorem fr_enumerate (En : Env K mg fas fns prs) : mg "enumerate" = none := En.free "enumerate" (En.fa j_enumerate _ rfl)
theorem gi_MOST_LETTERS (En : Env K mg fas fns prs) : ∃ t, mg "MOST_LETTERS" = some (.int 4 t) := En.int "MOST_LETTERS" 4 (En.fa j_MOST_LETTERS _ rfl)
theorem gi_MOST_STATES (En : Env K mg fas fns prs) : ∃ t, mg "MOST_STATES" = some (.int 64 t) := En.int "MOST_STATES" 64 (En.fa j_MOST_STATES _ rfl)
theorem gi_MOST_ENTRIES (En : Env K mg fas fns prs) : ∃ t, mg "MOST_ENTRIES" = some (.int 400 t) := En.int "MOST_ENTRIES" 400 (En.fa j_MOST_ENTRIES _ rfl)
theorem gi_MOST_WRITTEN (En : Env K mg fas fns prs) : ∃ t, mg "MOST_WRITTEN" = some (.int 400 t) := En.int "MOST_WRITTEN" 400 (En.fa j_MOST_WRITTEN _ rfl)
theorem gi_SMALL (En : Env K mg fas fns prs) : ∃ t, mg "SMALL_LETTERS" = some (.str "abcdefghijklmnopqrstuvwxyz" t) := En.str "SMALL_LETTERS" "abcdefghijklmnopqrstuvwxyz" (En.fa j_SMALL _ rfl)
theorem gl_Machine (En : Env K mg fas fns prs) : mg "Machine" = some (.ref (He.ga K "Machine")) := En.glo "Machine" (En.fa j_Machine _ rfl)
theorem cl_Machine (En : Env K mg fas fns prs) : Cls K (He.ga K "Machine") := He.cls_ok (En.fa j_cls _ rfl)
theorem mk_Machine (En : Env K mg fas fns prs) : Mk K (He.ga K "Machine") (He.ma K (He.ga K "Machine") "__init__") := He.mkr_ok (En.fa j_mkr _ rfl)
theorem no_kept_read (En : Env K mg fas fns prs) : NoAttr K (He.ga K "Machine") "kept_read" := He.noat_ok (En.fa j_no_kept_read _ rfl)
theorem no_kept_write (En : Env K mg fas fns prs) : NoAttr K (He.ga K "Machine") "kept_write" := He.noat_ok (En.fa j_no_kept_write _ rfl)
theorem no_kept_size (En : Env K mg fas fns prs) : NoAttr K (He.ga K "Machine") "kept_size" := He.noat_ok (En.fa j_no_kept_size _ rfl)
theorem no_kept_begins (En : Env K mg fas fns prs) : NoAttr K (He.ga K "Machine") "kept_begins" := He.noat_ok (En.fa j_no_kept_begins _ rfl)
theorem no_kept_arcs (En : Env K mg fas fns prs) : NoAttr K (He.ga K "Machine") "kept_arcs" := He.noat_ok (En.fa j_no_kept_arcs _ rfl)
theorem no_kept_ends (En : Env K mg fas fns prs) : NoAttr K (He.ga K "Machine") "kept_ends" := He.noat_ok (En.fa j_no_kept_ends _ rfl)
end
theorem bt_isinstance : bootBuiltins "isinstance" = some (.builtin "isinstance") := by decide +kernel
theorem bt_len : bootBuiltins "len" = some (.builtin "len") := by decide +kernel
theorem bt_list : bootBuiltins "list" = some (.type "list") := by decide +kernel
theorem bt_tuple : bootBuiltins "tuple" = some (.type "tuple") := by decide +kernel
theorem bt_sorted : bootBuiltins "sorted" = some (.builtin "sorted") := by decide +kernel
theorem bt_int : bootBuiltins "int" = some (.type "int") := by decide +kernel
theorem bt_str : bootBuiltins "str" = some (.type "str") := by decide +kernel
theorem bt_bool : bootBuiltins "bool" = some (.type "bool") := by decide +kernel
theorem bt_range : bootBuiltins "range" = some (.type "range") := by decide +kernel
theorem bt_min : bootBuiltins "min" = some (.builtin "min") := by decide +kernel
theorem bt_max : bootBuiltins "max" = some (.builtin "max") := by decide +kernel
theorem bt_repr : bootBuiltins "repr" = some (.builtin "repr") := by decide +kernel
theorem bt_enumerate : bootBuiltins "enumerate" = some (.type "enumerate") := by decide +kernel
end GJ

set_option Elab.async false
set_option linter.all false
set_option maxRecDepth 100000
set_option maxHeartbeats 0
namespace GJ
open PySem PySem.Spec PyProof.Rows L2
def nm0 : List PySem.Str := ["LagError", "BadLetters", "BadNumber", "BadEntry", "TooLarge", "MOST_LETTERS", "SMALL_LETTERS", "consists_of", "is_letters", "is_word", "check_letters", "word_key", "shared_length", "lag_of", "MOST_STATES", "MOST_ENTRIES", "MOST_WRITTEN", "is_number", "check_number", "is_state_of"]
def nm1 : List PySem.Str := ["is_short_word", "is_right_side", "is_right_arc", "check_many", "check_sides", "check_arcs", "side_key", "arc_key", "Machine", "is_known_side", "is_known_arc", "last_state", "is_way", "read_of", "reached", "useful_states", "is_integer", "state_at", "written_by", "is_growth"]
def nm2 : List PySem.Str := ["_law_store", "_law_mix", "_law_take", "_law_between", "_law_pick", "_law_word", "_law_arc", "_law_unlike_word", "_law_order", "_law_turned", "_law_repeated", "_law_machine", "_law_lines", "_law_delayed", "_law_forked", "_law_renamed", "_law_mixed", "_law_letters", "_law_machine_of", "_law_way_pair"]
def nm3 : List PySem.Str := ["_law_same", "_law_is_integer", "_law_is_way", "_law_to_end", "_law_useful", "_law_writes", "_law_common", "_law_lag", "_law_is_growth", "_law_lessened", "_law_turned_paper", "_law_spoilt", "_law_reread", "_law_papers"]
def nms : List PySem.Str := nm0 ++ nm1 ++ nm2 ++ nm3
abbrev RR : PySem.W.OpenRow := PySem.W.OpenLaw.row PySem.Challenge.rw_lagbound_k42_growth_judged
abbrev hk : PySem.W.Hook := hookP 4 fas fns prs
def ob (s : PySem.W.SharedT) : Al := obsPG 4 fas fns prs (HandSHeadRun.getT s)
theorem ob_eq (s : PySem.W.SharedT) : ob s = hk.obs s.abs := obsPG_eq (HandSHeadRun.getT_eq s)
theorem run (w : World) : HandSHeadRun.RunEq RR (PySem.W.view RR.prog [82]) hk ob 6000 nms w := by
  intro os
  kernel_rfl
end GJ

set_option Elab.async false
set_option linter.all false
set_option maxRecDepth 100000
set_option maxHeartbeats 4000000
namespace GJ
open PySem PySem.Spec PyProof.Rows L2

/-! ### a def's promise, its call -/
structure Ok (P : Program) (w : World) (K : PySem.W.Frag) (mg : Str → Option Value) (base : Heap) (x : Str) (k : Nat) (ps : List Str) (sp : Sp) : Prop where
  ex : ∃ fd, FnOk P w K mg base CX0 k (He.ga K x) fd ps sp ∧ Binds K fd ps []
  kp : PySem.W.keepIn K (.ref (He.ga K x)) = true
  gl : mg x = some (.ref (He.ga K x))
theorem ok_mk {P : Program} {w : World} {K : PySem.W.Frag} {mg : Str → Option Value} {base : Heap} {x : Str} {k : Nat} {N ps : List Str} {sp : Sp} (i j : Nat) (En : Env K mg fas fns prs)
    (S : FnScope N ps (defScope (top j)))
    (hb : ∀ (kV doc pm : Value) (an : Option Addr) (cdv ct : Value) (us : List Value), us.length = ps.length → bindArgs (PySem.W.fnOf x x (defArgs (top j)) (defBody (top j)) (defScope (top j)) .none kV doc pm an cdv ct) ⟨us, []⟩ = pure (ps.zip us))
    (len : ∀ vs H Q E, sp vs H Q E → vs.length = ps.length)
    (body : ∀ (f : Addr) (cdv : Value) (A : Around) (outer : List PySem.Env) (s : Shared) (H : Hp) (vs : List V) (Q : VK) (E : XK), Room k (A.deeper (envOfC x (defScope (top j)) s.heap.objs.size f cdv)) → sp vs H Q E →
      ∃ t, PSs (cxOf CX0 P w K mg base N x (defScope (top j)) f cdv A outer s H E).nox (defBody (top j)) t ∧ t { nx := fun _ H' => Q .non H', rt := Q } (start N vs) H)
    (hi : fns[i]? = some (dfn x j) := by rfl) (hf : fas[i]? = some (.glo x) := by rfl) : Ok P w K mg base x (k + 1) ps sp := by
  obtain ⟨fd, F⟩ := En.fn i _ hi
  have F' : FunD K x x (defArgs (top j)) (defBody (top j)) (defScope (top j)) [] [] (He.ga K x) fd := F
  refine ⟨⟨fd, F'.ok S len fun cdv A outer s H vs Q E hr h => ?_, F'.bindsN hb⟩, F'.kp, En.glo x (En.fa i _ hf)⟩
  obtain ⟨t, h1, h2⟩ := body _ cdv A outer s H vs Q E hr h
  exact ⟨t, h1.nox, h2⟩
section
variable {X : Cx} {x : Str} {p pos : Pos} {e : Expr} {es : List Expr} {t : TA} {k : Nat} {ps : List Str} {sp : Sp}
theorem pe_fn (O : Ok X.prog X.w X.K X.mg X.base x k ps sp) (hr : Room k X.A) (ha : PA X (e :: es) t) (hg : Gl X x := by rfl) (hdb : (x == ("__debug__" : Str)) = false := by decide)
    (he : starEach (e :: es) X.env = (false, eval e X.env) :: starEach es X.env := by rfl) (hpl : (backTo pos (starEach es X.env)).any (·.1) = false := by rfl) : PE X (.Call (.Name x p) (e :: es) [] pos) (tCall sp [] E0 t) := by
  obtain ⟨fd, F, b⟩ := O.ex
  exact pe_call F hr hg O.gl O.kp b .nil pass0 ha hdb he hpl
theorem Ok.imp {P : Program} {w : World} {K : PySem.W.Frag} {mg : Str → Option Value} {base : Heap} {sp' : Sp} (O : Ok P w K mg base x k ps sp) (h : ∀ vs H Q E, sp' vs H Q E → sp vs H Q E) : Ok P w K mg base x k ps sp' := by
  obtain ⟨fd, F, b⟩ := O.ex
  exact ⟨⟨fd, F.imp h, b⟩, O.kp, O.gl⟩
end

/-! ### data that stands in the heap -/
mutual
inductive DA (H : Hp) : V → PyData → Prop
  | non : DA H .non .none
  | bl (b : Bool) : DA H (.bl b) (.bool b)
  | int (i : Int) : DA H (.int i) (.int i)
  | str (x : Str) : DA H (.str x) (.str x)
  | lst {a : Addr} {xs : List V} {ds : List PyData} : H a = some (.lst xs) → DAs H xs ds → DA H (.ref a) (.list ds)
  | tup {a : Addr} {xs : List V} {ds : List PyData} : H a = some (.tup xs) → DAs H xs ds → DA H (.ref a) (.tuple ds)
inductive DAs (H : Hp) : List V → List PyData → Prop
  | nil : DAs H [] []
  | cons {v : V} {vs : List V} {d : PyData} {ds : List PyData} : DA H v d → DAs H vs ds → DAs H (v :: vs) (d :: ds)
end
mutual
theorem DA.same {H H' : Hp} (e : Same H H') : ∀ (d : PyData) {v : V}, DA H v d → DA H' v d
  | .none, _, .non => .non
  | .bool b, _, .bl _ => .bl b
  | .int i, _, .int _ => .int i
  | .str x, _, .str _ => .str x
  | .list ds, _, .lst h r => .lst (e _ _ h) (DAs.same e ds r)
  | .tuple ds, _, .tup h r => .tup (e _ _ h) (DAs.same e ds r)
  | .dict _, _, h => nomatch h
theorem DAs.same {H H' : Hp} (e : Same H H') : ∀ (ds : List PyData) {vs : List V}, DAs H vs ds → DAs H' vs ds
  | [], _, .nil => .nil
  | d :: ds, _, .cons h r => .cons (DA.same e d h) (DAs.same e ds r)
end
theorem DA.up {H H' : Hp} {v : V} {d : PyData} (h : DA H v d) (e : Same H H') : DA H' v d := DA.same e d h
theorem DAs.up {H H' : Hp} {vs : List V} {ds : List PyData} (h : DAs H vs ds) (e : Same H H') : DAs H' vs ds := DAs.same e ds h
mutual
theorem DA.dp {K : PySem.W.Frag} {H : Hp} : ∀ (d : PyData) {v : V}, DA H v d → Dp K H v d
  | .none, _, .non => .non
  | .bool b, _, .bl _ => .bl b
  | .int i, _, .int _ => .int i
  | .str x, _, .str _ => .str x
  | .list ds, _, .lst h r => .lst (SqL.of h) (DAs.dp ds r)
  | .tuple ds, _, .tup h r => .tup (SqT.of h) (DAs.dp ds r)
  | .dict _, _, h => nomatch h
theorem DAs.dp {K : PySem.W.Frag} {H : Hp} : ∀ (ds : List PyData) {vs : List V}, DAs H vs ds → DpAll K H vs ds
  | [], _, .nil => .nil
  | d :: ds, _, .cons h r => .cons (DA.dp d h) (DAs.dp ds r)
end
theorem DA.tup_inv {H : Hp} {v : V} {ds : List PyData} (h : DA H v (.tuple ds)) : ∃ a xs, v = .ref a ∧ H a = some (.tup xs) ∧ DAs H xs ds := by
  cases h with
  | tup h r => exact ⟨_, _, rfl, h, r⟩
theorem DA.lst_inv {H : Hp} {v : V} {ds : List PyData} (h : DA H v (.list ds)) : ∃ a xs, v = .ref a ∧ H a = some (.lst xs) ∧ DAs H xs ds := by
  cases h with
  | lst h r => exact ⟨_, _, rfl, h, r⟩
theorem DA.int_inv {H : Hp} {v : V} {i : Int} (h : DA H v (.int i)) : v = .int i := by cases h; rfl
theorem DA.str_inv {H : Hp} {v : V} {i : Str} (h : DA H v (.str i)) : v = .str i := by cases h; rfl
theorem DA.bl_inv {H : Hp} {v : V} {i : Bool} (h : DA H v (.bool i)) : v = .bl i := by cases h; rfl
theorem DAs.len {H : Hp} : ∀ {vs : List V} {ds : List PyData}, DAs H vs ds → vs.length = ds.length
  | _, _, .nil => rfl
  | _, _, .cons _ r => congrArg Nat.succ (DAs.len r)
theorem DAs.get {H : Hp} : ∀ {vs : List V} {ds : List PyData} {i : Nat} {v : V}, DAs H vs ds → vs[i]? = some v → ∃ d, ds[i]? = some d ∧ DA H v d
  | _, _, 0, _, .cons h _, e => ⟨_, rfl, by cases (Option.some.inj e); exact h⟩
  | _, _, i + 1, v, .cons _ r, e => by
    obtain ⟨d, h1, h2⟩ := DAs.get (i := i) r (by simpa using e)
    exact ⟨d, by simpa using h1, h2⟩
theorem DAs.getD {H : Hp} : ∀ {vs : List V} {ds : List PyData} {i : Nat} {d : PyData}, DAs H vs ds → ds[i]? = some d → ∃ v, vs[i]? = some v ∧ DA H v d
  | _, _, 0, _, .cons h _, e => ⟨_, rfl, by cases (Option.some.inj e); exact h⟩
  | _, _, i + 1, d, .cons _ r, e => by
    obtain ⟨v, h1, h2⟩ := DAs.getD (i := i) r (by simpa using e)
    exact ⟨v, by simpa using h1, h2⟩
theorem DAs.append {H : Hp} : ∀ {vs ws : List V} {ds es : List PyData}, DAs H vs ds → DAs H ws es → DAs H (vs ++ ws) (ds ++ es)
  | _, _, _, _, .nil, s => s
  | _, _, _, _, .cons h r, s => .cons h (DAs.append r s)
theorem DAs.drop {H : Hp} : ∀ {vs : List V} {ds : List PyData} (n : Nat), DAs H vs ds → DAs H (vs.drop n) (ds.drop n)
  | _, _, 0, h => h
  | _, _, _ + 1, .nil => .nil
  | _, _, n + 1, .cons _ r => DAs.drop n r
theorem DAs.take {H : Hp} : ∀ {vs : List V} {ds : List PyData} (n : Nat), DAs H vs ds → DAs H (vs.take n) (ds.take n)
  | _, _, 0, _ => .nil
  | _, _, _ + 1, .nil => .nil
  | _, _, n + 1, .cons h r => .cons h (DAs.take n r)
theorem DAs.set {H : Hp} {v : V} {d : PyData} (h : DA H v d) : ∀ {vs : List V} {ds : List PyData} (n : Nat), DAs H vs ds → DAs H (vs.set n v) (ds.set n d)
  | _, _, _, .nil => .nil
  | _, _, 0, .cons _ r => .cons h r
  | _, _, n + 1, .cons g r => .cons g (DAs.set h n r)
theorem DAs.of_get {H : Hp} : ∀ {vs : List V} {ds : List PyData}, vs.length = ds.length → (∀ (i : Nat) v d, vs[i]? = some v → ds[i]? = some d → DA H v d) → DAs H vs ds
  | [], [], _, _ => .nil
  | [], _ :: _, h, _ => nomatch h
  | _ :: _, [], h, _ => nomatch h
  | v :: vs, d :: ds, h, g => .cons (g 0 v d rfl rfl) (DAs.of_get (Nat.succ.inj h) fun i v' d' e1 e2 => g (i + 1) v' d' (by simpa using e1) (by simpa using e2))
theorem DAs.cons_inv {H : Hp} {vs : List V} {d : PyData} {ds : List PyData} (h : DAs H vs (d :: ds)) : ∃ v vs', vs = v :: vs' ∧ DA H v d ∧ DAs H vs' ds := by
  cases h with
  | cons a b => exact ⟨_, _, rfl, a, b⟩
theorem DAs.nil_inv {H : Hp} {vs : List V} (h : DAs H vs []) : vs = [] := by cases h; rfl
theorem DAs.one {H : Hp} {v : V} {d : PyData} (h : DA H v d) : DAs H [v] [d] := .cons h .nil

/-! ### the store apart: its list, its cells, and what is still being made -/
structure Zz where
  s : Addr
  c : Addr
  m : List Addr
def hide (z : Zz) (H : Hp) : Hp := fun b => if b = z.s ∨ b = z.c ∨ b ∈ z.m then none else H b
theorem hide_le (z : Zz) (H : Hp) : Same (hide z H) H := fun b o h => by
  unfold hide at h
  split at h
  · cases h
  · exact h
theorem hide_some {z : Zz} {H : Hp} {b : Addr} {o : HO} (h : hide z H b = some o) : (b ≠ z.s ∧ b ≠ z.c ∧ b ∉ z.m) ∧ H b = some o := by
  unfold hide at h
  split at h
  · cases h
  · rename_i n
    exact ⟨⟨fun e => n (.inl e), fun e => n (.inr (.inl e)), fun e => n (.inr (.inr e))⟩, h⟩
theorem hide_of {z : Zz} {H : Hp} {b : Addr} {o : HO} (n : b ≠ z.s ∧ b ≠ z.c ∧ b ∉ z.m) (h : H b = some o) : hide z H b = some o := by
  unfold hide
  rw [if_neg (fun e => e.elim n.1 fun e => e.elim n.2.1 n.2.2)]
  exact h
theorem hide_none {z : Zz} {H : Hp} {b : Addr} (h : H b = none) : hide z H b = none := by
  unfold hide
  split
  · rfl
  · exact h
/-- the store stands -/
def St (z : Zz) (H : Hp) : Prop := z.s ≠ z.c ∧ (∃ (ns : List Int) (i x t d : Int), H z.s = some (.lst [.ref z.c, .int i, .int x, .int t, .int d]) ∧ H z.c = some (.lst (ns.map V.int)) ∧ 0 ≤ i) ∧ ∀ b ∈ z.m, ∃ o, H b = some o
/-- from H to H' the store stays a store, all else stays -/
structure Wd (z : Zz) (H H' : Hp) : Prop where
  st : St z H'
  kp : ∀ b o, b ≠ z.s → b ≠ z.c → H b = some o → H' b = some o
theorem St.ne {z : Zz} {H : Hp} {p : Addr} (h : St z H) (hp : H p = none) : p ≠ z.s ∧ p ≠ z.c ∧ p ∉ z.m := by
  obtain ⟨_, ⟨ns, i, x, t, d, h1, h2, _⟩, h3⟩ := h
  refine ⟨(ne_of_none h1 hp).symm, (ne_of_none h2 hp).symm, fun e => ?_⟩
  obtain ⟨o, e2⟩ := h3 p e
  rw [hp] at e2
  cases e2
theorem Wd.refl {z : Zz} {H : Hp} (h : St z H) : Wd z H H := ⟨h, fun _ _ _ _ e => e⟩
theorem Wd.trans {z : Zz} {H H1 H2 : Hp} (a : Wd z H H1) (b : Wd z H1 H2) : Wd z H H2 := ⟨b.st, fun c o n1 n2 e => b.kp c o n1 n2 (a.kp c o n1 n2 e)⟩
theorem Wd.up {z : Zz} {H H' : Hp} (w : Wd z H H') : Same (hide z H) (hide z H') := fun b o e => by
  obtain ⟨n, e2⟩ := hide_some e
  exact hide_of n (w.kp b o n.1 n.2.1 e2)
theorem St.put {z : Zz} {H : Hp} {p : Addr} {o : HO} (h : St z H) (h1 : p ≠ z.s) (h2 : p ≠ z.c) : St z (upd H p o) := by
  obtain ⟨n, ⟨ns, i, x, t, d, a, b, c⟩, e⟩ := h
  refine ⟨n, ⟨ns, i, x, t, d, by rw [upd_ne h1.symm]; exact a, by rw [upd_ne h2.symm]; exact b, c⟩, fun q hq => ?_⟩
  by_cases hp : q = p
  · exact ⟨o, by rw [hp, upd_same]⟩
  · rw [upd_ne hp]; exact e q hq
/-- an object that H does not hold is changed -/
theorem Wd.put {z : Zz} {H H' : Hp} {p : Addr} {o : HO} (w : Wd z H H') (h0 : H p = none) (h1 : p ≠ z.s) (h2 : p ≠ z.c) : Wd z H (upd H' p o) := by
  refine ⟨w.st.put h1 h2, fun b u n1 n2 e => ?_⟩
  rw [upd_ne (ne_of_none e h0)]
  exact w.kp b u n1 n2 e
theorem Wd.new {z : Zz} {H H' : Hp} {p : Addr} {o : HO} (w : Wd z H H') (hp : H' p = none) : Wd z H (upd H' p o) := by
  obtain ⟨h1, h2, _⟩ := w.st.ne hp
  refine ⟨w.st.put h1 h2, fun b u n1 n2 e => ?_⟩
  rw [upd_ne (ne_of_none (w.kp b u n1 n2 e) hp)]
  exact w.kp b u n1 n2 e
theorem Wd.here {z : Zz} {H H' : Hp} {p : Addr} {o : HO} (w : Wd z H H') (hp : H' p = none) : hide z (upd H' p o) p = some o := hide_of (w.st.ne hp) upd_same
/-- a tracked thing that is not of the store -/
theorem Wd.at {z : Zz} {H H' : Hp} {b : Addr} {o : HO} (w : Wd z H H') (h : hide z H b = some o) : H' b = some o := hide_le z H' b o (w.up b o h)
theorem Wd.da {z : Zz} {H H' : Hp} {v : V} {d : PyData} (w : Wd z H H') (h : DA (hide z H) v d) : DA (hide z H') v d := h.up w.up
theorem Wd.das {z : Zz} {H H' : Hp} {v : List V} {d : List PyData} (w : Wd z H H') (h : DAs (hide z H) v d) : DAs (hide z H') v d := h.up w.up
theorem DA.un {z : Zz} {H : Hp} {v : V} {d : PyData} (h : DA (hide z H) v d) : DA H v d := h.up (hide_le z H)
theorem DAs.un {z : Zz} {H : Hp} {v : List V} {d : List PyData} (h : DAs (hide z H) v d) : DAs H v d := h.up (hide_le z H)
/-- what is free behind was free ahead -/
theorem Wd.nul {z : Zz} {H H' : Hp} {p : Addr} (w : Wd z H H') (h : St z H) (hp : H' p = none) : H p = none := by
  obtain ⟨h1, h2, _⟩ := w.st.ne hp
  cases q : H p with
  | none => rfl
  | some o =>
    rw [w.kp p o h1 h2 q] at hp
    cases hp
theorem Same.new {H : Hp} {p : Addr} {o : HO} (h : H p = none) : Same H (upd H p o) := fun b u e => by rw [upd_ne (ne_of_none e h)]; exact e
theorem Same.put {H H' : Hp} {p : Addr} {o : HO} (e : Same H H') (h : H p = none) : Same H (upd H' p o) := fun b u q => by rw [upd_ne (ne_of_none q h)]; exact e b u q
/-- what keeps all keeps the store -/
theorem Wd.of_same {z : Zz} {H H' : Hp} (h : St z H) (e : Same H H') : Wd z H H' := by
  obtain ⟨n, ⟨ns, i, x, t, d, a, b, c⟩, h3⟩ := h
  exact ⟨⟨n, ⟨ns, i, x, t, d, e _ _ a, e _ _ b, c⟩, fun q hq => let ⟨o, z⟩ := h3 q hq; ⟨o, e _ _ z⟩⟩, fun b u _ _ q => e _ _ q⟩
/-! one more thing apart: a list that grows -/
def Zz.add (z : Zz) (p : Addr) : Zz := { z with m := p :: z.m }
theorem St.add {z : Zz} {H : Hp} {p : Addr} {o : HO} (h : St z H) (e : H p = some o) : St (z.add p) H :=
  ⟨h.1, h.2.1, fun b hb => (List.mem_cons.mp hb).elim (fun q => ⟨o, q ▸ e⟩) (h.2.2 b)⟩
theorem St.drop {z : Zz} {H : Hp} {p : Addr} (h : St (z.add p) H) : St z H := ⟨h.1, h.2.1, fun b hb => h.2.2 b (List.mem_cons_of_mem _ hb)⟩
theorem Wd.drop {z : Zz} {H H' : Hp} {p : Addr} (w : Wd (z.add p) H H') : Wd z H H' := ⟨w.st.drop, w.kp⟩
theorem hide_drop (z : Zz) (H : Hp) (p : Addr) : Same (hide (z.add p) H) (hide z H) := fun b o e => by
  obtain ⟨n, e2⟩ := hide_some e
  exact hide_of ⟨n.1, n.2.1, fun q => n.2.2 (List.mem_cons_of_mem _ q)⟩ e2
theorem hide_add {z : Zz} {H H' : Hp} {p : Addr} (w : Wd z H H') (h : H p = none) : Same (hide z H) (hide (z.add p) H') := fun b o e => by
  obtain ⟨n, e2⟩ := hide_some e
  exact hide_of ⟨n.1, n.2.1, fun q => (List.mem_cons.mp q).elim (ne_of_none e2 h) n.2.2⟩ (w.kp b o n.1 n.2.1 e2)
theorem hide_upd (z : Zz) (H : Hp) (p : Addr) (o : HO) : Same (hide (z.add p) H) (hide (z.add p) (upd H p o)) := fun b u e => by
  obtain ⟨n, e2⟩ := hide_some e
  have hb : b ≠ p := fun q => n.2.2 (by rw [q]; exact List.mem_cons_self)
  exact hide_of n (by rw [upd_ne hb]; exact e2)
end GJ

set_option Elab.async false
set_option linter.all false
set_option maxRecDepth 100000
set_option maxHeartbeats 4000000
namespace GJ
open PySem PySem.Spec PyProof.Rows L2
section
variable {K : PySem.W.Frag} {H : Hp} {Q : VK} {x y : V}
/-- a % b, the divisor positive: the rest as a letter -/
def rMod : R2 := fun x y H Q => ∃ i j : Int, x = .int i ∧ y = .int j ∧ 0 < j ∧ ∀ r : Int, 0 ≤ r → r < j → r = i % j → Q (.int r) H
theorem op_modR {X : Cx} : OpR X (binaryOp .Mod) rMod := fun pins s σ H x y v u Q I rx ry h => by
  obtain ⟨i, j, e1, e2, hj, q⟩ := h
  exact op_mod pins s σ H x y v u Q I rx ry ⟨i, j, e1, e2, hj, q _ (Int.emod_nonneg _ (by omega)) (Int.emod_lt_of_pos _ hj) rfl⟩
def rMax : List V → Hp → VK → Prop := fun xs H Q => ∃ i j : Int, xs = [.int i, .int j] ∧ ∀ r : Int, i ≤ r → j ≤ r → (r = i ∨ r = j) → Q (.int r) H
theorem call_maxR {X : Cx} (hc : X.calm = true) : CallR X (.builtin "max") rMax := fun pins s σ H xs us Q I r h => by
  obtain ⟨i, j, e, q⟩ := h
  refine call_max2 hc pins s σ H xs us Q I r ⟨i, j, e, ?_⟩
  by_cases hj : j > i
  · rw [if_pos hj]; exact q _ (by omega) (Int.le_refl _) (.inr rfl)
  · rw [if_neg hj]; exact q _ (Int.le_refl _) (by omega) (.inl rfl)
def rMin : List V → Hp → VK → Prop := fun xs H Q => ∃ i j : Int, xs = [.int i, .int j] ∧ ∀ r : Int, r ≤ i → r ≤ j → (r = i ∨ r = j) → Q (.int r) H
theorem call_minR {X : Cx} (hc : X.calm = true) : CallR X (.builtin "min") rMin := fun pins s σ H xs us Q I r h => by
  obtain ⟨i, j, e, q⟩ := h
  refine call_min2 hc pins s σ H xs us Q I r ⟨i, j, e, ?_⟩
  by_cases hj : j < i
  · rw [if_pos hj]; exact q _ (by omega) (Int.le_refl _) (.inr rfl)
  · rw [if_neg hj]; exact q _ (Int.le_refl _) (by omega) (.inl rfl)
/-- text * int -/
def rMulStr : R2 := fun x y H Q => ∃ (a : Str) (n : Int), x = .str a ∧ y = .int n ∧ a.length ≤ 1000 ∧ n ≤ 1000 ∧ -1000 ≤ n ∧ Q (.str (Txt.mul a n)) H
theorem op_mulStr {X : Cx} : OpR X (binaryOp .Mult) rMulStr := fun pins s σ H x y v u Q I rx ry h => by
  obtain ⟨a, n, rfl, rfl, h1, h2, h3, q⟩ := h
  obtain ⟨t, rfl⟩ := rx
  obtain ⟨t', rfl⟩ := ry
  refine SB.mul ⟨?_, fun _ _ => ?_, fun _ _ => ?_⟩ fun t' tk => ⟨.str (Txt.mul a n), H, I.tok _, ⟨_, rfl⟩, q⟩
  · simp only [Bool.or_eq_false_iff, decide_eq_false_iff_not]
    omega
  · have h4 : (a.length : Int) * n ≤ 1000 * 1000 := Int.mul_le_mul (by omega) h2 (by omega) (by omega)
    have h5 : (a.length : Int) ≤ (2 ^ 63 - 1) / n := Int.le_ediv_of_mul_le (by omega) (by omega)
    omega
  · unfold PySem.Builtin.Str.tooLong
    have hs : sizeLine = 16777216 := sizeLine_eq
    have : a.length * n.toNat ≤ 1000 * 1000 := Nat.mul_le_mul h1 (by omega)
    simp only [decide_eq_false_iff_not]
    omega
/-! the rules that name the written part, with the part given (within a comprehension's block) -/
section
variable {X : Cx} {K : PySem.W.Frag}
theorem ix_listK (h : X.K = K) : IxR X (rIxL K) := h ▸ ix_list
theorem ix_tupK (h : X.K = K) : IxR X (rIxT K) := h ▸ ix_tup
theorem ix_seqK (h : X.K = K) : IxR X (rIx K) := h ▸ ix_seq
theorem op_in_seqK (h : X.K = K) : OpR X (compareOp .In) (rIn K false) := h ▸ op_in_seq
theorem op_notIn_seqK (h : X.K = K) : OpR X (compareOp .NotIn) (rIn K true) := h ▸ op_notIn_seq
theorem op_eqDK (h : X.K = K) (hu : X.A.units + 64 < cLine) : OpR X (compareOp .Eq) (rEqD K) := h ▸ op_eqD hu
theorem op_neDK (h : X.K = K) (hu : X.A.units + 64 < cLine) : OpR X (compareOp .NotEq) (rNeD K) := h ▸ op_neD hu
theorem op_inDK (h : X.K = K) (hu : X.A.units + 65 < cLine) : OpR X (compareOp .In) (rInD K) := h ▸ op_inD hu
theorem op_catTK (h : X.K = K) : OpR X (binaryOp .Add) (rCatT K) := h ▸ op_catT
def rLenK (K : PySem.W.Frag) : List V → Hp → VK → Prop := fun xs H Q => ∃ x n, xs = [x] ∧ LenV K x H n ∧ Q (.int n) H
theorem call_lenK (h : X.K = K) : CallR X (.builtin "len") (rLenK K) := h ▸ call_len
def rListK (K : PySem.W.Frag) : List V → Hp → VK → Prop := fun xs H Q => ∃ p ys, xs = [.ref p] ∧ (SqL K H p ys ∨ SqT K H p ys) ∧ ∀ l, H l = none → Q (.ref l) (upd H l (.lst ys))
theorem call_list_ofK (h : X.K = K) : CallR X (.type "list") (rListK K) := h ▸ call_list_of
theorem call_isiK2 (h : X.K = K) : CallR X (.builtin "isinstance") (rIsi K) := h ▸ call_isi
theorem call_isiTK (h : X.K = K) : CallR X (.builtin "isinstance") (rIsiT K) := h ▸ call_isiT
theorem pi_listK {tg l : Expr} {tl : TE} (h : X.K = K) (hl : PE X l tl) : PI X tg l (iList K tl) := h ▸ pi_list hl
theorem pi_tupK {tg l : Expr} {tl : TE} (h : X.K = K) (hl : PE X l tl) : PI X tg l (iTup K tl) := h ▸ pi_tup hl
theorem sl_listK (h : X.K = K) : SlR X (rSlL K) := h ▸ sl_list
theorem sl_tupK (h : X.K = K) : SlR X (rSlT K) := h ▸ sl_tup
end
theorem map_erase {α β : Type} (f : α → β) : ∀ (l : List α) (n : Nat), (l.map f).eraseIdx n = (l.eraseIdx n).map f
  | [], _ => rfl
  | _ :: _, 0 => rfl
  | a :: l, n + 1 => congrArg (List.cons (f a)) (map_erase f l n)
theorem szle {n : Nat} (h : n ≤ 100000) : n ≤ sizeLine := Nat.le_trans h (by decide)
theorem szr {n : Nat} (h : Nat.ble n 100000 = true) : n ≤ sizeLine := szle (Nat.le_of_ble_eq_true h)
theorem itY {c A B : Prop} [Decidable c] (h : c) (a : A) : if c then A else B := by rw [if_pos h]; exact a
theorem itN {c A B : Prop} [Decidable c] (h : ¬ c) (a : B) : if c then A else B := by rw [if_neg h]; exact a
theorem st_mod {i j : Int} (hj : 0 < j) (h : ∀ r : Int, 0 ≤ r → r < j → Q (.int r) H) : rI (fun _ j => 0 < j) (fun i j => .int (i % j)) (.int i) (.int j) H Q :=
  ⟨i, j, rfl, rfl, hj, h _ (Int.emod_nonneg _ (by omega)) (Int.emod_lt_of_pos _ hj)⟩
theorem st_mul {i j : Int} (hj : CMul i j) (h : Q (.int (i * j)) H) : rI CMul (fun i j => .int (i * j)) (.int i) (.int j) H Q := ⟨i, j, rfl, rfl, hj, h⟩
theorem st_div {i j : Int} (hj : CDiv i j) (h : Q (.int (i / j)) H) : rI CDiv (fun i j => .int (i / j)) (.int i) (.int j) H Q := ⟨i, j, rfl, rfl, hj, h⟩
theorem st_ixL {p : Addr} {xs : List V} {i : Int} {v : V} (h : H p = some (.lst xs)) (e : atI xs i = some v) (q : Q v H) : rIxL K (.ref p) (.int i) H Q := ⟨p, xs, i, v, rfl, rfl, SqL.of h, e, q⟩
theorem st_ixT {p : Addr} {xs : List V} {i : Int} {v : V} (h : H p = some (.tup xs)) (e : atI xs i = some v) (q : Q v H) : rIxT K (.ref p) (.int i) H Q := ⟨p, xs, i, v, rfl, rfl, SqT.of h, e, q⟩
theorem at_nn {α : Type} {xs : List α} {i : Int} (h0 : 0 ≤ i) (h1 : i < xs.length) : ∃ v, xs[i.toNat]? = some v ∧ atI xs i = some v := by
  have hl : i.toNat < xs.length := by omega
  refine ⟨xs[i.toNat], List.getElem?_eq_getElem hl, ?_⟩
  have e : i = (i.toNat : Int) := by omega
  have := atI_nat (xs := xs) (j := i.toNat) (List.getElem?_eq_getElem hl)
  rw [← e] at this
  exact this
theorem at_mem {α : Type} {xs : List α} {i : Int} {v : α} (h : xs[i.toNat]? = some v) : v ∈ xs := List.mem_of_getElem? h
theorem V.int_ne {a b : Int} : decide (V.int a = V.int b) = decide (a = b) := by
  by_cases h : a = b
  · subst h; simp
  · have : ¬ V.int a = V.int b := fun e => h (V.int.inj e)
    rw [decide_eq_false h, decide_eq_false this]
theorem len_str {z : Str} (h : z.length ≤ 1000000) : LenV K (.str z) H z.length := ⟨Nat.le_trans h (by decide), rfl⟩
theorem len_lst {p : Addr} {xs : List V} (h : H p = some (.lst xs)) : LenV K (.ref p) H xs.length := .inl ⟨xs, SqL.of h, rfl⟩
theorem len_tup {p : Addr} {xs : List V} (h : H p = some (.tup xs)) : LenV K (.ref p) H xs.length := .inr ⟨xs, SqT.of h, rfl⟩
end
end GJ

set_option Elab.async false
set_option linter.all false
set_option maxRecDepth 100000
set_option maxHeartbeats 4000000
namespace GJ
open PySem PySem.Spec PyProof.Rows L2 TL
/-! ### texts as lists of signs -/
theorem tl_len (x : Str) : x.length = (tl x).length := rfl
theorem tl_ext {x y : Str} (h : tl x = tl y) : x = y := by rw [← mk_tl x, ← mk_tl y, h]
theorem tl_empty : tl ("" : Str) = [] := rfl
theorem tl_one (c : Nat) : tl (⟨#[c]⟩ : Str) = [c] := rfl
theorem fold_app (c : Array Nat) : ∀ (n : Nat) (a : Array Nat), ((List.replicate n c).foldl (· ++ ·) a).toList = a.toList ++ (List.replicate n c.toList).flatten
  | 0, a => by simp
  | n + 1, a => by
    rw [List.replicate_succ, List.foldl_cons, fold_app c n, List.replicate_succ, List.flatten_cons, Array.toList_append, List.append_assoc]
theorem tl_mul (a : Str) (n : Int) : tl (Txt.mul a n) = (List.replicate n.toNat (tl a)).flatten := by
  unfold Txt.mul
  by_cases h : n < 1
  · rw [if_pos h]
    have : n.toNat = 0 := by omega
    rw [this]
    rfl
  · rw [if_neg h]
    by_cases h2 : (n == 1 || a.length == 0) = true
    · rw [if_pos h2]
      rcases Bool.or_eq_true_iff.mp h2 with h3 | h3
      · have e : n = 1 := by simpa using h3
        subst e
        show tl a = (List.replicate 1 (tl a)).flatten
        simp
      · have e : tl a = [] := by
          have : a.length = 0 := by simpa using h3
          exact List.length_eq_zero_iff.mp this
        rw [e]
        simp
    · rw [if_neg h2]
      show ((List.replicate n.toNat a.cps).foldl (· ++ ·) #[]).toList = _
      rw [fold_app]
      rfl
theorem joinL_nil : ∀ l : List (List Nat), joinL [] l = l.flatten
  | [] => rfl
  | [p] => by simp [joinL]
  | p :: q :: r => by
    show p ++ ([] ++ joinL [] (q :: r)) = _
    rw [joinL_nil (q :: r)]
    simp
theorem tl_join0 (ys : List Str) : tl (Txt.join "" ys) = (ys.map tl).flatten := by
  rw [join_eq, tl_join]
  exact joinL_nil _
theorem tl_cut (z : Str) (lo hi : Option Int) : tl (cutS z lo hi) = ((tl z).drop (HT.sIx z.length 0 lo)).take (HT.sIx z.length z.length hi - HT.sIx z.length 0 lo) := rfl
theorem tl_pre {z : Str} {n : Int} (h : 0 ≤ n) : tl (cutS z none (some n)) = (tl z).take n.toNat := by
  rw [tl_cut]
  have e : n = (n.toNat : Int) := by omega
  rw [e, HT.sIx_none, HT.sIx_nat, List.drop_zero, Nat.sub_zero, Int.toNat_natCast, tl_len]
  rw [← List.take_take, List.take_length]
theorem tl_suf {z : Str} {n : Int} (h : 0 ≤ n) : tl (cutS z (some n) none) = (tl z).drop n.toNat := by
  rw [tl_cut]
  have e : n = (n.toNat : Int) := by omega
  rw [e, HT.sIx_none, HT.sIx_nat, Int.toNat_natCast, tl_len]
  by_cases h2 : n.toNat ≤ (tl z).length
  · rw [Nat.min_eq_left h2, List.take_of_length_le (by rw [List.length_drop]; omega)]
  · rw [Nat.min_eq_right (by omega), List.drop_length, List.drop_of_length_le (by omega)]
    simp
theorem tl_sub {z : Str} {a b : Nat} (h1 : a ≤ b) (h2 : b ≤ (tl z).length) : tl (cutS z (some (a : Int)) (some (b : Int))) = ((tl z).drop a).take (b - a) := by
  rw [tl_cut, HT.sIx_nat, HT.sIx_nat, tl_len, Nat.min_eq_left h2, Nat.min_eq_left (by omega)]
theorem cut_len (z : Str) (lo hi : Option Int) : (cutS z lo hi).length ≤ z.length := by
  rw [tl_len, tl_cut, List.length_take, List.length_drop, tl_len]
  omega
theorem sla (x y : Str) : (x ++ y).length = x.length + y.length := by rw [tl_len, tl_append, List.length_append]; rfl
theorem cut2 (x : Str) {a b : Int} (h0 : 0 ≤ a) (h1 : a ≤ b) : (cutS x none (some a)).length + (cutS x (some b) none).length ≤ x.length := by
  rw [tl_len, tl_len, tl_len, tl_pre h0, tl_suf (by omega), List.length_take, List.length_drop]
  omega
theorem cut_mem {z : Str} {lo hi : Option Int} {c : Nat} (h : c ∈ tl (cutS z lo hi)) : c ∈ tl z := by
  rw [tl_cut] at h
  exact List.mem_of_mem_drop (List.mem_of_mem_take h)
theorem tw_all {p : Nat → Bool} : ∀ {l : List Nat}, (∀ c ∈ l, p c = true) → l.takeWhile p = l
  | [], _ => rfl
  | c :: l, h => by
    rw [List.takeWhile_cons, if_pos (h c List.mem_cons_self), tw_all fun d hd => h d (List.mem_cons_of_mem _ hd)]
theorem strip_all {x y : Str} (h : ∀ c ∈ tl x, c ∈ tl y) : Txt.stripChars x y = ("" : Str) := by
  have e1 : PySem.stripLo y.cps.contains true x = (tl x).length := by
    show ((tl x).takeWhile y.cps.contains).length = _
    have : (tl x).takeWhile y.cps.contains = tl x := tw_all fun c hc => by
      have h2 : c ∈ y.cps.toList := h c hc
      exact Array.contains_iff_mem.mpr (Array.mem_toList_iff.mp h2)
    rw [this]
  have e2 : PySem.stripHi y.cps.contains true x (tl x).length = x.length := by
    show x.length - (((tl x).drop (tl x).length).reverse.takeWhile _).length = _
    rw [List.drop_length]
    rfl
  refine tl_ext ?_
  unfold Txt.stripChars Txt.stripBy PySem.stripSame PySem.stripped
  rw [e1, e2]
  split
  · rename_i q
    have : (tl x).length = 0 := by
      simp only [Bool.and_eq_true, beq_iff_eq] at q
      exact q.1
    rw [List.length_eq_zero_iff.mp this]
    rfl
  · rw [tl_strSub, tl_len, Nat.sub_self, List.take_zero]
    rfl
/-- a word over the letters, of at most n signs -/
def Wo (wr : Str) (n : Nat) (x : Str) : Prop := (tl x).length ≤ n ∧ ∀ c ∈ tl x, c ∈ tl wr
theorem Wo.mono {wr : Str} {m n : Nat} {x : Str} (h : Wo wr m x) (l : m ≤ n) : Wo wr n x := ⟨Nat.le_trans h.1 l, h.2⟩
theorem Wo.empty (wr : Str) (n : Nat) : Wo wr n "" := ⟨Nat.zero_le _, fun c h => nomatch (show c ∈ ([] : List Nat) from h)⟩
theorem Wo.app {wr : Str} {m n : Nat} {x y : Str} (h : Wo wr m x) (g : Wo wr n y) : Wo wr (m + n) (x ++ y) := by
  refine ⟨?_, fun c hc => ?_⟩
  · rw [tl_append, List.length_append]
    have := h.1
    have := g.1
    omega
  · rw [tl_append] at hc
    exact (List.mem_append.mp hc).elim (h.2 c) (g.2 c)
theorem Wo.cut {wr : Str} {n : Nat} {x : Str} (h : Wo wr n x) (lo hi : Option Int) : Wo wr n (cutS x lo hi) :=
  ⟨Nat.le_trans (cut_len x lo hi) h.1, fun c hc => h.2 c (cut_mem hc)⟩
theorem Wo.join2 {wr : Str} {n : Nat} {x : Str} (h : Wo wr n x) {a b : Int} (h0 : 0 ≤ a) (h1 : a ≤ b) : Wo wr n (cutS x none (some a) ++ cutS x (some b) none) := by
  refine ⟨?_, fun c hc => ?_⟩
  · have := cut2 x h0 h1
    have := h.1
    rw [← tl_len, sla]
    rw [← tl_len] at this
    omega
  · rw [tl_append] at hc
    exact (List.mem_append.mp hc).elim (fun q => h.2 c (cut_mem q)) fun q => h.2 c (cut_mem q)
theorem Wo.join3 {wr : Str} {n : Nat} {x y : Str} (h : Wo wr n x) (g : Wo wr 1 y) {a b : Int} (h0 : 0 ≤ a) (h1 : a ≤ b) : Wo wr (n + 1) (cutS x none (some a) ++ y ++ cutS x (some b) none) := by
  refine ⟨?_, fun c hc => ?_⟩
  · have h2 := cut2 x h0 h1
    have h3 := h.1
    have h4 := g.1
    rw [← tl_len, sla, sla]
    rw [← tl_len] at h3 h4
    omega
  · rw [tl_append, tl_append] at hc
    rcases List.mem_append.mp hc with q | q
    · exact (List.mem_append.mp q).elim (fun q => h.2 c (cut_mem q)) (g.2 c)
    · exact h.2 c (cut_mem q)
theorem Wo.one {wr : Str} {c : Nat} (h : c ∈ tl wr) : Wo wr 1 ⟨#[c]⟩ := ⟨Nat.le_refl _, fun d hd => by rw [List.mem_singleton.mp hd]; exact h⟩
theorem flat_len {n : Nat} : ∀ l : List (List Nat), (∀ x ∈ l, x.length ≤ n) → l.flatten.length ≤ l.length * n
  | [], _ => by simp
  | x :: l, h => by
    have h1 := h x List.mem_cons_self
    have h2 := flat_len l fun y hy => h y (List.mem_cons_of_mem _ hy)
    rw [List.flatten_cons, List.length_append, List.length_cons, Nat.succ_mul]
    omega
theorem Wo.mul {wr : Str} {m : Nat} {x : Str} (h : Wo wr m x) (n : Int) : Wo wr (n.toNat * m) (Txt.mul x n) := by
  refine ⟨?_, fun c hc => ?_⟩
  · rw [tl_mul]
    have := flat_len (n := m) (List.replicate n.toNat (tl x)) fun y hy => by rw [List.eq_of_mem_replicate hy]; exact h.1
    rw [List.length_replicate] at this
    exact this
  · rw [tl_mul] at hc
    obtain ⟨l, h1, h2⟩ := List.mem_flatten.mp hc
    rw [List.eq_of_mem_replicate h1] at h2
    exact h.2 c h2
theorem Wo.join {wr : Str} {m : Nat} {ys : List Str} (h : ∀ y ∈ ys, Wo wr m y) : Wo wr (ys.length * m) (Txt.join "" ys) := by
  refine ⟨?_, fun c hc => ?_⟩
  · rw [tl_join0]
    have := flat_len (n := m) (ys.map tl) fun l hl => by
      obtain ⟨y, hy, rfl⟩ := List.mem_map.mp hl
      exact (h y hy).1
    rw [List.length_map] at this
    exact this
  · rw [tl_join0] at hc
    obtain ⟨l, h1, h2⟩ := List.mem_flatten.mp hc
    obtain ⟨y, hy, rfl⟩ := List.mem_map.mp h1
    exact (h y hy).2 c h2
theorem sum_len {n : Nat} : ∀ ys : List Str, (∀ y ∈ ys, (tl y).length ≤ n) → (ys.map (·.length)).sum ≤ ys.length * n
  | [], _ => by simp
  | y :: ys, h => by
    have h1 : y.length ≤ n := h y List.mem_cons_self
    have h2 := sum_len ys fun z hz => h z (List.mem_cons_of_mem _ hz)
    rw [List.map_cons, List.sum_cons, List.length_cons, Nat.succ_mul]
    omega
end GJ

set_option Elab.async false
set_option linter.all false
set_option maxRecDepth 100000
set_option maxHeartbeats 4000000
namespace GJ
open PySem PySem.Spec PyProof.Rows L2 TL
theorem len_snoc {α : Type} {xs ys : List α} {a : α} {i n : Nat} (h : ys.length = i) (hi : i < n) : (ys ++ [a]).length = i + 1 := by rw [List.length_append, h]; rfl
theorem get_snoc {α : Type} {ys : List α} {a y : α} {i k : Nat} (hl : ys.length = i) (e : (ys ++ [a])[k]? = some y) : ys[k]? = some y ∨ (k = i ∧ y = a) := by
  by_cases h : k < ys.length
  · rw [List.getElem?_append_left h] at e
    exact .inl e
  · rw [List.getElem?_append_right (by omega)] at e
    have h2 := (List.getElem?_eq_some_iff.mp e).1
    have h3 : k - ys.length = 0 := by simp at h2; omega
    rw [h3] at e
    exact .inr ⟨by omega, (Option.some.inj e).symm⟩
section
variable {K : PySem.W.Frag} {z : Zz} {H H1 : Hp} {D a : Addr} {te : TE} {tt : TT} {vs : List Nat} {σ : L2.St} {j n : Nat} {lo : Int} {Qd : Hp → Prop} {xs : List V}
abbrev sl (σ : L2.St) (vs : List Nat) (j : Nat) (v : V) : L2.St := (wipe σ vs).set j (some v)
abbrev Wp (σ : L2.St) (vs : List Nat) (j : Nat) : Prop := ∀ v, wipe (sl σ vs j v) vs = wipe σ vs
abbrev GoR (lo : Int) (n : Nat) (D : Addr) (H1 : Hp) (Qd : Hp → Prop) (g : TG) (tt : TT) (te : TE) (σ : L2.St) (vs : List Nat) : Prop :=
  ∃ W : Nat → Nat → Hp → Prop, (∃ m, W 0 m (upd H1 D (.lst []))) ∧ ∀ i m H, W i m H →
      ((Itr lo n).stop i H ∧ Qd H) ∨ ((Itr lo n).go i H ∧ ∃ Nx : Hp → Prop, (∀ H', Nx H' → ∃ m', m' < m ∧ W (i + 1) m' H') ∧ ∀ x H', (Itr lo n).yld i H x H' → g x (wipe σ vs) H' fun σ2 H2 => wipe σ2 vs = wipe σ vs ∧ tt σ2 H2 fun b H3 =>
        if b = true then te σ2 H3 fun y H4 => ∃ acc, H4 D = some (.lst acc) ∧ acc.length < sizeLine ∧ Nx (upd H4 D (.lst (acc ++ [y]))) else Nx H3)
abbrev GoL (K : PySem.W.Frag) (a : Addr) (D : Addr) (H1 : Hp) (Qd : Hp → Prop) (g : TG) (tt : TT) (te : TE) (σ : L2.St) (vs : List Nat) : Prop :=
  ∃ W : Nat → Nat → Hp → Prop, (∃ m, W 0 m (upd H1 D (.lst []))) ∧ ∀ i m H, W i m H →
      ((Itl K a).stop i H ∧ Qd H) ∨ ((Itl K a).go i H ∧ ∃ Nx : Hp → Prop, (∀ H', Nx H' → ∃ m', m' < m ∧ W (i + 1) m' H') ∧ ∀ x H', (Itl K a).yld i H x H' → g x (wipe σ vs) H' fun σ2 H2 => wipe σ2 vs = wipe σ vs ∧ tt σ2 H2 fun b H3 =>
        if b = true then te σ2 H3 fun y H4 => ∃ acc, H4 D = some (.lst acc) ∧ acc.length < sizeLine ∧ Nx (upd H4 D (.lst (acc ++ [y]))) else Nx H3)
theorem small5 {n : Nat} (h : n ≤ 100000) : n < sizeLine := Nat.lt_of_le_of_lt h (by decide)

/-- a list at D grows: ds so far, no item hangs on D; H: the heap ahead of D -/
structure Lg (z : Zz) (H : Hp) (D : Addr) (H' : Hp) (ys : List V) (ds : List PyData) : Prop where
  wd : Wd z H H'
  nd : H D = none
  ne : D ≠ z.s ∧ D ≠ z.c ∧ D ∉ z.m
  at_ : H' D = some (.lst ys)
  it : DAs (hide (z.add D) H') ys ds
theorem Lg.copy {ys : List V} {ds : List PyData} (h0 : St z H) (w1 : Wd z H H1) (nD : H1 D = none) (h : DAs (hide z H1) ys ds) : Lg z H D (upd H1 D (.lst ys)) ys ds :=
  ⟨w1.new nD, w1.nul h0 nD, w1.st.ne nD, upd_same, (h.up (hide_add (Wd.refl w1.st) nD)).up (hide_upd z H1 D _)⟩
theorem Lg.start (h0 : St z H) (w1 : Wd z H H1) (nD : H1 D = none) : Lg z H D (upd H1 D (.lst [])) [] [] := Lg.copy h0 w1 nD .nil
theorem Lg.st {H' : Hp} {ys : List V} {ds : List PyData} (g : Lg z H D H' ys ds) : St (z.add D) H' := g.wd.st.add g.at_
theorem Lg.step {H' H'' : Hp} {ys : List V} {ds : List PyData} (g : Lg z H D H' ys ds) (w : Wd (z.add D) H' H'') : Lg z H D H'' ys ds :=
  ⟨g.wd.trans w.drop, g.nd, g.ne, w.kp _ _ g.ne.1 g.ne.2.1 g.at_, g.it.up w.up⟩
theorem Lg.step' {H' H'' : Hp} {ys : List V} {ds : List PyData} (g : Lg z H D H' ys ds) (w : Wd z H' H'') : Lg z H D H'' ys ds :=
  g.step ⟨w.st.add (w.kp _ _ g.ne.1 g.ne.2.1 g.at_), w.kp⟩
theorem Lg.app {H' : Hp} {ys : List V} {ds : List PyData} {v : V} {d : PyData} (g : Lg z H D H' ys ds) (h : DA (hide (z.add D) H') v d) : Lg z H D (upd H' D (.lst (ys ++ [v]))) (ys ++ [v]) (ds ++ [d]) :=
  ⟨g.wd.put g.nd g.ne.1 g.ne.2.1, g.nd, g.ne, upd_same, (g.it.append (.one h)).up (hide_upd z H' D _)⟩
theorem Lg.set {H' : Hp} {ys : List V} {ds : List PyData} {v : V} {d : PyData} (g : Lg z H D H' ys ds) (n : Nat) (h : DA (hide (z.add D) H') v d) : Lg z H D (upd H' D (.lst (ys.set n v))) (ys.set n v) (ds.set n d) :=
  ⟨g.wd.put g.nd g.ne.1 g.ne.2.1, g.nd, g.ne, upd_same, (DAs.set h n g.it).up (hide_upd z H' D _)⟩
theorem Lg.len {H' : Hp} {ys : List V} {ds : List PyData} (g : Lg z H D H' ys ds) : ys.length = ds.length := g.it.len
theorem Lg.hd {H' : Hp} {ys : List V} {ds : List PyData} (g : Lg z H D H' ys ds) : hide z H' D = some (.lst ys) := hide_of g.ne g.at_
theorem Lg.fin {H' : Hp} {ys : List V} {ds : List PyData} (g : Lg z H D H' ys ds) : DA (hide z H') (.ref D) (.list ds) := .lst g.hd (g.it.up (hide_drop z H' D))
/-- what stood ahead of D is there, apart from D -/
theorem Lg.old {H' : Hp} {ys : List V} {ds : List PyData} (g : Lg z H D H' ys ds) : Same (hide z H) (hide (z.add D) H') := hide_add g.wd g.nd
/-- from an earlier heap -/
theorem Lg.back {H0 H' : Hp} {ys : List V} {ds : List PyData} (h0 : St z H0) (w : Wd z H0 H) (g : Lg z H D H' ys ds) : Lg z H0 D H' ys ds := ⟨w.trans g.wd, w.nul h0 g.nd, g.ne, g.at_, g.it⟩
/-- a builder's list over a range, each item made with the store: data -/
theorem lc_rngW (h0 : St z H) (w1 : Wd z H H1) (nD : H1 D = none) (hn : n ≤ 100000) (P : Nat → PyData → Prop) (hw : Wp σ vs j)
    (hs : ∀ (i : Nat) H3 (R : V → Hp → Prop), i < n → Wd (z.add D) H1 H3 → (∀ y H4 d, Wd (z.add D) H3 H4 → DA (hide (z.add D) H4) y d → P i d → R y H4) → te (sl σ vs j (.int (lo + (i : Int)))) H3 R)
    (hd : ∀ H3 ys ds, Lg z H D H3 ys ds → ds.length = n → (∀ (i : Nat) d, ds[i]? = some d → P i d) → Qd H3) : GoR lo n D H1 Qd (gName j) tYes te σ vs := by
  refine lc_range (fun i H' => ∃ (ys : List V) (ds : List PyData), Lg z H1 D H' ys ds ∧ ds.length = i ∧ ∀ (k : Nat) d, ds[k]? = some d → P k d)
    ⟨[], [], Lg.start w1.st (Wd.refl w1.st) nD, rfl, fun k d e => by simp at e⟩ ?_ ?_
  · rintro i H3 hi ⟨ys, ds, g, hl, hP⟩
    refine ⟨hw _, ?_⟩
    refine hs i H3 _ hi ⟨g.st, g.wd.kp⟩ fun y H4 d w4 hd' hp => ?_
    have g4 := g.step w4
    refine ⟨ys, g4.at_, by rw [g.len, hl]; exact small5 (by omega), ys ++ [y], ds ++ [d], g4.app hd', by rw [List.length_append, hl]; rfl, fun k d' e => ?_⟩
    rcases get_snoc hl e with e | ⟨rfl, rfl⟩
    · exact hP k d' e
    · exact hp
  · rintro H3 ⟨ys, ds, g, hl, hP⟩
    exact hd H3 ys ds (Lg.back h0 w1 g) hl hP
/-- .. over a list of data -/
theorem lc_lstW (h0 : St z H) (w1 : Wd z H H1) (nD : H1 D = none) (hx : hide z H1 a = some (.lst xs)) (hn : xs.length ≤ 100000) (P : Nat → PyData → Prop) (hw : Wp σ vs j)
    (hs : ∀ (i : Nat) x H3 (R : V → Hp → Prop), xs[i]? = some x → Wd (z.add D) H1 H3 → Same (hide z H1) (hide (z.add D) H3) → (∀ y H4 d, Wd (z.add D) H3 H4 → DA (hide (z.add D) H4) y d → P i d → R y H4) → te (sl σ vs j x) H3 R)
    (hd : ∀ H3 ys ds, Lg z H D H3 ys ds → ds.length = xs.length → (∀ (i : Nat) d, ds[i]? = some d → P i d) → Qd H3) : GoL K a D H1 Qd (gName j) tYes te σ vs := by
  obtain ⟨m, hx1⟩ := hide_some hx
  refine lc_list (xs := xs) (fun i H' => ∃ (ys : List V) (ds : List PyData), Lg z H1 D H' ys ds ∧ ds.length = i ∧ ∀ (k : Nat) d, ds[k]? = some d → P k d)
    ⟨[], [], Lg.start w1.st (Wd.refl w1.st) nD, rfl, fun k d e => by simp at e⟩ ?_ ?_ ?_
  · rintro i H3 _ ⟨_, _, g, _⟩
    exact SqL.of (g.wd.kp _ _ m.1 m.2.1 hx1)
  · rintro i x H3 hi ⟨ys, ds, g, hl, hP⟩
    have hi2 := (List.getElem?_eq_some_iff.mp hi).1
    refine ⟨hw _, ?_⟩
    refine hs i x H3 _ hi ⟨g.st, g.wd.kp⟩ g.old fun y H4 d w4 hd' hp => ?_
    have g4 := g.step w4
    refine ⟨ys, g4.at_, by rw [g.len, hl]; exact small5 (by omega), ys ++ [y], ds ++ [d], g4.app hd', by rw [List.length_append, hl]; rfl, fun k d' e => ?_⟩
    rcases get_snoc hl e with e | ⟨rfl, rfl⟩
    · exact hP k d' e
    · exact hp
  · rintro H3 ⟨ys, ds, g, hl, hP⟩
    exact hd H3 ys ds (Lg.back h0 w1 g) hl hP
/-- a list of values, each reckoned without a trace -/
theorem lc_mapP (s1 : Same H H1) (nD : H1 D = none) (hx : H a = some (.lst xs)) (hn : xs.length ≤ 100000) (F : Nat → V → Prop) (hw : Wp σ vs j)
    (hs : ∀ (i : Nat) x H3 (R : V → Hp → Prop), xs[i]? = some x → Same H H3 → (∀ y H4, Same H3 H4 → F i y → R y H4) → te (sl σ vs j x) H3 R)
    (hd : ∀ H3 ys, Same H H3 → H3 D = some (.lst ys) → ys.length = xs.length → (∀ (i : Nat) y, ys[i]? = some y → F i y) → Qd H3) : GoL K a D H1 Qd (gName j) tYes te σ vs := by
  have nD0 : H D = none := s1.free nD
  refine lc_list (xs := xs) (fun i H' => ∃ ys : List V, Same H H' ∧ H' D = some (.lst ys) ∧ ys.length = i ∧ ∀ (k : Nat) y, ys[k]? = some y → F k y) ⟨[], s1.trans (Same.new nD), upd_same, rfl, fun k d e => by simp at e⟩ ?_ ?_ ?_
  · rintro i H3 _ ⟨_, s3, _⟩
    exact SqL.of (s3 _ _ hx)
  · rintro i x H3 hi ⟨ys, s3, hD, hl, hF⟩
    have hi2 := (List.getElem?_eq_some_iff.mp hi).1
    refine ⟨hw _, ?_⟩
    refine hs i x H3 _ hi s3 fun y H4 s4 hy => ?_
    refine ⟨ys, s4 _ _ hD, by rw [hl]; exact small5 (by omega), ys ++ [y], Same.put (s3.trans s4) nD0, upd_same, by rw [List.length_append, hl]; rfl, fun k y' e => ?_⟩
    rcases get_snoc hl e with e | ⟨rfl, rfl⟩
    · exact hF k y' e
    · exact hy
  · rintro H3 ⟨ys, s3, hD, hl, hF⟩
    exact hd H3 ys s3 hD hl hF
/-- .. over a range -/
theorem lc_rngP (s1 : Same H H1) (nD : H1 D = none) (hn : n ≤ 100000) (F : Nat → V → Prop) (hw : Wp σ vs j)
    (hs : ∀ (i : Nat) H3 (R : V → Hp → Prop), i < n → Same H H3 → (∀ y H4, Same H3 H4 → F i y → R y H4) → te (sl σ vs j (.int (lo + (i : Int)))) H3 R)
    (hd : ∀ H3 ys, Same H H3 → H3 D = some (.lst ys) → ys.length = n → (∀ (i : Nat) y, ys[i]? = some y → F i y) → Qd H3) : GoR lo n D H1 Qd (gName j) tYes te σ vs := by
  have nD0 : H D = none := s1.free nD
  refine lc_range (fun i H' => ∃ ys : List V, Same H H' ∧ H' D = some (.lst ys) ∧ ys.length = i ∧ ∀ (k : Nat) y, ys[k]? = some y → F k y) ⟨[], s1.trans (Same.new nD), upd_same, rfl, fun k d e => by simp at e⟩ ?_ ?_
  · rintro i H3 hi ⟨ys, s3, hD, hl, hF⟩
    refine ⟨hw _, ?_⟩
    refine hs i H3 _ hi s3 fun y H4 s4 hy => ?_
    refine ⟨ys, s4 _ _ hD, by rw [hl]; exact small5 (by omega), ys ++ [y], Same.put (s3.trans s4) nD0, upd_same, by rw [List.length_append, hl]; rfl, fun k y' e => ?_⟩
    rcases get_snoc hl e with e | ⟨rfl, rfl⟩
    · exact hF k y' e
    · exact hy
  · rintro H3 ⟨ys, s3, hD, hl, hF⟩
    exact hd H3 ys s3 hD hl hF
/-- [k for k in range(n) if ..] -/
theorem lc_rngF (s1 : Same H H1) (nD : H1 D = none) (hn : n ≤ 100000) (p : Nat → Prop) (hw : Wp σ vs j) (hj : ∀ v, (sl σ vs j v)[j]? = some (some v))
    (hs : ∀ (i : Nat) H3 (R : Bool → Hp → Prop), i < n → Same H H3 → (∀ b H4, Same H3 H4 → (b = true ↔ p i) → R b H4) → tt (sl σ vs j (.int (lo + (i : Int)))) H3 R)
    (hd : ∀ H3 (ns : List Int), Same H H3 → H3 D = some (.lst (ns.map V.int)) → ns.length ≤ n → (∀ k : Int, k ∈ ns ↔ ∃ i : Nat, i < n ∧ k = lo + (i : Int) ∧ p i) → Qd H3) : GoR lo n D H1 Qd (gName j) tt (tVar j) σ vs := by
  have nD0 : H D = none := s1.free nD
  refine lc_range (fun i H' => ∃ ns : List Int, Same H H' ∧ H' D = some (.lst (ns.map V.int)) ∧ ns.length ≤ i ∧ ∀ k : Int, k ∈ ns ↔ ∃ m : Nat, m < i ∧ k = lo + (m : Int) ∧ p m) ⟨[], s1.trans (Same.new nD), upd_same, Nat.le_refl _, fun k => ⟨fun h => (nomatch h), fun ⟨m, h, _⟩ => absurd h (Nat.not_lt_zero _)⟩⟩ ?_ ?_
  · rintro i H3 hi ⟨ns, s3, hD, hl, hF⟩
    refine ⟨hw _, ?_⟩
    refine hs i H3 _ hi s3 fun b H4 s4 hb => ?_
    cases b with
    | true =>
      have hp := hb.mp rfl
      refine iteT ⟨_, hj _, ns.map V.int, s4 _ _ hD, by rw [List.length_map]; exact small5 (by omega), ns ++ [lo + (i : Int)], Same.put (s3.trans s4) nD0, by rw [upd_same, List.map_append]; rfl, by rw [List.length_append]; show ns.length + 1 ≤ i + 1; omega, fun k => ?_⟩
      rw [List.mem_append, hF k, List.mem_singleton]
      constructor
      · rintro (⟨m, h1, h2, h3⟩ | rfl)
        · exact ⟨m, by omega, h2, h3⟩
        · exact ⟨i, by omega, rfl, hp⟩
      · rintro ⟨m, h1, h2, h3⟩
        by_cases hm : m = i
        · subst hm; exact .inr h2
        · exact .inl ⟨m, by omega, h2, h3⟩
    | false =>
      have hp : ¬ p i := fun h => by have := hb.mpr h; cases this
      refine iteF ⟨ns, s3.trans s4, s4 _ _ hD, by omega, fun k => ?_⟩
      rw [hF k]
      constructor
      · rintro ⟨m, h1, h2, h3⟩
        exact ⟨m, by omega, h2, h3⟩
      · rintro ⟨m, h1, h2, h3⟩
        by_cases hm : m = i
        · subst hm; exact absurd h3 hp
        · exact ⟨m, by omega, h2, h3⟩
  · rintro H3 ⟨ns, s3, hD, hl, hF⟩
    exact hd H3 ns s3 hD hl hF
/-- [x for x in xs if ..] of data -/
theorem lc_filt {ds : List PyData} (s1 : Same H H1) (nD : H1 D = none) (hx : H a = some (.lst xs)) (hds : DAs H xs ds) (hn : xs.length ≤ 100000) (p : Nat → Prop) (hw : Wp σ vs j) (hj : ∀ v, (sl σ vs j v)[j]? = some (some v))
    (hs : ∀ (i : Nat) x d H3 (R : Bool → Hp → Prop), xs[i]? = some x → ds[i]? = some d → DA H3 x d → Same H H3 → (∀ b H4, Same H3 H4 → (b = true ↔ p i) → R b H4) → tt (sl σ vs j x) H3 R)
    (hd : ∀ H3 ys es, Same H H3 → H3 D = some (.lst ys) → DAs H ys es → es.length ≤ ds.length → (∀ d, d ∈ es ↔ ∃ i : Nat, ds[i]? = some d ∧ p i) → Qd H3) : GoL K a D H1 Qd (gName j) tt (tVar j) σ vs := by
  have nD0 : H D = none := s1.free nD
  have hlen := hds.len
  refine lc_list (xs := xs) (fun i H' => ∃ (ys : List V) (es : List PyData), Same H H' ∧ H' D = some (.lst ys) ∧ DAs H ys es ∧ es.length ≤ i ∧ ∀ d, d ∈ es ↔ ∃ m : Nat, m < i ∧ ds[m]? = some d ∧ p m)
    ⟨[], [], s1.trans (Same.new nD), upd_same, .nil, Nat.le_refl _, fun k => ⟨fun h => (nomatch h), fun ⟨m, h, _⟩ => absurd h (Nat.not_lt_zero _)⟩⟩ ?_ ?_ ?_
  · rintro i H3 _ ⟨_, _, s3, _⟩
    exact SqL.of (s3 _ _ hx)
  · rintro i x H3 hi ⟨ys, es, s3, hD, hy, hl, hF⟩
    have hi2 := (List.getElem?_eq_some_iff.mp hi).1
    obtain ⟨d, e1, e2⟩ := hds.get hi
    refine ⟨hw _, ?_⟩
    refine hs i x d H3 _ hi e1 (e2.up s3) s3 fun b H4 s4 hb => ?_
    have hyl := hy.len
    cases b with
    | true =>
      have hp := hb.mp rfl
      refine iteT ⟨_, hj _, ys, s4 _ _ hD, by rw [hyl]; exact small5 (by omega), ys ++ [x], es ++ [d], Same.put (s3.trans s4) nD0, upd_same, hy.append (.one e2), by rw [List.length_append]; show es.length + 1 ≤ i + 1; omega, fun k => ?_⟩
      rw [List.mem_append, hF k, List.mem_singleton]
      constructor
      · rintro (⟨m, h1, h2, h3⟩ | rfl)
        · exact ⟨m, by omega, h2, h3⟩
        · exact ⟨i, by omega, e1, hp⟩
      · rintro ⟨m, h1, h2, h3⟩
        by_cases hm : m = i
        · subst hm; rw [e1] at h2; exact .inr (Option.some.inj h2).symm
        · exact .inl ⟨m, by omega, h2, h3⟩
    | false =>
      have hp : ¬ p i := fun h => by have := hb.mpr h; cases this
      refine iteF ⟨ys, es, s3.trans s4, s4 _ _ hD, hy, by omega, fun k => ?_⟩
      rw [hF k]
      constructor
      · rintro ⟨m, h1, h2, h3⟩
        exact ⟨m, by omega, h2, h3⟩
      · rintro ⟨m, h1, h2, h3⟩
        by_cases hm : m = i
        · subst hm; exact absurd h3 hp
        · exact ⟨m, by omega, h2, h3⟩
  · rintro H3 ⟨ys, es, s3, hD, hy, hl, hF⟩
    refine hd H3 ys es s3 hD hy (by omega) fun d => ?_
    rw [hF d]
    constructor
    · rintro ⟨m, _, h2, h3⟩
      exact ⟨m, h2, h3⟩
    · rintro ⟨m, h2, h3⟩
      exact ⟨m, by have := (List.getElem?_eq_some_iff.mp h2).1; omega, h2, h3⟩
end
end GJ

set_option Elab.async false
set_option linter.all false
set_option maxRecDepth 100000
set_option maxHeartbeats 4000000
namespace GJ
open PySem PySem.Spec PyProof.Rows L2
set_option pp.maxSteps 300
section
variable {P : Program} {w : World} {K : PySem.W.Frag} {mg : Str → Option Value} {base : Heap}
set_option hygiene false in
local macro_rules | `(tactic| walk_at "w") => `(tactic| repeat (first
  | refine ⟨_, rfl, ?_⟩
  | refine ⟨_, _, rfl, rfl, (by first | decide | omega), fun r r0 r1 re => ?_⟩
  | refine ⟨_, _, rfl, rfl, (by first | exact Or.inl ⟨by omega, by omega⟩ | exact Or.inr ⟨by omega, by omega⟩ : CMul _ _), ?_⟩
  | refine ⟨_, _, rfl, rfl, (by first | exact ⟨by decide, by decide⟩ | exact ⟨by omega, by omega⟩ : CDiv _ _), ?_⟩
  | refine ⟨_, _, rfl, rfl, (by exact ⟨by decide, by decide, by decide⟩ : CPow _ _), ?_⟩
  | refine ⟨_, _, rfl, rfl, ?_⟩
  | refine ⟨(by rfl : scal _ _ = true), ?_⟩
  | refine Or.inl ⟨_, rfl, ?_⟩
  | refine ⟨_, _, rfl, fun m m0 m1 m2 => ?_⟩
  | refine ⟨_, _, _, _, rfl, rfl, SqL.of (by first | assumption | exact upd_same | exact fx _ | exact fy _), rfl, ?_⟩
  | refine ⟨_, _, _, _, rfl, rfl, (by first | assumption | exact upd_same | exact fx _ | exact fy _), rfl, ?_⟩
  | refine ⟨_, _, _, _, rfl, rfl, SqT.of (by first | assumption | exact upd_same | exact fx _ | exact fy _), rfl, ?_⟩
  | refine ⟨(szle (by omega) : Str.length _ ≤ sizeLine), ?_⟩
  | refine ⟨(szle (by first | omega | (rw [sla]; omega) | (rw [sla, sla]; omega)) : Str.length _ + Str.length _ ≤ sizeLine), ?_⟩
  | refine ⟨_, _, rfl, len_lst (by first | assumption | exact upd_same | exact fx _ | exact fy _), ?_⟩))
set_option hygiene false in
local macro_rules | `(tactic| walk_at "if") => `(tactic| (refine ite2 (fun hc => ?_) (fun hc => ?_) <;>
  simp only [decide_eq_true_eq, Bool.not_eq_true', decide_eq_false_iff_not, V.int.injEq, V.str.injEq, V.bl.injEq, Decidable.not_not, Bool.not_eq_true, V.int_ne, Int.not_lt, Int.not_le, Bool.true_eq_false, Bool.false_eq_true, not_true_eq_false, not_false_eq_true] at hc))
set_option hygiene false in
local macro_rules | `(tactic| walk_at "new") => `(tactic| (refine ⟨by first | decide | (simp only [List.length_cons, List.length_nil, List.length_append, List.length_map]; first | decide | (rw [sizeLine_eq]; omega)), fun p np => ?_⟩))
set_option hygiene false in
local macro_rules | `(tactic| walk_at "yes") => `(tactic| refine itY (by first | rfl | exact decide_eq_true (by first | rfl | omega | assumption) | (simp only [decide_eq_true_eq, Bool.not_eq_true', decide_eq_false_iff_not, V.int.injEq, V.str.injEq, V.bl.injEq]; first | omega | assumption)) ?_)
set_option hygiene false in
local macro_rules | `(tactic| walk_at "no") => `(tactic| refine itN (by first | decide | (simp only [decide_eq_true_eq, Bool.not_eq_true', decide_eq_false_iff_not, V.int.injEq, V.str.injEq, V.bl.injEq, Bool.not_eq_true, Decidable.not_not]; first | omega | assumption)) ?_)
def sp_mix : Sp := fun vs H Q _ => ∃ a t : Int, vs = [.int a, .int t] ∧ ∀ r : Int, 0 ≤ r → Q (.int r) H
def N__law_mix : List Str := ["_law_number", "_law_tick", "_law_one", "_law_two"]
theorem sc__law_mix : FnScope N__law_mix ["_law_number", "_law_tick"] (defScope (top 49)) := ⟨rfl, rfl, rfl, by decide +kernel, rfl, by decide +kernel, by decide +kernel⟩
theorem ok__law_mix (En : Env K mg fas fns prs) : Ok P w K mg base "_law_mix" 1 ["_law_number", "_law_tick"] sp_mix := by
  refine ok_mk 30 49 En sc__law_mix (fun _ _ _ _ _ _ us hl => match us, hl with | [_, _], _ => rfl) (fun vs H Q E h => ?_) (fun f cdv A outer s H vs Q E hr h => ?_)
  · obtain ⟨a, t, rfl, _⟩ := h
    rfl
  · obtain ⟨a, t, rfl, k⟩ := h
    refine ⟨_, (pss_cons
        (ps_set (i := 2) sc__law_mix.nd rfl (Or.inl rfl) (pe_op op_modR (pe_callTy call_int1 (by rfl) (fr_int En) bt_int (pa_cons (pe_op op_add (pe_op op_add (pe_op op_mul (pe_op op_modR (pe_callTy call_int1 (by rfl) (fr_int En) bt_int (pa_cons (pv 0) pa_nil)) pe_int) pe_int) (pe_op op_mul (pv 1) pe_int)) pe_int) pa_nil)) pe_int))
      (pss_cons
        (ps_set (i := 3) sc__law_mix.nd rfl (Or.inl rfl) (pe_op op_modR (pe_callTy call_int1 (by rfl) (fr_int En) bt_int (pa_cons (pe_op op_add (pe_op op_add (pe_op op_mul (pv 2) (pv 2)) (pe_op op_fdiv (pv 2) pe_int)) (pe_op op_mul (pv 1) pe_int)) pa_nil)) pe_int))
      (pss_one
        (ps_ret (pe_op op_modR (pe_callTy call_int1 (by rfl) (fr_int En) bt_int (pa_cons (pe_op op_add (pe_op op_add (pe_op op_mul (pv 3) (pv 3)) (pe_op op_fdiv (pv 3) pe_int)) (pv 2)) pa_nil)) pe_int))))), ?_⟩
    walk_at "w"
    exact k _ r0
def sp_store (K : PySem.W.Frag) : Sp := fun vs H Q _ => ∃ (a : Addr) (ns : List Int), vs = [.ref a] ∧ SqL K H a (ns.map V.int) ∧ ns.length ≤ 63 ∧
  ∀ z H', Same H H' → St z H' → Q (.ref z.s) H'
def N__law_store : List Str := ["_law_script", "_law_seed", "_law_cell"]
theorem sc__law_store : FnScope N__law_store ["_law_script"] (defScope (top 48)) := ⟨rfl, rfl, rfl, by decide +kernel, rfl, by decide +kernel, by decide +kernel⟩
theorem ok__law_store (En : Env K mg fas fns prs) : Ok P w K mg base "_law_store" 1 ["_law_script"] (sp_store K) := by
  refine ok_mk 29 48 En sc__law_store (fun _ _ _ _ _ _ us hl => match us, hl with | [_], _ => rfl) (fun vs H Q E h => ?_) (fun f cdv A outer s H vs Q E hr h => ?_)
  · obtain ⟨a, ns, rfl, _⟩ := h
    rfl
  · obtain ⟨a, ns, rfl, hS, hl, k⟩ := h
    refine ⟨_, (pss_cons
        (ps_set (i := 1) sc__law_store.nd rfl (Or.inl rfl) pe_int)
      (pss_cons
        (ps_for PassesOwn.never rfl (pi_listK (K := K) rfl (pv 0)) (pg_name (i := 2) sc__law_store.nd rfl (Or.inl rfl)) (pss_one (ps_set (i := 1) sc__law_store.nd rfl (Or.inl rfl) (pe_op op_modR (pe_callTy call_int1 (by rfl) (fr_int En) bt_int (pa_cons (pe_op op_add (pe_op op_add (pe_op op_mul (pv 1) pe_int) (pe_op op_modR (pe_callTy call_int1 (by rfl) (fr_int En) bt_int (pa_cons (pv 2) pa_nil)) pe_int)) pe_int) pa_nil)) pe_int))))
      (pss_one
        (ps_ret (pe_lst (pa_cons (pe_callTy (call_list_ofK (K := K) rfl) (by rfl) (fr_list En) bt_list (pa_cons (pv 0) pa_nil)) (pa_cons pe_int (pa_cons pe_int (pa_cons pe_int (pa_cons (pv 1) pa_nil)))))))))), ?_⟩
    walk_at "w"
    refine ⟨⟨_, hS⟩, for_list (xs := ns.map V.int) (fun _ σ H' => H' = H ∧ ∃ (v : Int) (x : Option V), σ = [some (.ref a), some (.int v), x]) ⟨rfl, _, _, rfl⟩ (fun _ _ _ _ q => q.1 ▸ hS) ?_ ?_⟩
    · rintro i x σ H' hx ⟨rfl, v, y, rfl⟩
      rw [List.getElem?_map] at hx
      obtain ⟨n, hn, rfl⟩ := Option.map_eq_some_iff.mp hx
      walk_at "w"
      exact ⟨rfl, _, _, rfl⟩
    · rintro σ H' ⟨rfl, v, y, rfl⟩
      walk_at "w"
      refine ⟨_, _, rfl, Or.inl hS, fun c nc => ?_⟩
      walk_at "w"
      walk_at "new"
      have hc : p ≠ c := (ne_of_none upd_same np).symm
      refine k ⟨p, c, []⟩ _ ((Same.new nc).trans (Same.new np)) ⟨hc, ⟨ns, 0, 0, 0, v, upd_same, ?_, Int.le_refl _⟩, fun b hb => nomatch hb⟩
      show upd _ p _ c = _
      rw [upd_ne hc.symm, upd_same]
theorem Wd.store {z : Zz} {H : Hp} {ns : List Int} {i x t d : Int} (hn : z.s ≠ z.c) (hc : H z.c = some (.lst (ns.map V.int))) (hi : 0 ≤ i) (hm : ∀ b ∈ z.m, ∃ o, H b = some o) : Wd z H (upd H z.s (.lst [.ref z.c, .int i, .int x, .int t, .int d])) := by
  refine ⟨⟨hn, ⟨ns, i, x, t, d, upd_same, by rw [upd_ne hn.symm]; exact hc, hi⟩, fun b hb => ?_⟩, fun b u n1 n2 q => by rw [upd_ne n1]; exact q⟩
  by_cases h : b = z.s
  · exact ⟨_, by rw [h, upd_same]⟩
  · rw [upd_ne h]; exact hm b hb
def sp_take : Sp := fun vs H Q _ => ∃ (z : Zz) (m : Int), vs = [.ref z.s, .int m] ∧ St z H ∧ m ≤ 1000000 ∧ ∀ (r : Int) H', 0 ≤ r → r < m ∨ r = 0 → Wd z H H' → Q (.int r) H'
def N__law_take : List Str := ["_law_store_here", "_law_many", "_law_cells", "_law_cell", "_law_digit"]
theorem sc__law_take : FnScope N__law_take ["_law_store_here", "_law_many"] (defScope (top 50)) := ⟨rfl, rfl, rfl, by decide +kernel, rfl, by decide +kernel, by decide +kernel⟩
theorem ok__law_take (En : Env K mg fas fns prs) : Ok P w K mg base "_law_take" 2 ["_law_store_here", "_law_many"] sp_take := by
  refine ok_mk 31 50 En sc__law_take (fun _ _ _ _ _ _ us hl => match us, hl with | [_, _], _ => rfl) (fun vs H Q E h => ?_) (fun f cdv A outer s H vs Q E hr h => ?_)
  · obtain ⟨z, m, rfl, _⟩ := h
    rfl
  · obtain ⟨z, n, rfl, hz, hm, k⟩ := h
    obtain ⟨hne, ⟨ns, i, x, t, d, h1, h2, hi⟩, hms⟩ := hz
    have fx : ∀ o, upd H z.s o z.c = some (.lst (ns.map V.int)) := fun o => by rw [upd_ne hne.symm]; exact h2
    have fin : ∀ (r i x t d : Int) (l : List V), 0 ≤ r → (r < n ∨ r = 0) → 0 ≤ i → l = [.ref z.c, .int i, .int x, .int t, .int d] → Q (.int r) (upd H z.s (.lst l)) := fun r i x t d l q1 q2 q3 q4 => by
      rw [q4]
      exact k r _ q1 q2 (Wd.store hne h2 q3 hms)
    refine ⟨_, (pss_cons
        (ps_set (i := 1) sc__law_take.nd rfl (Or.inl rfl) (pe_callB (call_maxR rfl) (by rfl) (fr_max En) bt_max (pa_cons pe_int (pa_cons (pv 1) pa_nil))))
      (pss_cons
        (ps_asg (pe_op op_add (pe_ix (ix_listK (K := K) rfl) (pv 0) pe_int (fun _ _ => rfl)) pe_int) (pg_sub (pv 0) pe_int set_list))
      (pss_cons
        (ps_set (i := 2) sc__law_take.nd rfl (Or.inl rfl) (pe_ix (ix_listK (K := K) rfl) (pv 0) pe_int (fun _ _ => rfl)))
      (pss_cons
        (ps_if (PW.pt (pw_and (pt_cmpR op_lt (pe_ix (ix_listK (K := K) rfl) (pv 0) pe_int (fun _ _ => rfl)) pe_int (nomark _)) (pw_and1 (pt_cmpR op_lt (pe_ix (ix_listK (K := K) rfl) (pv 0) pe_int (fun _ _ => rfl)) (pe_callB (call_lenK (K := K) rfl) (by rfl) (fr_len En) bt_len (pa_cons (pv 2) pa_nil)) (nomark _))))) (pss_cons
        (ps_set (i := 3) sc__law_take.nd rfl (Or.inl rfl) (pe_callTy call_int1 (by rfl) (fr_int En) bt_int (pa_cons (pe_ix (ix_listK (K := K) rfl) (pv 2) (pe_ix (ix_listK (K := K) rfl) (pv 0) pe_int (fun _ _ => rfl)) (fun _ _ => rfl)) pa_nil)))
      (pss_cons
        (ps_asg (pe_op op_add (pe_ix (ix_listK (K := K) rfl) (pv 0) pe_int (fun _ _ => rfl)) pe_int) (pg_sub (pv 0) pe_int set_list))
      (pss_cons
        (ps_if (pt_cmpR op_lt (pv 3) (pe_op op_pow pe_int pe_int) (nomark _)) (pss_one (ps_ret (pe_op op_modR (pe_callTy call_int1 (by rfl) (fr_int En) bt_int (pa_cons (pe_fn (ok__law_mix En) (hr.mono (by decide)) (pa_cons (pv 3) (pa_cons (pe_ix (ix_listK (K := K) rfl) (pv 0) pe_int (fun _ _ => rfl)) pa_nil))) pa_nil)) (pv 1)))) pss_nil)
      (pss_one
        (ps_asg (pe_callTy call_int1 (by rfl) (fr_int En) bt_int (pa_cons (pv 3) pa_nil)) (pg_sub (pv 0) pe_int set_list)))))) pss_nil)
      (pss_cons
        (ps_if (pt_cmpR op_lt (pe_ix (ix_listK (K := K) rfl) (pv 0) pe_int (fun _ _ => rfl)) pe_int (nomark _)) (pss_one (ps_ret (pe_op op_modR (pe_callTy call_int1 (by rfl) (fr_int En) bt_int (pa_cons (pe_fn (ok__law_mix En) (hr.mono (by decide)) (pa_cons (pe_ix (ix_listK (K := K) rfl) (pv 0) pe_int (fun _ _ => rfl)) (pa_cons (pe_ix (ix_listK (K := K) rfl) (pv 0) pe_int (fun _ _ => rfl)) pa_nil))) pa_nil)) (pv 1)))) pss_nil)
      (pss_cons
        (ps_set (i := 4) sc__law_take.nd rfl (Or.inl rfl) (pe_op op_modR (pe_callTy call_int1 (by rfl) (fr_int En) bt_int (pa_cons (pe_ix (ix_listK (K := K) rfl) (pv 0) pe_int (fun _ _ => rfl)) pa_nil)) (pv 1)))
      (pss_cons
        (ps_asg (pe_op op_fdiv (pe_callTy call_int1 (by rfl) (fr_int En) bt_int (pa_cons (pe_ix (ix_listK (K := K) rfl) (pv 0) pe_int (fun _ _ => rfl)) pa_nil)) (pv 1)) (pg_sub (pv 0) pe_int set_list))
      (pss_one
        (ps_ret (pv 4)))))))))), ?_⟩
    walk_at "w"
    have ends : ∀ (r : Int), 0 ≤ r → r < m → r < n ∨ r = 0 := fun r q1 q2 => by omega
    walk_at "if"
    · walk_at "w"
      walk_at "if"
      · walk_at "w"
        obtain ⟨v, e1, e2⟩ := at_nn (xs := ns.map V.int) hi hc
        rw [List.getElem?_map] at e1
        obtain ⟨c, e3, rfl⟩ := Option.map_eq_some_iff.mp e1
        refine ⟨_, _, _, _, rfl, rfl, SqL.of (fx _), e2, ?_⟩
        walk_at "w"
        walk_at "if"
        · walk_at "w"
          refine ⟨_, _, rfl, fun r hr => ?_⟩
          walk_at "w"
          rw [upd_upd]
          exact fin _ _ _ _ _ _ r0 (ends _ r0 r1) (by omega) rfl
        · walk_at "w"
          walk_at "if"
          · walk_at "w"
            refine ⟨_, _, rfl, fun r hr => ?_⟩
            walk_at "w"
            rw [upd_upd, upd_upd]
            exact fin _ _ _ _ _ _ r0 (ends _ r0 r1) (by omega) rfl
          · walk_at "w"
            rw [upd_upd, upd_upd, upd_upd]
            exact fin _ _ _ _ _ _ r0 (ends _ r0 r1) (by omega) rfl
      · walk_at "w"
        walk_at "yes"
        walk_at "w"
        refine ⟨_, _, rfl, fun r hr => ?_⟩
        walk_at "w"
        exact fin _ _ _ _ _ _ r0 (ends _ r0 r1) hi rfl
    · walk_at "w"
      walk_at "no"
      walk_at "w"
      rw [upd_upd]
      exact fin _ _ _ _ _ _ r0 (ends _ r0 r1) hi rfl
end
end GJ


set_option Elab.async false
set_option linter.all false
set_option maxRecDepth 100000
set_option maxHeartbeats 4000000
namespace GJ
open PySem PySem.Spec PyProof.Rows L2 TL
set_option pp.maxSteps 300
section
variable {P : Program} {w : World} {K : PySem.W.Frag} {mg : Str → Option Value} {base : Heap}
set_option hygiene false in
local macro_rules | `(tactic| walk_at "w") => `(tactic| repeat (first
  | refine ⟨_, rfl, ?_⟩
  | refine ⟨_, _, rfl, rfl, (by first | decide | omega), fun r r0 r1 re => ?_⟩
  | refine ⟨_, _, rfl, rfl, (by first | exact Or.inl ⟨by omega, by omega⟩ | exact Or.inr ⟨by omega, by omega⟩ : CMul _ _), ?_⟩
  | refine ⟨_, _, rfl, rfl, (by first | exact ⟨by decide, by decide⟩ | exact ⟨by omega, by omega⟩ : CDiv _ _), ?_⟩
  | refine ⟨_, _, rfl, rfl, (by exact ⟨by decide, by decide, by decide⟩ : CPow _ _), ?_⟩
  | refine ⟨_, _, rfl, rfl, ?_⟩
  | refine ⟨(by rfl : scal _ _ = true), ?_⟩
  | refine Or.inl ⟨_, rfl, ?_⟩
  | refine ⟨_, _, rfl, fun m m0 m1 m2 => ?_⟩
  | refine ⟨_, _, _, _, rfl, rfl, SqL.of (by first | assumption | exact upd_same | exact fx _ | exact fy _), rfl, ?_⟩
  | refine ⟨_, _, _, _, rfl, rfl, (by first | assumption | exact upd_same | exact fx _ | exact fy _), rfl, ?_⟩
  | refine ⟨_, _, _, _, rfl, rfl, SqT.of (by first | assumption | exact upd_same | exact fx _ | exact fy _), rfl, ?_⟩
  | refine ⟨(szle (by omega) : Str.length _ ≤ sizeLine), ?_⟩
  | refine ⟨(szle (by first | omega | (rw [sla]; omega) | (rw [sla, sla]; omega)) : Str.length _ + Str.length _ ≤ sizeLine), ?_⟩
  | refine ⟨_, _, rfl, len_lst (by first | assumption | exact upd_same | exact fx _ | exact fy _), ?_⟩))
set_option hygiene false in
local macro_rules | `(tactic| walk_at "if") => `(tactic| (refine ite2 (fun hc => ?_) (fun hc => ?_) <;>
  simp only [decide_eq_true_eq, Bool.not_eq_true', decide_eq_false_iff_not, V.int.injEq, V.str.injEq, V.bl.injEq, Decidable.not_not, Bool.not_eq_true, V.int_ne, Int.not_lt, Int.not_le, Bool.true_eq_false, Bool.false_eq_true, not_true_eq_false, not_false_eq_true] at hc))
set_option hygiene false in
local macro_rules | `(tactic| walk_at "new") => `(tactic| (refine ⟨by first | decide | (simp only [List.length_cons, List.length_nil, List.length_append, List.length_map]; first | decide | (rw [sizeLine_eq]; omega)), fun p np => ?_⟩))
set_option hygiene false in
local macro_rules | `(tactic| walk_at "yes") => `(tactic| refine itY (by first | rfl | exact decide_eq_true (by first | rfl | omega | assumption) | (simp only [decide_eq_true_eq, Bool.not_eq_true', decide_eq_false_iff_not, V.int.injEq, V.str.injEq, V.bl.injEq]; first | omega | assumption)) ?_)
set_option hygiene false in
local macro_rules | `(tactic| walk_at "no") => `(tactic| refine itN (by first | decide | (simp only [decide_eq_true_eq, Bool.not_eq_true', decide_eq_false_iff_not, V.int.injEq, V.str.injEq, V.bl.injEq, Bool.not_eq_true, Decidable.not_not]; first | omega | assumption)) ?_)
def sp_between : Sp := fun vs H Q _ => ∃ (z : Zz) (lo hi : Int), vs = [.ref z.s, .int lo, .int hi] ∧ St z H ∧ hi - lo ≤ 100000 ∧ ∀ (r : Int) H', lo ≤ r → (r ≤ hi ∨ r = lo) → Wd z H H' → Q (.int r) H'
def N__law_between : List Str := ["_law_store_here", "_law_low", "_law_high", "_law_draw"]
theorem sc__law_between : FnScope N__law_between ["_law_store_here", "_law_low", "_law_high"] (defScope (top 51)) := ⟨rfl, rfl, rfl, by decide +kernel, rfl, by decide +kernel, by decide +kernel⟩
theorem ok__law_between (En : Env K mg fas fns prs) : Ok P w K mg base "_law_between" 3 ["_law_store_here", "_law_low", "_law_high"] sp_between := by
  refine ok_mk 32 51 En sc__law_between (fun _ _ _ _ _ _ us hl => match us, hl with | [_, _, _], _ => rfl) (fun vs H Q E h => ?_) (fun f cdv A outer s H vs Q E hr h => ?_)
  · obtain ⟨z, lo, hi, rfl, _⟩ := h
    rfl
  · obtain ⟨z, lo, hi, rfl, hz, hm, k⟩ := h
    refine ⟨_, (pss_cons
        (ps_set (i := 3) sc__law_between.nd rfl (Or.inl rfl) (pe_fn (ok__law_take En) (hr.mono (by decide)) (pa_cons (pv 0) (pa_cons pe_int pa_nil))))
      (pss_cons
        (ps_if (PW.pt (pw_or (pt_cmpR op_eq (pv 3) pe_int (nomark _)) (pw_or1 (pt_cmpR op_lt (pv 2) (pv 1) (nomark _))))) (pss_one (ps_ret (pv 1))) pss_nil)
      (pss_cons
        (ps_if (pt_cmpR op_eq (pv 3) pe_int (nomark _)) (pss_one (ps_ret (pv 2))) pss_nil)
      (pss_one
        (ps_ret (pe_op op_add (pv 1) (pe_fn (ok__law_take En) (hr.mono (by decide)) (pa_cons (pv 0) (pa_cons (pe_op op_add (pe_op op_sub (pv 2) (pv 1)) pe_int) pa_nil))))))))), ?_⟩
    walk_at "w"
    refine ⟨z, _, rfl, hz, by decide, fun r H1 r0 r1 w1 => ?_⟩
    walk_at "w"
    walk_at "if"
    · walk_at "yes"
      walk_at "w"
      exact k _ _ (Int.le_refl _) (.inr rfl) w1
    · walk_at "w"
      walk_at "if"
      · walk_at "w"
        exact k _ _ (Int.le_refl _) (.inr rfl) w1
      · walk_at "w"
        walk_at "if"
        · walk_at "w"
          exact k _ _ (by omega) (.inl (by omega)) w1
        · walk_at "w"
          refine ⟨z, _, rfl, w1.st, by omega, fun r' H2 q0 q1 w2 => ?_⟩
          walk_at "w"
          exact k _ _ (by omega) (by omega) (w1.trans w2)
def sp_pick : Sp := fun vs H Q _ => ∃ (z : Zz) (row : V), vs = [.ref z.s, row] ∧ St z H ∧
  ((∃ a xs, row = .ref a ∧ hide z H a = some (.lst xs) ∧ xs ≠ [] ∧ xs.length ≤ 100000 ∧ ∀ v ∈ xs, ∀ H', Wd z H H' → Q v H') ∨
   (∃ x : Str, row = .str x ∧ tl x ≠ [] ∧ (tl x).length ≤ 100000 ∧ ∀ c ∈ tl x, ∀ H', Wd z H H' → Q (.str ⟨#[c]⟩) H'))
def N__law_pick : List Str := ["_law_store_here", "_law_row"]
theorem sc__law_pick : FnScope N__law_pick ["_law_store_here", "_law_row"] (defScope (top 52)) := ⟨rfl, rfl, rfl, by decide +kernel, rfl, by decide +kernel, by decide +kernel⟩
theorem ok__law_pick (En : Env K mg fas fns prs) : Ok P w K mg base "_law_pick" 3 ["_law_store_here", "_law_row"] sp_pick := by
  refine ok_mk 33 52 En sc__law_pick (fun _ _ _ _ _ _ us hl => match us, hl with | [_, _], _ => rfl) (fun vs H Q E h => ?_) (fun f cdv A outer s H vs Q E hr h => ?_)
  · obtain ⟨z, row, rfl, _⟩ := h
    rfl
  · obtain ⟨z, row, rfl, hz, k⟩ := h
    refine ⟨_, (pss_one (ps_ret (pe_ix (ix_seqK (K := K) rfl) (pv 1) (pe_fn (ok__law_take En) (hr.mono (by decide)) (pa_cons (pv 0) (pa_cons (pe_callB (call_lenK (K := K) rfl) (by rfl) (fr_len En) bt_len (pa_cons (pv 1) pa_nil)) pa_nil))) (fun _ _ => rfl)))), ?_⟩
    rcases k with ⟨a, xs, rfl, hx, hne, hl, k⟩ | ⟨x, rfl, hne, hl, k⟩
    · walk_at "w"
      have ha : H a = some (.lst xs) := hide_le z H _ _ hx
      refine ⟨_, _, rfl, len_lst ha, ?_⟩
      walk_at "w"
      refine ⟨z, _, rfl, hz, by omega, fun r H1 r0 r1 w1 => ?_⟩
      have hp : 0 < xs.length := List.length_pos_iff.mpr hne
      obtain ⟨v, e1, e2⟩ := at_nn (xs := xs) r0 (by omega)
      exact Or.inl ⟨a, xs, r, v, rfl, rfl, SqL.of (w1.at hx), e2, k v (at_mem e1) H1 w1⟩
    · walk_at "w"
      refine ⟨_, _, rfl, len_str (by rw [tl_len]; omega), ?_⟩
      walk_at "w"
      refine ⟨z, _, rfl, hz, by rw [tl_len]; omega, fun r H1 r0 r1 w1 => ?_⟩
      have hp : 0 < (tl x).length := List.length_pos_iff.mpr hne
      rw [tl_len] at r1
      obtain ⟨c, e1, e2⟩ := at_nn (xs := tl x) r0 (by omega)
      exact Or.inr (Or.inr ⟨x, r, c, rfl, rfl, Nat.le_trans hl (by decide), e2, k c (at_mem e1) H1 w1⟩)
def sp_word : Sp := fun vs H Q _ => ∃ (z : Zz) (wr : Str) (n : Nat), vs = [.ref z.s, .str wr, .int n] ∧ St z H ∧ tl wr ≠ [] ∧ (tl wr).length ≤ 1000 ∧ n ≤ 1000 ∧ ∀ (x : Str) H', Wo wr n x → Wd z H H' → Q (.str x) H'
def N__law_word : List Str := ["_law_store_here", "_law_letters_here", "_law_limit", "_law_draw", "_law_size", "_law_k"]
theorem sc__law_word : FnScope N__law_word ["_law_store_here", "_law_letters_here", "_law_limit"] (defScope (top 53)) := ⟨rfl, rfl, rfl, by decide +kernel, rfl, by decide +kernel, by decide +kernel⟩
theorem ok__law_word (En : Env K mg fas fns prs) : Ok P w K mg base "_law_word" 4 ["_law_store_here", "_law_letters_here", "_law_limit"] sp_word := by
  refine ok_mk 34 53 En sc__law_word (fun _ _ _ _ _ _ us hl => match us, hl with | [_, _, _], _ => rfl) (fun vs H Q E h => ?_) (fun f cdv A outer s H vs Q E hr h => ?_)
  · obtain ⟨z, wr, n, rfl, _⟩ := h
    rfl
  · obtain ⟨z, wr, n, rfl, hz, hne, hw, hn, k⟩ := h
    refine ⟨_, (pss_cons
        (ps_set (i := 3) sc__law_word.nd rfl (Or.inl rfl) (pe_fn (ok__law_take En) (hr.mono (by decide)) (pa_cons (pv 0) (pa_cons pe_int pa_nil))))
      (pss_cons
        (ps_if (PW.pt (pw_or (pt_cmpR op_eq (pv 3) pe_int (nomark _)) (pw_or1 (pt_cmpR op_lt (pv 2) pe_int (nomark _))))) (pss_one (ps_ret pe_str)) pss_nil)
      (pss_cons
        (ps_if (pt_cmpR op_eq (pv 3) pe_int (nomark _)) (pss_one (ps_ret (pe_op op_mulStr (pe_fn (ok__law_pick En) (hr.mono (by decide)) (pa_cons (pv 0) (pa_cons (pv 1) pa_nil))) (pv 2)))) pss_nil)
      (pss_cons
        (ps_set (i := 4) sc__law_word.nd rfl (Or.inl rfl) (pv 2))
      (pss_cons
        (ps_if (pt_cmpR op_gt (pv 3) pe_int (nomark _)) (pss_one (ps_set (i := 4) sc__law_word.nd rfl (Or.inl rfl) (pe_fn (ok__law_take En) (hr.mono (by decide)) (pa_cons (pv 0) (pa_cons (pe_op op_add (pv 2) pe_int) pa_nil))))) pss_nil)
      (pss_cons
        (ps_if (pt_cmpR op_eq (pv 3) pe_int (nomark _)) (pss_one (ps_ret (pe_op op_mulStr (pe_fn (ok__law_pick En) (hr.mono (by decide)) (pa_cons (pv 0) (pa_cons (pv 1) pa_nil))) (pv 4)))) pss_nil)
      (pss_one
        (ps_ret (pe_join pe_str (pe_lc (own := [("_law_k", 5)]) (g := gName 5) (tt := tYes) rfl sc__law_word.nd (pi_range1 rfl (fr_range En) (pa_cons (pv 4) pa_nil)) (blkOk_by (own := [("_law_k", 5)]) (N := N__law_word) (sc := defScope (top 53)) (by decide +kernel)) (fun _ _ _ _ _ => (pg_name (i := 5) sc__law_word.nd rfl (Or.inl rfl))) (fun _ _ _ _ _ => pts_nil) (fun _ _ _ _ _ => (pe_fn (ok__law_pick En) (hr.mono (by decide)) (pa_cons (pv 0) (pa_cons (pv 1) pa_nil)))))))))))))), ?_⟩
    walk_at "w"
    refine ⟨z, _, rfl, hz, by decide, fun d H1 d0 d1 w1 => ?_⟩
    walk_at "w"
    walk_at "if"
    · walk_at "yes"
      walk_at "w"
      exact k _ _ (Wo.empty _ _) w1
    walk_at "w"
    walk_at "if"
    · walk_at "w"
      exact k _ _ (Wo.empty _ _) w1
    walk_at "w"
    walk_at "if"
    · walk_at "w"
      refine ⟨z, _, rfl, w1.st, Or.inr ⟨wr, rfl, hne, by omega, fun c hc H2 w2 => ?_⟩⟩
      walk_at "w"
      refine ⟨(show 1 ≤ 1000 by decide), by omega, by omega, ?_⟩
      exact k _ _ (((Wo.one hc).mul _).mono (by omega)) (w1.trans w2)
    walk_at "w"
    walk_at "if"
    walk_at "w"
    refine ⟨z, _, rfl, w1.st, by omega, fun e H2 e0 e1 w2 => ?_⟩
    replace w2 := w1.trans w2
    walk_at "w"
    rotate_left
    have w2 := w1
    walk_at "w"
    all_goals
      walk_at "if"
      · walk_at "w"
        refine ⟨z, _, rfl, w2.st, Or.inr ⟨wr, rfl, hne, by omega, fun c hc H3 w3 => ?_⟩⟩
        walk_at "w"
        refine ⟨(show 1 ≤ 1000 by decide), by omega, by omega, ?_⟩
        exact k _ _ (((Wo.one hc).mul _).mono (by omega)) (w2.trans w3)
      walk_at "w"
      refine ⟨⟨_, rfl⟩, ?_⟩
      walk_at "w"
      refine ⟨by omega, by omega, fun D nD => lc_range (lo := 0) (fun i H' => ∃ ys : List Str, Wd z H H' ∧ H' D = some (.lst (ys.map V.str)) ∧ ys.length = i ∧ ∀ y ∈ ys, Wo wr 1 y) ?_ ?_ ?_⟩
      · exact ⟨[], w2.new nD, upd_same, rfl, fun y hy => nomatch hy⟩
      · rintro i H3 hi ⟨ys, w3, hD, hl, hy⟩
        refine ⟨rfl, ?_⟩
        walk_at "w"
        refine ⟨z, _, rfl, w3.st, Or.inr ⟨wr, rfl, hne, by omega, fun c hc H4 w4 => ?_⟩⟩
        obtain ⟨n1, n2, _⟩ := w2.st.ne nD
        refine ⟨_, w4.kp _ _ n1 n2 hD, by rw [List.length_map, sizeLine_eq]; omega, ys ++ [⟨#[c]⟩], (w3.trans w4).put (w2.nul hz nD) n1 n2, by rw [upd_same, List.map_append]; rfl, by rw [List.length_append, hl]; rfl, fun y h => ?_⟩
        rcases List.mem_append.mp h with h | h
        · exact hy y h
        · rw [List.mem_singleton.mp h]
          exact Wo.one hc
      · rintro H3 ⟨ys, w3, hD, hl, hy⟩
        refine ⟨_, D, ys, rfl, rfl, Or.inl (SqL.of hD), ?_, ?_⟩
        · have := sum_len ys fun y h => (hy y h).1
          show _ + ys.length * 0 ≤ 16777216
          omega
        · exact k _ _ ((Wo.join hy).mono (by omega)) w3
end
end GJ


set_option Elab.async false
set_option linter.all false
set_option maxRecDepth 100000
set_option maxHeartbeats 4000000
namespace GJ
open PySem PySem.Spec PyProof.Rows L2 TL
set_option pp.maxSteps 300
abbrev Side := Int × Str
abbrev Arc := Int × Str × Str × Int
def sideD (e : Side) : PyData := .tuple [.int e.1, .str e.2]
def arcD (e : Arc) : PyData := .tuple [.int e.1, .str e.2.1, .str e.2.2.1, .int e.2.2.2]
def SOk (n : Int) (wr : Str) (L : Nat) (e : Side) : Prop := 0 ≤ e.1 ∧ e.1 < n ∧ Wo wr L e.2
def AOk (n : Int) (rd wr : Str) (L : Nat) (e : Arc) : Prop := (0 ≤ e.1 ∧ e.1 < n) ∧ (∃ c ∈ tl rd, e.2.1 = ⟨#[c]⟩) ∧ Wo wr L e.2.2.1 ∧ 0 ≤ e.2.2.2 ∧ e.2.2.2 < n
/-- an alphabet of at most three letters -/
structure Alpha (w : Str) : Prop where
  up : (tl w).Pairwise (· < ·)
  ne : tl w ≠ []
  le : (tl w).length ≤ 3
  az : ∀ c ∈ tl w, 97 ≤ c ∧ c ≤ 122
theorem SOk.mono {n : Int} {wr : Str} {L M : Nat} {e : Side} (h : SOk n wr L e) (l : L ≤ M) : SOk n wr M e := ⟨h.1, h.2.1, h.2.2.mono l⟩
theorem AOk.mono {n : Int} {rd wr : Str} {L M : Nat} {e : Arc} (h : AOk n rd wr L e) (l : L ≤ M) : AOk n rd wr M e := ⟨h.1, h.2.1, h.2.2.1.mono l, h.2.2.2⟩
theorem DA.side {H : Hp} {p : Addr} {e : Side} (h : H p = some (.tup [.int e.1, .str e.2])) : DA H (.ref p) (sideD e) := .tup h (.cons (.int _) (.cons (.str _) .nil))
theorem DA.arc {H : Hp} {p : Addr} {e : Arc} (h : H p = some (.tup [.int e.1, .str e.2.1, .str e.2.2.1, .int e.2.2.2])) : DA H (.ref p) (arcD e) := .tup h (.cons (.int _) (.cons (.str _) (.cons (.str _) (.cons (.int _) .nil))))
theorem DA.side_inv {H : Hp} {v : V} {e : Side} (h : DA H v (sideD e)) : ∃ p, v = .ref p ∧ H p = some (.tup [.int e.1, .str e.2]) := by
  obtain ⟨p, xs, rfl, h1, h2⟩ := DA.tup_inv h
  cases h2 with
  | cons a b => cases b with
    | cons c d => cases d; cases a; cases c; exact ⟨p, rfl, h1⟩
theorem DA.arc_inv {H : Hp} {v : V} {e : Arc} (h : DA H v (arcD e)) : ∃ p, v = .ref p ∧ H p = some (.tup [.int e.1, .str e.2.1, .str e.2.2.1, .int e.2.2.2]) := by
  obtain ⟨p, xs, rfl, h1, h2⟩ := DA.tup_inv h
  cases h2 with
  | cons a b => cases b with
    | cons c d => cases d with
      | cons f g => cases g with
        | cons i j => cases j; cases a; cases c; cases f; cases i; exact ⟨p, rfl, h1⟩
section
variable {P : Program} {w : World} {K : PySem.W.Frag} {mg : Str → Option Value} {base : Heap}
set_option hygiene false in
local macro_rules | `(tactic| walk_at "w") => `(tactic| repeat (first
  | refine ⟨_, rfl, ?_⟩
  | refine ⟨_, _, rfl, rfl, (by first | decide | omega), fun r r0 r1 re => ?_⟩
  | refine ⟨_, _, rfl, rfl, (by first | exact Or.inl ⟨by omega, by omega⟩ | exact Or.inr ⟨by omega, by omega⟩ : CMul _ _), ?_⟩
  | refine ⟨_, _, rfl, rfl, (by first | exact ⟨by decide, by decide⟩ | exact ⟨by omega, by omega⟩ : CDiv _ _), ?_⟩
  | refine ⟨_, _, rfl, rfl, (by exact ⟨by decide, by decide, by decide⟩ : CPow _ _), ?_⟩
  | refine ⟨_, _, rfl, rfl, ?_⟩
  | refine ⟨(by rfl : scal _ _ = true), ?_⟩
  | refine Or.inl ⟨_, rfl, ?_⟩
  | refine ⟨_, _, rfl, fun m m0 m1 m2 => ?_⟩
  | refine ⟨_, _, _, _, rfl, rfl, SqL.of (by first | assumption | exact upd_same | exact fx _ | exact fy _), rfl, ?_⟩
  | refine ⟨_, _, _, _, rfl, rfl, (by first | assumption | exact upd_same | exact fx _ | exact fy _), rfl, ?_⟩
  | refine ⟨_, _, _, _, rfl, rfl, SqT.of (by first | assumption | exact upd_same | exact fx _ | exact fy _), rfl, ?_⟩
  | refine ⟨(szle (by omega) : Str.length _ ≤ sizeLine), ?_⟩
  | refine ⟨(szle (by first | omega | (rw [sla]; omega) | (rw [sla, sla]; omega)) : Str.length _ + Str.length _ ≤ sizeLine), ?_⟩
  | refine ⟨_, _, rfl, len_lst (by first | assumption | exact upd_same | exact fx _ | exact fy _), ?_⟩))
set_option hygiene false in
local macro_rules | `(tactic| walk_at "if") => `(tactic| (refine ite2 (fun hc => ?_) (fun hc => ?_) <;>
  simp only [decide_eq_true_eq, Bool.not_eq_true', decide_eq_false_iff_not, V.int.injEq, V.str.injEq, V.bl.injEq, Decidable.not_not, Bool.not_eq_true, V.int_ne, Int.not_lt, Int.not_le, Bool.true_eq_false, Bool.false_eq_true, not_true_eq_false, not_false_eq_true] at hc))
set_option hygiene false in
local macro_rules | `(tactic| walk_at "new") => `(tactic| (refine ⟨by first | decide | (simp only [List.length_cons, List.length_nil, List.length_append, List.length_map]; first | decide | (rw [sizeLine_eq]; omega)), fun p np => ?_⟩))
set_option hygiene false in
local macro_rules | `(tactic| walk_at "yes") => `(tactic| refine itY (by first | rfl | exact decide_eq_true (by first | rfl | omega | assumption) | (simp only [decide_eq_true_eq, Bool.not_eq_true', decide_eq_false_iff_not, V.int.injEq, V.str.injEq, V.bl.injEq]; first | omega | assumption)) ?_)
set_option hygiene false in
local macro_rules | `(tactic| walk_at "no") => `(tactic| refine itN (by first | decide | (simp only [decide_eq_true_eq, Bool.not_eq_true', decide_eq_false_iff_not, V.int.injEq, V.str.injEq, V.bl.injEq, Bool.not_eq_true, Decidable.not_not]; first | omega | assumption)) ?_)
def sp_arc : Sp := fun vs H Q _ => ∃ (z : Zz) (rd wr : Str) (n : Int) (L : Nat), vs = [.ref z.s, .str rd, .str wr, .int n, .int L] ∧ St z H ∧ tl rd ≠ [] ∧ (tl rd).length ≤ 1000 ∧ tl wr ≠ [] ∧ (tl wr).length ≤ 1000 ∧ 1 ≤ n ∧ n ≤ 1000 ∧ L ≤ 1000 ∧
  ∀ p H' e, AOk n rd wr L e → Wd z H H' → DA (hide z H') (.ref p) (arcD e) → Q (.ref p) H'
def N__law_arc : List Str := ["_law_store_here", "_law_read", "_law_write", "_law_size", "_law_longest", "_law_letter", "_law_word_here"]
theorem sc__law_arc : FnScope N__law_arc ["_law_store_here", "_law_read", "_law_write", "_law_size", "_law_longest"] (defScope (top 54)) := ⟨rfl, rfl, rfl, by decide +kernel, rfl, by decide +kernel, by decide +kernel⟩
theorem ok__law_arc (En : Env K mg fas fns prs) : Ok P w K mg base "_law_arc" 5 ["_law_store_here", "_law_read", "_law_write", "_law_size", "_law_longest"] sp_arc := by
  refine ok_mk 35 54 En sc__law_arc (fun _ _ _ _ _ _ us hl => match us, hl with | [_, _, _, _, _], _ => rfl) (fun vs H Q E h => ?_) (fun f cdv A outer s H vs Q E hr h => ?_)
  · obtain ⟨z, rd, wr, n, L, rfl, _⟩ := h
    rfl
  · obtain ⟨z, rd, wr, n, L, rfl, hz, hr1, hr2, hw1, hw2, hn1, hn2, hL, k⟩ := h
    refine ⟨_, (pss_cons
        (ps_set (i := 5) sc__law_arc.nd rfl (Or.inl rfl) (pe_fn (ok__law_pick En) (hr.mono (by decide)) (pa_cons (pv 0) (pa_cons (pv 1) pa_nil))))
      (pss_cons
        (ps_set (i := 6) sc__law_arc.nd rfl (Or.inl rfl) (pe_fn (ok__law_word En) (hr.mono (by decide)) (pa_cons (pv 0) (pa_cons (pv 2) (pa_cons (pv 4) pa_nil)))))
      (pss_one
        (ps_ret (pe_tup (pa_cons (pe_fn (ok__law_take En) (hr.mono (by decide)) (pa_cons (pv 0) (pa_cons (pv 3) pa_nil))) (pa_cons (pv 5) (pa_cons (pv 6) (pa_cons (pe_fn (ok__law_take En) (hr.mono (by decide)) (pa_cons (pv 0) (pa_cons (pv 3) pa_nil))) pa_nil))))))))), ?_⟩
    walk_at "w"
    refine ⟨z, _, rfl, hz, Or.inr ⟨rd, rfl, hr1, by omega, fun c hc H1 w1 => ?_⟩⟩
    walk_at "w"
    refine ⟨z, wr, L, rfl, w1.st, hw1, hw2, hL, fun x H2 hx w2 => ?_⟩
    walk_at "w"
    refine ⟨z, _, rfl, w2.st, by omega, fun q H3 q0 q1 w3 => ?_⟩
    walk_at "w"
    refine ⟨z, _, rfl, w3.st, by omega, fun t H4 t0 t1 w4 => ?_⟩
    walk_at "w"
    walk_at "new"
    have w5 := ((w1.trans w2).trans w3).trans w4
    exact k p _ (q, ⟨#[c]⟩, x, t) ⟨⟨q0, by show q < n; omega⟩, ⟨c, hc, rfl⟩, hx, t0, by show t < n; omega⟩ (w5.new np) (DA.arc (w5.here np))
def sp_unlike : Sp := fun vs H Q _ => ∃ (z : Zz) (wr x : Str) (L : Nat), vs = [.ref z.s, .str wr, .str x] ∧ St z H ∧ Alpha wr ∧ Wo wr L x ∧ L ≤ 900 ∧ ∀ y H', Wo wr (L + 1) y → Wd z H H' → Q (.str y) H'
def N__law_unlike_word : List Str := ["_law_store_here", "_law_letters_here", "_law_word_here", "_law_draw", "_law_at", "_law_x"]
theorem sc__law_unlike_word : FnScope N__law_unlike_word ["_law_store_here", "_law_letters_here", "_law_word_here"] (defScope (top 55)) := ⟨rfl, rfl, rfl, by decide +kernel, rfl, by decide +kernel, by decide +kernel⟩
theorem ok__law_unlike_word (En : Env K mg fas fns prs) : Ok P w K mg base "_law_unlike_word" 4 ["_law_store_here", "_law_letters_here", "_law_word_here"] sp_unlike := by
  refine ok_mk 36 55 En sc__law_unlike_word (fun _ _ _ _ _ _ us hl => match us, hl with | [_, _, _], _ => rfl) (fun vs H Q E h => ?_) (fun f cdv A outer s H vs Q E hr h => ?_)
  · obtain ⟨z, wr, x, L, rfl, _⟩ := h
    rfl
  · obtain ⟨z, wr, x, L, rfl, hz, hA, hx, hL, k⟩ := h
    have hxl : x.length ≤ L := hx.1
    refine ⟨_, (pss_cons
        (ps_set (i := 3) sc__law_unlike_word.nd rfl (Or.inl rfl) (pe_fn (ok__law_take En) (hr.mono (by decide)) (pa_cons (pv 0) (pa_cons pe_int pa_nil))))
      (pss_cons
        (ps_set (i := 4) sc__law_unlike_word.nd rfl (Or.inr rfl) (pe_fn (ok__law_take En) (hr.mono (by decide)) (pa_cons (pv 0) (pa_cons (pe_op op_add (pe_callB (call_lenK (K := K) rfl) (by rfl) (fr_len En) bt_len (pa_cons (pv 2) pa_nil)) pe_int) pa_nil))))
      (pss_cons
        (ps_if (PW.pt (pw_or (pt_cmpR op_eq (pv 3) pe_int (nomark _)) (pw_or (pt_cmpR op_eq (pv 2) pe_str (nomark _)) (pw_or1 (PW.pt (pw_and (pt_cmpR op_eq (pv 3) pe_int (nomark _)) (pw_and1 (pt_cmpR op_eq (pe_callB (call_lenK (K := K) rfl) (by rfl) (fr_len En) bt_len (pa_cons (pv 1) pa_nil)) pe_int (nomark _))))))))) (pss_one (ps_ret (pe_op op_add_str (pe_op op_add_str (pe_slice sl_str (pv 2) po_none (po_some (pv 4))) (pe_fn (ok__law_pick En) (hr.mono (by decide)) (pa_cons (pv 0) (pa_cons (pv 1) pa_nil)))) (pe_slice sl_str (pv 2) (po_some (pv 4)) po_none)))) pss_nil)
      (pss_cons
        (ps_set (i := 4) sc__law_unlike_word.nd rfl (Or.inr rfl) (pe_fn (ok__law_take En) (hr.mono (by decide)) (pa_cons (pv 0) (pa_cons (pe_callB (call_lenK (K := K) rfl) (by rfl) (fr_len En) bt_len (pa_cons (pv 2) pa_nil)) pa_nil))))
      (pss_cons
        (ps_if (pt_cmpR op_eq (pv 3) pe_int (nomark _)) (pss_one (ps_ret (pe_op op_add_str (pe_slice sl_str (pv 2) po_none (po_some (pv 4))) (pe_slice sl_str (pv 2) (po_some (pe_op op_add (pv 4) pe_int)) po_none)))) pss_nil)
      (pss_one
        (ps_ret (pe_op op_add_str (pe_op op_add_str (pe_slice sl_str (pv 2) po_none (po_some (pv 4))) (pe_fn (ok__law_pick En) (hr.mono (by decide)) (pa_cons (pv 0) (pa_cons (pe_lc (own := [("_law_x", 5)]) (g := gName 5) (tt := _) rfl sc__law_unlike_word.nd (pi_str (pv 1)) (blkOk_by (own := [("_law_x", 5)]) (N := N__law_unlike_word) (sc := defScope (top 55)) (by decide +kernel)) (fun _ _ _ _ _ => (pg_name (i := 5) sc__law_unlike_word.nd rfl (Or.inl rfl))) (fun _ _ _ _ _ => (pts_one (pt_cmpR op_ne (pv 5) (pe_ix ix_str (pv 2) (pv 4) (fun _ _ => rfl)) (nomark _)))) (fun _ _ _ _ _ => (pv 5))) pa_nil)))) (pe_slice sl_str (pv 2) (po_some (pe_op op_add (pv 4) pe_int)) po_none))))))))), ?_⟩
    walk_at "w"
    refine ⟨z, _, rfl, hz, by decide, fun d H1 d0 d1 w1 => ?_⟩
    walk_at "w"
    refine ⟨_, _, rfl, len_str (by omega), ?_⟩
    walk_at "w"
    refine ⟨z, _, rfl, w1.st, by omega, fun t H2 t0 t1 w2 => ?_⟩
    replace w2 := w1.trans w2
    walk_at "w"
    have c1 := cut_len x none (some t)
    have c2 := cut_len x (some t) none
    have tlA : ∀ c ∈ tl wr, ∀ H3, Wd z H2 H3 → Q (.str (cutS x none (some t) ++ ⟨#[c]⟩ ++ cutS x (some t) none)) H3 := fun c hc H3 w3 => k _ _ (hx.join3 (Wo.one hc) t0 (Int.le_refl _)) (w2.trans w3)
    have hal := hA.le
    walk_at "if"
    · walk_at "yes"
      walk_at "w"
      refine ⟨z, _, rfl, w2.st, Or.inr ⟨wr, rfl, hA.ne, by omega, fun c hc H3 w3 => ?_⟩⟩
      have c3 : (⟨#[c]⟩ : Str).length = 1 := rfl
      walk_at "w"
      exact tlA c hc H3 w3
    walk_at "w"
    walk_at "if"
    · walk_at "yes"
      walk_at "w"
      refine ⟨z, _, rfl, w2.st, Or.inr ⟨wr, rfl, hA.ne, by omega, fun c hc H3 w3 => ?_⟩⟩
      have c3 : (⟨#[c]⟩ : Str).length = 1 := rfl
      walk_at "w"
      exact tlA c hc H3 w3
    have hxne : 0 < x.length := by
      cases q : tl x with
      | nil => exact absurd (tl_ext q) hc
      | cons a l => rw [tl_len, q]; exact Nat.succ_pos _
    walk_at "w"
    walk_at "if"
    · walk_at "w"
      refine ⟨_, _, rfl, len_str (by rw [tl_len]; omega), ?_⟩
      walk_at "w"
      walk_at "if"
      · walk_at "w"
        refine ⟨z, _, rfl, w2.st, Or.inr ⟨wr, rfl, hA.ne, by omega, fun c hc H3 w3 => ?_⟩⟩
        have c3 : (⟨#[c]⟩ : Str).length = 1 := rfl
        walk_at "w"
        exact tlA c hc H3 w3
      have hl2 : ¬ (tl wr).length = 1 := by rw [← tl_len]; omega
      walk_at "w"
      refine ⟨_, _, rfl, len_str (by omega), ?_⟩
      walk_at "w"
      refine ⟨z, _, rfl, w2.st, by omega, fun t H3 u0 u1 w3 => ?_⟩
      replace w3 := w2.trans w3
      walk_at "w"
      walk_at "no"
      have c1 := cut_len x none (some t)
      have c2 := cut_len x (some (t + 1)) none
      obtain ⟨v, e1, e2⟩ := at_nn (xs := tl x) u0 (by rw [← tl_len]; omega)
      walk_at "w"
      refine fun D nD => lc_it walk_str (fun i H' => ∃ ys : List Str, Wd z H3 H' ∧ H' D = some (.lst (ys.map V.str)) ∧ ys.length ≤ i ∧ (∀ y ∈ ys, ∃ c ∈ tl wr, y = ⟨#[c]⟩) ∧ ∀ c ∈ (tl wr).take i, c ≠ v → (⟨#[c]⟩ : Str) ∈ ys) ?_ (fun _ _ _ _ => True.intro) ?_ ?_
      · exact ⟨[], (Wd.refl w3.st).new nD, upd_same, Nat.le_refl _, fun y hy => (nomatch hy), fun c hc => by simp at hc⟩
      · rintro i y H4 _ hi ⟨ys, w4, hD, hl, hy, hall⟩ ⟨rfl, c, hc1, rfl⟩
        have hc2 : (tl wr)[i]? = some c := by rw [← hc1]; simp [TL.tl]
        obtain ⟨n1, n2, _⟩ := w3.st.ne nD
        have wx : (tl wr).take (i + 1) = (tl wr).take i ++ [c] := by rw [List.take_add_one, hc2]; rfl
        refine ⟨rfl, ?_⟩
        walk_at "w"
        refine ⟨x, t, v, rfl, rfl, szle (by omega), e2, ?_⟩
        walk_at "w"
        walk_at "if"
        · walk_at "w"
          refine ⟨_, hD, by rw [List.length_map]; exact small5 (by rw [show wr.cps.size = (tl wr).length from rfl] at hi; omega), ys ++ [⟨#[c]⟩], w4.put nD n1 n2, by rw [upd_same, List.map_append]; rfl, by rw [List.length_append]; exact Nat.succ_le_succ hl, fun y h => ?_, fun e h hne => ?_⟩
          · rcases List.mem_append.mp h with h | h
            · exact hy y h
            · exact ⟨c, List.mem_of_getElem? hc2, List.mem_singleton.mp h⟩
          · rw [wx] at h
            rcases List.mem_append.mp h with h | h
            · exact List.mem_append_left _ (hall e h hne)
            · rw [List.mem_singleton.mp h]
              exact List.mem_append_right _ (List.mem_singleton.mpr rfl)
        · refine ⟨ys, w4, hD, by omega, hy, fun e h hne => ?_⟩
          rw [wx] at h
          rcases List.mem_append.mp h with h | h
          · exact hall e h hne
          · have h2 := List.mem_singleton.mp h
            have h3 : (⟨#[c]⟩ : Str) = ⟨#[v]⟩ := by first | exact hc | exact Decidable.not_not.mp hc
            have h4 : c = v := by
              have := congrArg tl h3
              rw [tl_one, tl_one] at this
              exact (List.cons.inj this).1
            exact absurd (h2.trans h4) hne
      · rintro H4 ⟨ys, w4, hD, hl, hy, hall⟩
        obtain ⟨n1, n2, n3⟩ := w3.st.ne nD
        rw [show wr.cps.size = (tl wr).length from rfl] at hl hall
        rw [List.take_length] at hall
        have ex : ∃ c ∈ tl wr, c ≠ v := by
          match q : tl wr, hA.up with
          | [], _ => exact absurd q hA.ne
          | [a], _ => rw [q] at hl2; exact absurd rfl hl2
          | a :: b :: r, up =>
            have hab : a < b := (List.pairwise_cons.mp up).1 b List.mem_cons_self
            by_cases ha : a = v
            · exact ⟨b, List.mem_cons_of_mem _ List.mem_cons_self, by omega⟩
            · exact ⟨a, List.mem_cons_self, ha⟩
        obtain ⟨c, hc1, hc2⟩ := ex
        have hin := hall c hc1 hc2
        refine ⟨z, _, rfl, w4.st, Or.inl ⟨D, _, rfl, hide_of ⟨n1, n2, n3⟩ hD, fun q => ?_, by rw [List.length_map]; omega, fun y hmem H5 w5 => ?_⟩⟩
        · rw [List.map_eq_nil_iff.mp q] at hin
          cases hin
        obtain ⟨s1, hs1, rfl⟩ := List.mem_map.mp hmem
        obtain ⟨c', hc', rfl⟩ := hy s1 hs1
        have c3 : (⟨#[c']⟩ : Str).length = 1 := rfl
        walk_at "w"
        exact k _ _ (hx.join3 (Wo.one hc') u0 (by omega)) ((w3.trans w4).trans w5)
    · walk_at "w"
      refine ⟨_, _, rfl, len_str (by omega), ?_⟩
      walk_at "w"
      refine ⟨z, _, rfl, w2.st, by omega, fun t H3 u0 u1 w3 => ?_⟩
      replace w3 := w2.trans w3
      walk_at "w"
      walk_at "yes"
      have c1 := cut_len x none (some t)
      have c2 := cut_len x (some (t + 1)) none
      walk_at "w"
      exact k _ _ ((hx.join2 u0 (by omega)).mono (by omega)) w3
end
end GJ


set_option Elab.async false
set_option linter.all false
set_option maxRecDepth 100000
set_option maxHeartbeats 4000000
namespace GJ
open PySem PySem.Spec PyProof.Rows L2 TL
set_option pp.maxSteps 300
section
variable {P : Program} {w : World} {K : PySem.W.Frag} {mg : Str → Option Value} {base : Heap}
set_option hygiene false in
local macro_rules | `(tactic| walk_at "w") => `(tactic| repeat (first
  | refine ⟨_, rfl, ?_⟩
  | refine ⟨_, _, rfl, rfl, (by first | decide | omega), fun r r0 r1 re => ?_⟩
  | refine ⟨_, _, rfl, rfl, (by first | exact Or.inl ⟨by omega, by omega⟩ | exact Or.inr ⟨by omega, by omega⟩ : CMul _ _), ?_⟩
  | refine ⟨_, _, rfl, rfl, (by first | exact ⟨by decide, by decide⟩ | exact ⟨by omega, by omega⟩ : CDiv _ _), ?_⟩
  | refine ⟨_, _, rfl, rfl, (by exact ⟨by decide, by decide, by decide⟩ : CPow _ _), ?_⟩
  | refine ⟨_, _, rfl, rfl, ?_⟩
  | refine ⟨(by rfl : scal _ _ = true), ?_⟩
  | refine Or.inl ⟨_, rfl, ?_⟩
  | refine ⟨_, _, rfl, fun m m0 m1 m2 => ?_⟩
  | refine ⟨_, _, _, _, rfl, rfl, SqL.of (by first | assumption | exact upd_same | exact fx _ | exact fy _), rfl, ?_⟩
  | refine ⟨_, _, _, _, rfl, rfl, (by first | assumption | exact upd_same | exact fx _ | exact fy _), rfl, ?_⟩
  | refine ⟨_, _, _, _, rfl, rfl, SqT.of (by first | assumption | exact upd_same | exact fx _ | exact fy _), rfl, ?_⟩
  | refine ⟨(szle (by omega) : Str.length _ ≤ sizeLine), ?_⟩
  | refine ⟨(szle (by first | omega | (rw [sla]; omega) | (rw [sla, sla]; omega)) : Str.length _ + Str.length _ ≤ sizeLine), ?_⟩
  | refine ⟨_, _, rfl, len_lst (by first | assumption | exact upd_same | exact fx _ | exact fy _), ?_⟩))
set_option hygiene false in
local macro_rules | `(tactic| walk_at "if") => `(tactic| (refine ite2 (fun hc => ?_) (fun hc => ?_) <;>
  simp only [decide_eq_true_eq, Bool.not_eq_true', decide_eq_false_iff_not, V.int.injEq, V.str.injEq, V.bl.injEq, Decidable.not_not, Bool.not_eq_true, V.int_ne, Int.not_lt, Int.not_le, Bool.true_eq_false, Bool.false_eq_true, not_true_eq_false, not_false_eq_true] at hc))
set_option hygiene false in
local macro_rules | `(tactic| walk_at "new") => `(tactic| (refine ⟨by first | decide | (simp only [List.length_cons, List.length_nil, List.length_append, List.length_map]; first | decide | (rw [sizeLine_eq]; omega)), fun p np => ?_⟩))
set_option hygiene false in
local macro_rules | `(tactic| walk_at "yes") => `(tactic| refine itY (by first | rfl | exact decide_eq_true (by first | rfl | omega | assumption) | (simp only [decide_eq_true_eq, Bool.not_eq_true', decide_eq_false_iff_not, V.int.injEq, V.str.injEq, V.bl.injEq]; first | omega | assumption)) ?_)
set_option hygiene false in
local macro_rules | `(tactic| walk_at "no") => `(tactic| refine itN (by first | decide | (simp only [decide_eq_true_eq, Bool.not_eq_true', decide_eq_false_iff_not, V.int.injEq, V.str.injEq, V.bl.injEq, Bool.not_eq_true, Decidable.not_not]; first | omega | assumption)) ?_)
/-- the numbers below n in some order -/
def sp_order : Sp := fun vs H Q _ => ∃ (z : Zz) (n : Nat), vs = [.ref z.s, .int n] ∧ St z H ∧ n ≤ 10000 ∧
  ∀ p H' (ns : List Int), Wd z H H' → hide z H' p = some (.lst (ns.map V.int)) → ns.length = n → (∀ k ∈ ns, 0 ≤ k ∧ k < n) → Q (.ref p) H'
def N__law_order : List Str := ["_law_store_here", "_law_size", "_law_left", "_law_row", "_law_k"]
theorem sc__law_order : FnScope N__law_order ["_law_store_here", "_law_size"] (defScope (top 56)) := ⟨rfl, rfl, rfl, by decide +kernel, rfl, by decide +kernel, by decide +kernel⟩
theorem ok__law_order (En : Env K mg fas fns prs) : Ok P w K mg base "_law_order" 3 ["_law_store_here", "_law_size"] sp_order := by
  refine ok_mk 37 56 En sc__law_order (fun _ _ _ _ _ _ us hl => match us, hl with | [_, _], _ => rfl) (fun vs H Q E h => ?_) (fun f cdv A outer s H vs Q E hr h => ?_)
  · obtain ⟨z, n, rfl, _⟩ := h
    rfl
  · obtain ⟨z, n, rfl, hz, hn, k⟩ := h
    refine ⟨_, (pss_cons
        (ps_if (pt_cmpR op_eq (pe_fn (ok__law_take En) (hr.mono (by decide)) (pa_cons (pv 0) (pa_cons pe_int pa_nil))) pe_int (nomark _)) (pss_one (ps_ret (pe_listRg rfl (by rfl) (fr_list En) (prg_1 (by rfl) (fr_range En) (pv 1))))) pss_nil)
      (pss_cons
        (ps_set (i := 2) sc__law_order.nd rfl (Or.inl rfl) (pe_listRg rfl (by rfl) (fr_list En) (prg_1 (by rfl) (fr_range En) (pv 1))))
      (pss_cons
        (ps_set (i := 3) sc__law_order.nd rfl (Or.inl rfl) (pe_lst pa_nil))
      (pss_cons
        (ps_for PassesOwn.never rfl (pi_range1 rfl (fr_range En) (pa_cons (pv 1) pa_nil)) (pg_name (i := 4) sc__law_order.nd rfl (Or.inl rfl)) (pss_one (ps_expr (pe_bm PySem.F.plainAttrs_list PySem.F.slot_list_append PySem.F.type_list_append mt_append (pv 3) (pa_cons (pe_bm PySem.F.plainAttrs_list PySem.F.slot_list_pop PySem.F.type_list_pop mt_popAt (pv 2) (pa_cons (pe_fn (ok__law_take En) (hr.mono (by decide)) (pa_cons (pv 0) (pa_cons (pe_callB (call_lenK (K := K) rfl) (by rfl) (fr_len En) bt_len (pa_cons (pv 2) pa_nil)) pa_nil))) pa_nil)) pa_nil)))))
      (pss_one
        (ps_ret (pv 3))))))), ?_⟩
    walk_at "w"
    refine ⟨z, _, rfl, hz, by decide, fun d H1 d0 d1 w1 => ?_⟩
    walk_at "w"
    have rg : ∀ i : Int, i ∈ (List.range (((n : Int) - 0)).toNat).map (fun i => (0 : Int) + (i : Nat)) → 0 ≤ i ∧ i < n := fun i hi => by
      obtain ⟨j, hj, rfl⟩ := List.mem_map.mp hi
      have := List.mem_range.mp hj
      omega
    have rge : rgV 0 n = ((List.range (((n : Int) - 0)).toNat).map (fun i => (0 : Int) + (i : Nat))).map V.int := by
      unfold rgV
      rw [List.map_map]
      rfl
    walk_at "if"
    · walk_at "w"
      refine ⟨.of_le (Int.le_refl _) (by omega) (by decide) (by omega), fun p np => ?_⟩
      rw [rge]
      exact k p _ _ (w1.new np) (w1.here np) (by rw [List.length_map, List.length_range]; omega) rg
    · walk_at "w"
      refine ⟨.of_le (Int.le_refl _) (by omega) (by decide) (by omega), fun l nl => ?_⟩
      have w2 : Wd z H (upd H1 l (.lst (rgV 0 n))) := w1.new nl
      obtain ⟨l1, l2, l3⟩ := w1.st.ne nl
      walk_at "w"
      refine ⟨by decide, fun r nr => ?_⟩
      have w3 := w2.new (o := .lst []) nr
      obtain ⟨r1, r2, r3⟩ := w2.st.ne nr
      have hlr : l ≠ r := ne_of_none upd_same nr
      have nl0 : H l = none := w1.nul hz nl
      have nr0 : H r = none := w2.nul hz nr
      walk_at "w"
      refine ⟨by omega, by omega, for_range (lo := 0) (n := ((n : Int)).toNat) (fun i σ H' => ∃ (ls rs : List Int) (x : Option V), σ = [some (.ref z.s), some (.int n), some (.ref l), some (.ref r), x] ∧ Wd z H H' ∧ H' l = some (.lst (ls.map V.int)) ∧ H' r = some (.lst (rs.map V.int)) ∧
        ls.length + i = n ∧ rs.length = i ∧ (∀ k ∈ ls, 0 ≤ k ∧ k < (n : Int)) ∧ ∀ k ∈ rs, 0 ≤ k ∧ k < (n : Int)) ?_ ?_ ?_⟩
      · exact ⟨_, [], _, rfl, w3, by rw [upd_ne hlr, upd_same, rge], upd_same, by rw [List.length_map, List.length_range]; omega, rfl, rg, fun k h => nomatch h⟩
      · rintro i σ H2 hi ⟨ls, rs, x, rfl, w4, hl, hr', e1, e2, b1, b2⟩
        walk_at "w"
        refine ⟨Or.inl ⟨rfl, _, SqL.of hr'⟩, ?_⟩
        walk_at "w"
        refine ⟨Or.inl ⟨rfl, _, SqL.of hl⟩, ?_⟩
        walk_at "w"
        refine ⟨z, _, rfl, w4.st, by rw [List.length_map]; omega, fun t H3 t0 t1 w5 => ?_⟩
        rw [List.length_map] at t1
        have hl3 := w5.kp _ _ l1 l2 hl
        have hr3 := w5.kp _ _ r1 r2 hr'
        obtain ⟨v, q1, q2⟩ := at_nn (xs := ls) t0 (by omega)
        walk_at "w"
        refine ⟨l, _, t, t.toNat, .int v, rfl, rfl, hl3, by omega, by omega, seqIndex_of t0 (by rw [List.length_map]; omega), by rw [List.getElem?_map, q1]; rfl, ?_⟩
        walk_at "w"
        have hr4 : upd H3 l (.lst ((ls.map V.int).eraseIdx t.toNat)) r = some (.lst (rs.map V.int)) := by rw [upd_ne hlr.symm]; exact hr3
        refine ⟨r, _, _, rfl, rfl, hr4, by rw [List.length_map]; exact small5 (by omega), ?_⟩
        have em : ∀ k ∈ ls.eraseIdx t.toNat, k ∈ ls := fun k hk => (List.eraseIdx_sublist ls t.toNat).mem hk
        have le1 : (ls.eraseIdx t.toNat).length = ls.length - 1 := List.length_eraseIdx_of_lt (by omega)
        refine ⟨ls.eraseIdx t.toNat, rs ++ [v], _, rfl, (((w4.trans w5).put nl0 l1 l2).put nr0 r1 r2), by rw [upd_ne hlr, upd_same, map_erase], by rw [upd_same, List.map_append]; rfl, by omega, by rw [List.length_append]; show rs.length + 1 = i + 1; omega, fun k hk => b1 k (em k hk), fun k hk => ?_⟩
        rcases List.mem_append.mp hk with hk | hk
        · exact b2 k hk
        · rw [List.mem_singleton.mp hk]
          exact b1 v (at_mem q1)
      · rintro σ H2 ⟨ls, rs, x, rfl, w4, hl, hr', e1, e2, b1, b2⟩
        walk_at "w"
        exact k r _ rs w4 (hide_of ⟨r1, r2, (w2.st.ne nr).2.2⟩ hr') (by omega) b2
theorem DAs.mem {H : Hp} {vs : List V} {ds : List PyData} (h : DAs H vs ds) {v : V} (hv : v ∈ vs) : ∃ d ∈ ds, DA H v d := by
  obtain ⟨i, hi, e⟩ := List.mem_iff_getElem.mp hv
  obtain ⟨d, h1, h2⟩ := h.get (i := i) (by rw [List.getElem?_eq_getElem hi, e])
  exact ⟨d, List.mem_of_getElem? h1, h2⟩
/-- a list's items in some order: items of the list -/
def sp_turned : Sp := fun vs H Q _ => ∃ (z : Zz) (v : V) (ds : List PyData), vs = [.ref z.s, v] ∧ St z H ∧ DA (hide z H) v (.list ds) ∧ ds.length ≤ 10000 ∧
  ∀ v' H' (es : List PyData), Wd z H H' → DA (hide z H') v' (.list es) → es.length = ds.length → (∀ e ∈ es, e ∈ ds) → Q v' H'
def N__law_turned : List Str := ["_law_store_here", "_law_row", "_law_k"]
theorem sc__law_turned : FnScope N__law_turned ["_law_store_here", "_law_row"] (defScope (top 57)) := ⟨rfl, rfl, rfl, by decide +kernel, rfl, by decide +kernel, by decide +kernel⟩
theorem ok__law_turned (En : Env K mg fas fns prs) : Ok P w K mg base "_law_turned" 4 ["_law_store_here", "_law_row"] sp_turned := by
  refine ok_mk 38 57 En sc__law_turned (fun _ _ _ _ _ _ us hl => match us, hl with | [_, _], _ => rfl) (fun vs H Q E h => ?_) (fun f cdv A outer s H vs Q E hr h => ?_)
  · obtain ⟨z, v, ds, rfl, _⟩ := h
    rfl
  · obtain ⟨z, v, ds, rfl, hz, hd, hn, k⟩ := h
    obtain ⟨a, xs, rfl, ha, hx⟩ := hd.lst_inv
    have hlen := hx.len
    have ha0 := hide_le z H _ _ ha
    refine ⟨_, (pss_one (ps_ret (pe_lc (own := [("_law_k", 2)]) (g := gName 2) (tt := tYes) rfl sc__law_turned.nd (pi_listK (K := K) rfl (pe_fn (ok__law_order En) (hr.mono (by decide)) (pa_cons (pv 0) (pa_cons (pe_callB (call_lenK (K := K) rfl) (by rfl) (fr_len En) bt_len (pa_cons (pv 1) pa_nil)) pa_nil)))) (blkOk_by (own := [("_law_k", 2)]) (N := N__law_turned) (sc := defScope (top 57)) (by decide +kernel)) (fun _ _ _ _ _ => (pg_name (i := 2) sc__law_turned.nd rfl (Or.inl rfl))) (fun _ _ _ _ _ => pts_nil) (fun _ _ _ _ _ => (pe_ix (ix_listK (K := K) rfl) (pv 1) (pv 2) (fun _ _ => rfl)))))), ?_⟩
    walk_at "w"
    refine ⟨z, xs.length, rfl, hz, by omega, fun o H1 ns w1 ho hl hb => ?_⟩
    refine ⟨_, rfl, ⟨_, SqL.of (hide_le z H1 _ _ ho)⟩, fun D nD => lc_lstW (xs := ns.map V.int) w1.st (Wd.refl w1.st) nD ho (by rw [List.length_map]; omega) (fun _ d => d ∈ ds) (fun _ => rfl) ?_ ?_⟩
    · intro i x H3 R hi w2 old hR
      rw [List.getElem?_map] at hi
      obtain ⟨m, h1, rfl⟩ := Option.map_eq_some_iff.mp hi
      have hm := hb m (List.mem_of_getElem? h1)
      obtain ⟨y, q1, q2⟩ := at_nn (xs := xs) hm.1 (by omega)
      obtain ⟨d, e1, e2⟩ := hx.get q1
      walk_at "w"
      have ha3 : H3 a = some (.lst xs) := hide_le z H3 _ _ (w2.drop.up _ _ (w1.up _ _ ha))
      refine ⟨a, xs, m, y, rfl, rfl, SqL.of ha3, q2, ?_⟩
      exact hR y H3 d (Wd.refl w2.st) ((e2.up w1.up).up old) (List.mem_of_getElem? e1)
    · intro H3 ys es g h1 h2
      exact k _ H3 es (w1.trans g.wd) g.fin (by rw [h1, List.length_map]; omega) fun e he => by
        obtain ⟨i, hi, q⟩ := List.mem_iff_getElem.mp he
        exact h2 i e (by rw [List.getElem?_eq_getElem hi, q])
end
end GJ


set_option Elab.async false
set_option linter.all false
set_option maxRecDepth 100000
set_option maxHeartbeats 4000000
namespace GJ
open PySem PySem.Spec PyProof.Rows L2 TL
set_option pp.maxSteps 300
structure Parts where
  rd : Str
  wr : Str
  n : Int
  bs : List Side
  as : List Arc
  es : List Side
def partsD (M : Parts) : PyData := .tuple [.str M.rd, .str M.wr, .int M.n, .list (M.bs.map sideD), .list (M.as.map arcD), .list (M.es.map sideD)]
/-- parts of which a machine can be made -/
structure PVL (L N : Nat) (M : Parts) : Prop where
  ard : Alpha M.rd
  awr : Alpha M.wr
  n0 : 0 ≤ M.n
  n1 : M.n ≤ 8
  bs : ∀ e ∈ M.bs, SOk M.n M.wr L e
  as : ∀ e ∈ M.as, AOk M.n M.rd M.wr L e
  es : ∀ e ∈ M.es, SOk M.n M.wr L e
  cb : M.bs.length ≤ N
  ca : M.as.length ≤ N
  ce : M.es.length ≤ N
abbrev PV (M : Parts) : Prop := PVL 50 100 M
theorem un_map {α : Type} {f : α → PyData} : ∀ {ds : List PyData} {l : List α}, (∀ d ∈ ds, d ∈ l.map f) → ∃ l' : List α, ds = l'.map f ∧ ∀ x ∈ l', x ∈ l
  | [], l, _ => ⟨[], rfl, fun _ h => nomatch h⟩
  | d :: ds, l, h => by
    obtain ⟨x, h1, h2⟩ := List.mem_map.mp (h d List.mem_cons_self)
    obtain ⟨l', e, h3⟩ := un_map (ds := ds) (l := l) fun e he => h e (List.mem_cons_of_mem _ he)
    refine ⟨x :: l', by rw [List.map_cons, h2, e], fun y hy => ?_⟩
    rcases List.mem_cons.mp hy with rfl | hy
    · exact h1
    · exact h3 y hy
theorem of_all {α : Type} {f : α → PyData} {P : α → Prop} : ∀ {ds : List PyData}, (∀ (i : Nat) d, ds[i]? = some d → ∃ x, d = f x ∧ P x) → ∃ l : List α, ds = l.map f ∧ ∀ x ∈ l, P x
  | [], _ => ⟨[], rfl, fun _ h => nomatch h⟩
  | d :: ds, h => by
    obtain ⟨x, h1, h2⟩ := h 0 d rfl
    obtain ⟨l', e, h3⟩ := of_all (ds := ds) (f := f) (P := P) fun i e he => h (i + 1) e (by simpa using he)
    refine ⟨x :: l', by rw [List.map_cons, h1, e], fun y hy => ?_⟩
    rcases List.mem_cons.mp hy with rfl | hy
    · exact h2
    · exact h3 y hy
def Sd (n : Int) (wr : Str) (L : Nat) (d : PyData) : Prop := ∃ e, d = sideD e ∧ SOk n wr L e
def Ad (n : Int) (rd wr : Str) (L : Nat) (d : PyData) : Prop := ∃ e, d = arcD e ∧ AOk n rd wr L e
theorem Ad.mono {n : Int} {rd wr : Str} {L M : Nat} {d : PyData} (h : Ad n rd wr L d) (l : L ≤ M) : Ad n rd wr M d := let ⟨e, h1, h2⟩ := h; ⟨e, h1, h2.mono l⟩
theorem Sd.mono {n : Int} {wr : Str} {L M : Nat} {d : PyData} (h : Sd n wr L d) (l : L ≤ M) : Sd n wr M d := let ⟨e, h1, h2⟩ := h; ⟨e, h1, h2.mono l⟩
theorem of_mem {α : Type} {f : α → PyData} {P : α → Prop} : ∀ {ds : List PyData}, (∀ d ∈ ds, ∃ x, d = f x ∧ P x) → ∃ l : List α, ds = l.map f ∧ ∀ x ∈ l, P x := fun {ds} h => of_all fun i d e => h d (List.mem_of_getElem? e)
theorem mem_snoc {α : Type} {P : α → Prop} {es : List α} {d : α} (h : ∀ e ∈ es, P e) (g : P d) : ∀ e ∈ es ++ [d], P e := fun e he => (List.mem_append.mp he).elim (h e) fun q => by rw [List.mem_singleton.mp q]; exact g
theorem mem_one {α : Type} {P : α → Prop} {d : α} (g : P d) : ∀ e ∈ [d], P e := fun e he => by rw [List.mem_singleton.mp he]; exact g
section
variable {P : Program} {w : World} {K : PySem.W.Frag} {mg : Str → Option Value} {base : Heap}
set_option hygiene false in
local macro_rules | `(tactic| walk_at "w") => `(tactic| repeat (first
  | refine ⟨_, rfl, ?_⟩
  | refine ⟨_, _, rfl, rfl, (by first | decide | omega), fun r r0 r1 re => ?_⟩
  | refine ⟨_, _, rfl, rfl, (by first | exact Or.inl ⟨by omega, by omega⟩ | exact Or.inr ⟨by omega, by omega⟩ : CMul _ _), ?_⟩
  | refine ⟨_, _, rfl, rfl, (by first | exact ⟨by decide, by decide⟩ | exact ⟨by omega, by omega⟩ : CDiv _ _), ?_⟩
  | refine ⟨_, _, rfl, rfl, (by exact ⟨by decide, by decide, by decide⟩ : CPow _ _), ?_⟩
  | refine ⟨_, _, rfl, rfl, ?_⟩
  | refine ⟨(by rfl : scal _ _ = true), ?_⟩
  | refine Or.inl ⟨_, rfl, ?_⟩
  | refine ⟨_, _, rfl, fun m m0 m1 m2 => ?_⟩
  | refine ⟨_, _, _, _, rfl, rfl, SqL.of (by first | assumption | exact upd_same | exact fx _ | exact fy _), rfl, ?_⟩
  | refine ⟨_, _, _, _, rfl, rfl, (by first | assumption | exact upd_same | exact fx _ | exact fy _), rfl, ?_⟩
  | refine ⟨_, _, _, _, rfl, rfl, SqT.of (by first | assumption | exact upd_same | exact fx _ | exact fy _), rfl, ?_⟩
  | refine ⟨(szle (by omega) : Str.length _ ≤ sizeLine), ?_⟩
  | refine ⟨(szle (by first | omega | (rw [sla]; omega) | (rw [sla, sla]; omega)) : Str.length _ + Str.length _ ≤ sizeLine), ?_⟩
  | refine ⟨_, _, rfl, len_lst (by first | assumption | exact upd_same | exact fx _ | exact fy _), ?_⟩))
set_option hygiene false in
local macro_rules | `(tactic| walk_at "if") => `(tactic| (refine ite2 (fun hc => ?_) (fun hc => ?_) <;>
  simp only [decide_eq_true_eq, Bool.not_eq_true', decide_eq_false_iff_not, V.int.injEq, V.str.injEq, V.bl.injEq, Decidable.not_not, Bool.not_eq_true, V.int_ne, Int.not_lt, Int.not_le, Bool.true_eq_false, Bool.false_eq_true, not_true_eq_false, not_false_eq_true] at hc))
set_option hygiene false in
local macro_rules | `(tactic| walk_at "new") => `(tactic| (refine ⟨by first | decide | (simp only [List.length_cons, List.length_nil, List.length_append, List.length_map]; first | decide | (rw [sizeLine_eq]; omega)), fun p np => ?_⟩))
set_option hygiene false in
local macro_rules | `(tactic| walk_at "yes") => `(tactic| refine itY (by first | rfl | exact decide_eq_true (by first | rfl | omega | assumption) | (simp only [decide_eq_true_eq, Bool.not_eq_true', decide_eq_false_iff_not, V.int.injEq, V.str.injEq, V.bl.injEq]; first | omega | assumption)) ?_)
set_option hygiene false in
local macro_rules | `(tactic| walk_at "no") => `(tactic| refine itN (by first | decide | (simp only [decide_eq_true_eq, Bool.not_eq_true', decide_eq_false_iff_not, V.int.injEq, V.str.injEq, V.bl.injEq, Bool.not_eq_true, Decidable.not_not]; first | omega | assumption)) ?_)
def sp_repeated : Sp := fun vs H Q _ => ∃ (z : Zz) (v : V) (ds : List PyData) (n : Nat), vs = [.ref z.s, v, .int n] ∧ St z H ∧ DA (hide z H) v (.list ds) ∧ ds.length ≤ 5000 ∧ n ≤ 1000 ∧
  ∀ v' H' (es : List PyData), Wd z H H' → DA (hide z H') v' (.list es) → es.length ≤ ds.length + n → (∀ e ∈ es, e ∈ ds) → Q v' H'
def N__law_repeated : List Str := ["_law_store_here", "_law_row", "_law_size", "_law_more", "_law_k"]
theorem sc__law_repeated : FnScope N__law_repeated ["_law_store_here", "_law_row", "_law_size"] (defScope (top 58)) := ⟨rfl, rfl, rfl, by decide +kernel, rfl, by decide +kernel, by decide +kernel⟩
theorem ok__law_repeated (En : Env K mg fas fns prs) : Ok P w K mg base "_law_repeated" 5 ["_law_store_here", "_law_row", "_law_size"] sp_repeated := by
  refine ok_mk 39 58 En sc__law_repeated (fun _ _ _ _ _ _ us hl => match us, hl with | [_, _, _], _ => rfl) (fun vs H Q E h => ?_) (fun f cdv A outer s H vs Q E hr h => ?_)
  · obtain ⟨z, v, ds, n, rfl, _⟩ := h
    rfl
  · obtain ⟨z, v, ds, n, rfl, hz, hd, hn, hn2, k⟩ := h
    obtain ⟨a, xs, rfl, ha, hx⟩ := hd.lst_inv
    have hlen := hx.len
    have ha0 := hide_le z H _ _ ha
    refine ⟨_, (pss_cons
        (ps_set (i := 3) sc__law_repeated.nd rfl (Or.inl rfl) (pe_callTy (call_list_ofK (K := K) rfl) (by rfl) (fr_list En) bt_list (pa_cons (pv 1) pa_nil)))
      (pss_cons
        (ps_if (pt_truth (pv 1) (by intro _; rfl)) (pss_one (ps_for PassesOwn.never rfl (pi_range1 rfl (fr_range En) (pa_cons (pe_fn (ok__law_take En) (hr.mono (by decide)) (pa_cons (pv 0) (pa_cons (pe_op op_add (pv 2) pe_int) pa_nil))) pa_nil)) (pg_name (i := 4) sc__law_repeated.nd rfl (Or.inl rfl)) (pss_one (ps_expr (pe_bm PySem.F.plainAttrs_list PySem.F.slot_list_append PySem.F.type_list_append mt_append (pv 3) (pa_cons (pe_fn (ok__law_pick En) (hr.mono (by decide)) (pa_cons (pv 0) (pa_cons (pv 1) pa_nil))) pa_nil)))))) pss_nil)
      (pss_one
        (ps_ret (pe_fn (ok__law_turned En) (hr.mono (by decide)) (pa_cons (pv 0) (pa_cons (pv 3) pa_nil))))))), ?_⟩
    walk_at "w"
    refine ⟨_, _, rfl, Or.inl (SqL.of ha0), fun l nl => ?_⟩
    have g1 : Lg z H l _ xs ds := Lg.copy hz (Wd.refl hz) nl hx
    walk_at "w"
    have ha1 : upd H l (.lst xs) a = some (.lst xs) := hide_le z _ _ _ (g1.wd.up _ _ ha)
    refine ⟨!xs.isEmpty, .inl ⟨xs, SqL.of ha1, rfl⟩, ?_⟩
    have done : ∀ H3 ys es, Lg z H l H3 ys es → es.length ≤ ds.length + n → (∀ e ∈ es, e ∈ ds) → sp_turned [V.ref z.s, V.ref l] H3 (fun v H4 => Q v H4) E0 := fun H3 ys es g h1 h2 =>
      ⟨z, _, es, rfl, g.wd.st, g.fin, by omega, fun v' H4 fs w4 hd4 e1 e2 => k v' H4 fs (g.wd.trans w4) hd4 (by omega) fun e he => h2 e (e2 e he)⟩
    by_cases hne : xs = []
    · subst hne
      refine iteF ?_
      walk_at "w"
      exact done _ _ _ g1 (by omega) (fun e he => he)
    · rw [show (!xs.isEmpty) = true by cases xs with | nil => exact absurd rfl hne | cons a b => rfl]
      refine iteT ?_
      walk_at "w"
      refine ⟨z.add l, _, rfl, g1.st, by omega, fun t H2 t0 t1 w2 => ?_⟩
      walk_at "w"
      refine ⟨by omega, by omega, for_range (lo := 0) (n := t.toNat) (fun i σ H' => ∃ (ys : List V) (es : List PyData) (x : Option V), σ = [some (.ref z.s), some (.ref a), some (.int n), some (.ref l), x] ∧ Lg z H l H' ys es ∧ es.length = ds.length + i ∧ ∀ e ∈ es, e ∈ ds) ?_ ?_ ?_⟩
      · exact ⟨xs, ds, _, rfl, g1.step w2, rfl, fun e he => he⟩
      · rintro i σ H3 hi ⟨ys, es, x, rfl, g, h1, h2⟩
        walk_at "w"
        refine ⟨Or.inl ⟨rfl, _, SqL.of g.at_⟩, ?_⟩
        walk_at "w"
        refine ⟨z.add l, _, rfl, g.st, Or.inl ⟨a, xs, rfl, g.old _ _ ha, hne, by omega, fun v hv H4 w4 => ?_⟩⟩
        have g4 := g.step w4
        obtain ⟨d, e1, e2⟩ := hx.mem hv
        walk_at "w"
        refine ⟨l, ys, v, rfl, rfl, g4.at_, by rw [g.len]; exact small5 (by omega), ?_⟩
        refine ⟨ys ++ [v], es ++ [d], _, rfl, g4.app (e2.up g4.old), by rw [List.length_append, h1]; rfl, fun e he => ?_⟩
        rcases List.mem_append.mp he with he | he
        · exact h2 e he
        · rw [List.mem_singleton.mp he]
          exact e1
      · rintro σ H3 ⟨ys, es, x, rfl, g, h1, h2⟩
        walk_at "w"
        exact done _ _ _ g (by omega) h2
end
end GJ


set_option Elab.async false
set_option linter.all false
set_option maxRecDepth 100000
set_option maxHeartbeats 4000000
namespace GJ
open PySem PySem.Spec PyProof.Rows L2 TL
set_option pp.maxSteps 300
theorem DA.parts {H : Hp} {p : Addr} {b a e : V} {M : Parts} (h : H p = some (.tup [.str M.rd, .str M.wr, .int M.n, b, a, e])) (hb : DA H b (.list (M.bs.map sideD))) (ha : DA H a (.list (M.as.map arcD))) (he : DA H e (.list (M.es.map sideD))) : DA H (.ref p) (partsD M) :=
  .tup h (.cons (.str _) (.cons (.str _) (.cons (.int _) (.cons hb (.cons ha (.cons he .nil))))))
def Mid3 (z : Zz) (H : Hp) (rd wr : Str) (n : Int) (L : Nat) (dr : Int) : L2.St → Hp → Prop := fun σ H' => ∃ (vh vl vs : V) (lh : List Side) (ll : List Arc) (ls : List Side) (x y : Option V),
  σ = [some (.ref z.s), some (.str rd), some (.str wr), some (.int 4), some (.int n), some (.int L), some vh, x, some vl, y, some vs, some (.int dr), none, none] ∧ Wd z H H' ∧
  DA (hide z H') vh (.list (lh.map sideD)) ∧ DA (hide z H') vl (.list (ll.map arcD)) ∧ DA (hide z H') vs (.list (ls.map sideD)) ∧ lh.length ≤ 20 ∧ ll.length ≤ 20 ∧ ls.length ≤ 20 ∧
  (∀ e ∈ lh, SOk n wr 50 e) ∧ (∀ e ∈ ll, AOk n rd wr 50 e) ∧ (∀ e ∈ ls, SOk n wr 50 e)
section
variable {P : Program} {w : World} {K : PySem.W.Frag} {mg : Str → Option Value} {base : Heap}
set_option hygiene false in
local macro_rules | `(tactic| walk_at "w") => `(tactic| repeat (first
  | refine ⟨_, rfl, ?_⟩
  | refine ⟨_, _, rfl, rfl, (by first | decide | omega), fun r r0 r1 re => ?_⟩
  | refine ⟨_, _, rfl, rfl, (by first | exact Or.inl ⟨by omega, by omega⟩ | exact Or.inr ⟨by omega, by omega⟩ : CMul _ _), ?_⟩
  | refine ⟨_, _, rfl, rfl, (by first | exact ⟨by decide, by decide⟩ | exact ⟨by omega, by omega⟩ : CDiv _ _), ?_⟩
  | refine ⟨_, _, rfl, rfl, (by exact ⟨by decide, by decide, by decide⟩ : CPow _ _), ?_⟩
  | refine ⟨_, _, rfl, rfl, ?_⟩
  | refine ⟨(by rfl : scal _ _ = true), ?_⟩
  | refine Or.inl ⟨_, rfl, ?_⟩
  | refine ⟨_, _, rfl, fun m m0 m1 m2 => ?_⟩
  | refine ⟨_, _, _, _, rfl, rfl, SqL.of (by first | assumption | exact upd_same | exact fx _ | exact fy _), rfl, ?_⟩
  | refine ⟨_, _, _, _, rfl, rfl, (by first | assumption | exact upd_same | exact fx _ | exact fy _), rfl, ?_⟩
  | refine ⟨_, _, _, _, rfl, rfl, SqT.of (by first | assumption | exact upd_same | exact fx _ | exact fy _), rfl, ?_⟩
  | refine ⟨(szle (by omega) : Str.length _ ≤ sizeLine), ?_⟩
  | refine ⟨(szle (by first | omega | (rw [sla]; omega) | (rw [sla, sla]; omega)) : Str.length _ + Str.length _ ≤ sizeLine), ?_⟩
  | refine ⟨_, _, rfl, len_lst (by first | assumption | exact upd_same | exact fx _ | exact fy _), ?_⟩))
set_option hygiene false in
local macro_rules | `(tactic| walk_at "if") => `(tactic| (refine ite2 (fun hc => ?_) (fun hc => ?_) <;>
  simp only [decide_eq_true_eq, Bool.not_eq_true', decide_eq_false_iff_not, V.int.injEq, V.str.injEq, V.bl.injEq, Decidable.not_not, Bool.not_eq_true, V.int_ne, Int.not_lt, Int.not_le, Bool.true_eq_false, Bool.false_eq_true, not_true_eq_false, not_false_eq_true] at hc))
set_option hygiene false in
local macro_rules | `(tactic| walk_at "new") => `(tactic| (refine ⟨by first | decide | (simp only [List.length_cons, List.length_nil, List.length_append, List.length_map]; first | decide | (rw [sizeLine_eq]; omega)), fun p np => ?_⟩))
set_option hygiene false in
local macro_rules | `(tactic| walk_at "yes") => `(tactic| refine itY (by first | rfl | exact decide_eq_true (by first | rfl | omega | assumption) | (simp only [decide_eq_true_eq, Bool.not_eq_true', decide_eq_false_iff_not, V.int.injEq, V.str.injEq, V.bl.injEq]; first | omega | assumption)) ?_)
set_option hygiene false in
local macro_rules | `(tactic| walk_at "no") => `(tactic| refine itN (by first | decide | (simp only [decide_eq_true_eq, Bool.not_eq_true', decide_eq_false_iff_not, V.int.injEq, V.str.injEq, V.bl.injEq, Bool.not_eq_true, Decidable.not_not]; first | omega | assumption)) ?_)
def sp_build : Sp := fun vs H Q _ => ∃ (z : Zz) (rd wr : Str), vs = [.ref z.s, .str rd, .str wr] ∧ St z H ∧ Alpha rd ∧ Alpha wr ∧
  ∀ v' H' M, Wd z H H' → DA (hide z H') v' (partsD M) → PVL 40 80 M → M.bs ≠ [] → Q v' H'
def sp_machine : Sp := fun vs H Q _ => ∃ (z : Zz) (rd wr : Str), vs = [.ref z.s, .str rd, .str wr, .int 4] ∧ St z H ∧ Alpha rd ∧ Alpha wr ∧
  ∀ v' H' M, Wd z H H' → DA (hide z H') v' (partsD M) → PV M → Q v' H'
def N__law_machine : List Str := ["_law_store_here", "_law_read", "_law_write", "_law_limit", "_law_size", "_law_longest", "_law_heads", "_law_k", "_law_links", "_law_link", "_law_stops", "_law_draw", "_law_rows", "_law_row"]
theorem sc__law_machine : FnScope N__law_machine ["_law_store_here", "_law_read", "_law_write", "_law_limit"] (defScope (top 59)) := ⟨rfl, rfl, rfl, by decide +kernel, rfl, by decide +kernel, by decide +kernel⟩
theorem ok__law_machine (En : Env K mg fas fns prs) : Ok P w K mg base "_law_machine" 6 ["_law_store_here", "_law_read", "_law_write", "_law_limit"] sp_machine := by
  refine ok_mk 40 59 En sc__law_machine (fun _ _ _ _ _ _ us hl => match us, hl with | [_, _, _, _], _ => rfl) (fun vs H Q E h => ?_) (fun f cdv A outer s H vs Q E hr h => ?_)
  · obtain ⟨z, rd, wr, rfl, _⟩ := h
    rfl
  · obtain ⟨z, rd, wr, rfl, hz, hR, hW, k⟩ := h
    have hr1 := hR.le
    have hw1 := hW.le
    refine ⟨_, (pss_cons
        (ps_if (pt_cmpR op_eq (pe_fn (ok__law_take En) (hr.mono (by decide)) (pa_cons (pv 0) (pa_cons pe_int pa_nil))) pe_int (nomark _)) (pss_one (ps_ret (pe_tup (pa_cons (pv 1) (pa_cons (pv 2) (pa_cons pe_int (pa_cons (pe_lst pa_nil) (pa_cons (pe_lst pa_nil) (pa_cons (pe_lst pa_nil) pa_nil))))))))) pss_nil)
      (pss_cons
        (ps_set (i := 4) sc__law_machine.nd rfl (Or.inr rfl) (pe_fn (ok__law_between En) (hr.mono (by decide)) (pa_cons (pv 0) (pa_cons pe_int (pa_cons (pv 3) pa_nil)))))
      (pss_cons
        (ps_set (i := 5) sc__law_machine.nd rfl (Or.inr rfl) (pe_fn (ok__law_pick En) (hr.mono (by decide)) (pa_cons (pv 0) (pa_cons (pe_lst (pa_cons pe_int (pa_cons pe_int (pa_cons pe_int (pa_cons pe_int (pa_cons pe_int (pa_cons pe_int pa_nil))))))) pa_nil))))
      (pss_cons
        (ps_set (i := 6) sc__law_machine.nd rfl (Or.inl rfl) (pe_lst (pa_cons (pe_tup (pa_cons pe_int (pa_cons (pe_fn (ok__law_word En) (hr.mono (by decide)) (pa_cons (pv 0) (pa_cons (pv 2) (pa_cons (pv 5) pa_nil)))) pa_nil))) pa_nil)))
      (pss_cons
        (ps_for PassesOwn.never rfl (pi_range1 rfl (fr_range En) (pa_cons (pe_fn (ok__law_pick En) (hr.mono (by decide)) (pa_cons (pv 0) (pa_cons (pe_lst (pa_cons pe_int (pa_cons pe_int (pa_cons pe_int (pa_cons pe_int (pa_cons pe_int (pa_cons pe_int pa_nil))))))) pa_nil))) pa_nil)) (pg_name (i := 7) sc__law_machine.nd rfl (Or.inl rfl)) (pss_one (ps_expr (pe_bm PySem.F.plainAttrs_list PySem.F.slot_list_append PySem.F.type_list_append mt_append (pv 6) (pa_cons (pe_tup (pa_cons (pe_fn (ok__law_take En) (hr.mono (by decide)) (pa_cons (pv 0) (pa_cons (pv 4) pa_nil))) (pa_cons (pe_fn (ok__law_word En) (hr.mono (by decide)) (pa_cons (pv 0) (pa_cons (pv 2) (pa_cons (pv 5) pa_nil)))) pa_nil))) pa_nil)))))
      (pss_cons
        (ps_setLc (i := 8) (own := [("_law_k", 7)]) (g := gName 7) (tt := tYes) rfl sc__law_machine.nd rfl rfl (sw_true rfl rfl rfl (by decide +kernel)) (pi_range1 rfl (fr_range En) (pa_cons (pe_fn (ok__law_between En) (hr.mono (by decide)) (pa_cons (pv 0) (pa_cons pe_int (pa_cons (pe_op op_add (pv 4) pe_int) pa_nil)))) pa_nil)) (blkOk_by (own := [("_law_k", 7)]) (N := N__law_machine) (sc := defScope (top 59)) (by decide +kernel)) (fun _ _ _ _ _ => (pg_name (i := 7) sc__law_machine.nd rfl (Or.inl rfl))) (fun _ _ _ _ _ => pts_nil) (fun _ _ _ _ _ => (pe_fn (ok__law_arc En) (hr.mono (by decide)) (pa_cons (pv 0) (pa_cons (pv 1) (pa_cons (pv 2) (pa_cons (pv 4) (pa_cons (pv 5) pa_nil))))))))
      (C8.pss_cut
        (ps_if (pt_cmpR op_eq (pe_fn (ok__law_take En) (hr.mono (by decide)) (pa_cons (pv 0) (pa_cons pe_int pa_nil))) pe_int (nomark _)) (pss_one (ps_for PassesOwn.never rfl (pi_range1 rfl (fr_range En) (pa_cons (pe_op op_sub (pv 4) pe_int) pa_nil)) (pg_name (i := 7) sc__law_machine.nd rfl (Or.inl rfl)) (pss_one (ps_expr (pe_bm PySem.F.plainAttrs_list PySem.F.slot_list_append PySem.F.type_list_append mt_append (pv 8) (pa_cons (pe_tup (pa_cons (pv 7) (pa_cons (pe_fn (ok__law_pick En) (hr.mono (by decide)) (pa_cons (pv 0) (pa_cons (pv 1) pa_nil))) (pa_cons (pe_fn (ok__law_word En) (hr.mono (by decide)) (pa_cons (pv 0) (pa_cons (pv 2) (pa_cons (pv 5) pa_nil)))) (pa_cons (pe_op op_add (pv 7) pe_int) pa_nil))))) pa_nil)))))) pss_nil)
      (C8.pss_cut
        (ps_if (PW.pt (pw_and (pt_truth (pv 8) (by intro _; rfl)) (pw_and1 (pt_cmpR op_eq (pe_fn (ok__law_take En) (hr.mono (by decide)) (pa_cons (pv 0) (pa_cons pe_int pa_nil))) pe_int (nomark _))))) (pss_cons
        (ps_set (i := 9) sc__law_machine.nd rfl (Or.inl rfl) (pe_fn (ok__law_pick En) (hr.mono (by decide)) (pa_cons (pv 0) (pa_cons (pv 8) pa_nil))))
      (pss_one
        (ps_expr (pe_bm PySem.F.plainAttrs_list PySem.F.slot_list_append PySem.F.type_list_append mt_append (pv 8) (pa_cons (pe_tup (pa_cons (pe_ix (ix_tupK (K := K) rfl) (pv 9) pe_int (fun _ _ => rfl)) (pa_cons (pe_ix (ix_tupK (K := K) rfl) (pv 9) pe_int (fun _ _ => rfl)) (pa_cons (pe_fn (ok__law_unlike_word En) (hr.mono (by decide)) (pa_cons (pv 0) (pa_cons (pv 2) (pa_cons (pe_ix (ix_tupK (K := K) rfl) (pv 9) pe_int (fun _ _ => rfl)) pa_nil)))) (pa_cons (pe_ix (ix_tupK (K := K) rfl) (pv 9) pe_int (fun _ _ => rfl)) pa_nil))))) pa_nil))))) pss_nil)
      (pss_cons
        (ps_set (i := 10) sc__law_machine.nd rfl (Or.inl rfl) (pe_lst (pa_cons (pe_tup (pa_cons (pe_op op_sub (pv 4) pe_int) (pa_cons (pe_fn (ok__law_word En) (hr.mono (by decide)) (pa_cons (pv 0) (pa_cons (pv 2) (pa_cons (pv 5) pa_nil)))) pa_nil))) pa_nil)))
      (pss_cons
        (ps_for PassesOwn.never rfl (pi_range1 rfl (fr_range En) (pa_cons (pe_fn (ok__law_pick En) (hr.mono (by decide)) (pa_cons (pv 0) (pa_cons (pe_lst (pa_cons pe_int (pa_cons pe_int (pa_cons pe_int (pa_cons pe_int (pa_cons pe_int (pa_cons pe_int pa_nil))))))) pa_nil))) pa_nil)) (pg_name (i := 7) sc__law_machine.nd rfl (Or.inl rfl)) (pss_one (ps_expr (pe_bm PySem.F.plainAttrs_list PySem.F.slot_list_append PySem.F.type_list_append mt_append (pv 10) (pa_cons (pe_tup (pa_cons (pe_fn (ok__law_take En) (hr.mono (by decide)) (pa_cons (pv 0) (pa_cons (pv 4) pa_nil))) (pa_cons (pe_fn (ok__law_word En) (hr.mono (by decide)) (pa_cons (pv 0) (pa_cons (pv 2) (pa_cons (pv 5) pa_nil)))) pa_nil))) pa_nil)))))
      (pss_cons
        (ps_set (i := 11) sc__law_machine.nd rfl (Or.inl rfl) (pe_fn (ok__law_take En) (hr.mono (by decide)) (pa_cons (pv 0) (pa_cons pe_int pa_nil))))
      (C8.pss_cut
        (ps_if (pt_cmpR op_eq (pv 11) pe_int (nomark _)) (pss_one (ps_set (i := 6) sc__law_machine.nd rfl (Or.inl rfl) (pe_lst pa_nil))) pss_nil)
      (C8.pss_cut
        (ps_if (pt_cmpR op_eq (pv 11) pe_int (nomark _)) (pss_one (ps_set (i := 8) sc__law_machine.nd rfl (Or.inl rfl) (pe_lst pa_nil))) pss_nil)
      (C8.pss_cut
        (ps_if (pt_cmpR op_eq (pv 11) pe_int (nomark _)) (pss_one (ps_set (i := 10) sc__law_machine.nd rfl (Or.inl rfl) (pe_lst pa_nil))) pss_nil)
      (pss_cons
        (ps_setLc (i := 12) (own := [("_law_row", 13)]) (g := gName 13) (tt := tYes) rfl sc__law_machine.nd rfl rfl (sw_true rfl rfl rfl (by decide +kernel)) (pi_listK (K := K) rfl (pe_lst (pa_cons (pv 6) (pa_cons (pv 8) (pa_cons (pv 10) pa_nil))))) (blkOk_by (own := [("_law_row", 13)]) (N := N__law_machine) (sc := defScope (top 59)) (by decide +kernel)) (fun _ _ _ _ _ => (pg_name (i := 13) sc__law_machine.nd rfl (Or.inl rfl))) (fun _ _ _ _ _ => pts_nil) (fun _ _ _ _ _ => (pe_fn (ok__law_repeated En) (hr.mono (by decide)) (pa_cons (pv 0) (pa_cons (pv 13) (pa_cons pe_int pa_nil))))))
      (pss_one
        (ps_ret (pe_tup (pa_cons (pv 1) (pa_cons (pv 2) (pa_cons (pv 4) (pa_cons (pe_ix (ix_listK (K := K) rfl) (pv 12) pe_int (fun _ _ => rfl)) (pa_cons (pe_ix (ix_listK (K := K) rfl) (pv 12) pe_int (fun _ _ => rfl)) (pa_cons (pe_ix (ix_listK (K := K) rfl) (pv 12) pe_int (fun _ _ => rfl)) pa_nil)))))))))))))))))))))))), ?_⟩
    walk_at "w"
    refine ⟨z, _, rfl, hz, by decide, fun d H1 d0 d1 w1 => ?_⟩
    walk_at "w"
    walk_at "if"
    · walk_at "w"
      refine ⟨szr rfl, fun p1 n1 => ?_⟩
      walk_at "w"
      refine ⟨szr rfl, fun p2 n2 => ?_⟩
      walk_at "w"
      refine ⟨szr rfl, fun p3 n3 => ?_⟩
      walk_at "w"
      refine ⟨szr rfl, fun p np => ?_⟩
      have w2 := w1.new (o := .lst []) n1
      have w3 := w2.new (o := .lst []) n2
      have w4 := w3.new (o := .lst []) n3
      have w5 := w4.new (o := .tup [.str rd, .str wr, .int 0, .ref p1, .ref p2, .ref p3]) np
      have e1 := (((Wd.refl w2.st).new (o := .lst []) n2).trans ((Wd.refl w3.st).new (o := .lst []) n3)).trans ((Wd.refl w4.st).new (o := .tup [.str rd, .str wr, .int 0, .ref p1, .ref p2, .ref p3]) np)
      have e2 := ((Wd.refl w3.st).new (o := .lst []) n3).trans ((Wd.refl w4.st).new (o := .tup [.str rd, .str wr, .int 0, .ref p1, .ref p2, .ref p3]) np)
      have e3 := (Wd.refl w4.st).new (o := .tup [.str rd, .str wr, .int 0, .ref p1, .ref p2, .ref p3]) np
      exact k _ _ ⟨rd, wr, 0, [], [], []⟩ w5 (DA.parts (M := ⟨rd, wr, 0, [], [], []⟩) (w4.here np) (.lst (e1.up _ _ (w1.here n1)) .nil) (.lst (e2.up _ _ (w2.here n2)) .nil) (.lst (e3.up _ _ (w3.here n3)) .nil))
        ⟨hR, hW, Int.le_refl _, (by decide : (0 : Int) ≤ 8), fun e h => (nomatch h), fun e h => (nomatch h), fun e h => (nomatch h), Nat.zero_le _, Nat.zero_le _, Nat.zero_le _⟩
    walk_at "w"
    refine ⟨z, 1, 4, rfl, w1.st, by decide, fun n H2 n0 n1 w2 => ?_⟩
    replace w2 := w1.trans w2
    walk_at "w"
    refine ⟨szr rfl, fun p1 np1 => ?_⟩
    have w3 := w2.new (o := .lst [.int 0, .int 1, .int 1, .int 2, .int 2, .int 3]) np1
    refine ⟨z, _, rfl, w3.st, Or.inl ⟨p1, _, rfl, w2.here np1, by decide, by decide, fun v hv H4 w4 => ?_⟩⟩
    replace w4 := w3.trans w4
    obtain ⟨L, hL, rfl⟩ : ∃ L : Nat, L ≤ 3 ∧ v = .int (L : Int) := by
      simp only [List.mem_cons, List.not_mem_nil, or_false] at hv
      rcases hv with rfl | rfl | rfl | rfl | rfl | rfl
      · exact ⟨0, by decide, rfl⟩
      · exact ⟨1, by decide, rfl⟩
      · exact ⟨1, by decide, rfl⟩
      · exact ⟨2, by decide, rfl⟩
      · exact ⟨2, by decide, rfl⟩
      · exact ⟨3, by decide, rfl⟩
    walk_at "w"
    refine ⟨z, wr, L, rfl, w4.st, hW.ne, by omega, by omega, fun x H5 hx w5 => ?_⟩
    replace w5 := w4.trans w5
    walk_at "w"
    refine ⟨szr rfl, fun p2 np2 => ?_⟩
    have w6 := w5.new (o := .tup [.int 0, .str x]) np2
    walk_at "w"
    refine ⟨szr rfl, fun hd nhd => ?_⟩
    have g1 : Lg z H hd _ [.ref p2] [sideD (0, x)] := Lg.copy hz w6 nhd (.one (DA.side (e := (0, x)) (w5.here np2)))
    walk_at "w"
    refine ⟨szr rfl, fun p3 np3 => ?_⟩
    have g2 := g1.step ((Wd.refl g1.st).new (o := .lst [.int 0, .int 0, .int 0, .int 1, .int 1, .int 2]) np3)
    refine ⟨z.add hd, _, rfl, g2.st, Or.inl ⟨p3, _, rfl, (Wd.refl g1.st).here np3, by decide, by decide, fun v hv H6 w7 => ?_⟩⟩
    have g3 := g2.step w7
    obtain ⟨m, hm, rfl⟩ : ∃ L : Nat, L ≤ 3 ∧ v = .int (L : Int) := by
      simp only [List.mem_cons, List.not_mem_nil, or_false] at hv
      rcases hv with rfl | rfl | rfl | rfl | rfl | rfl
      · exact ⟨0, by decide, rfl⟩
      · exact ⟨0, by decide, rfl⟩
      · exact ⟨0, by decide, rfl⟩
      · exact ⟨1, by decide, rfl⟩
      · exact ⟨1, by decide, rfl⟩
      · exact ⟨2, by decide, rfl⟩
    walk_at "w"
    refine ⟨by omega, by omega, for_range (lo := 0) (n := (m : Int).toNat) (fun i σ H' => ∃ (ys : List V) (es : List PyData) (x : Option V), σ = [some (.ref z.s), some (.str rd), some (.str wr), some (.int 4), some (.int n), some (.int L), some (.ref hd), x, none, none, none, none, none, none] ∧ Lg z H hd H' ys es ∧ es.length ≤ 1 + i ∧ ∀ d ∈ es, Sd n wr 10 d) ?_ ?_ ?_⟩
    · exact ⟨_, _, _, rfl, g3, Nat.le_refl _, mem_one ⟨(0, x), rfl, Int.le_refl _, by show 0 < n; omega, hx.mono (by omega)⟩⟩
    · rintro i σ H7 hi ⟨ys, es, x, rfl, g, h1, h2⟩
      walk_at "w"
      refine ⟨Or.inl ⟨rfl, _, SqL.of g.at_⟩, ?_⟩
      walk_at "w"
      refine ⟨z.add hd, _, rfl, g.st, by omega, fun q H8 q0 q1 w8 => ?_⟩
      walk_at "w"
      refine ⟨z.add hd, wr, L, rfl, w8.st, hW.ne, by omega, by omega, fun x H9 hx w9 => ?_⟩
      walk_at "w"
      refine ⟨szr rfl, fun p np => ?_⟩
      have w10 := (w8.trans w9).new (o := .tup [.int q, .str x]) np
      have g4 := g.step w10
      walk_at "w"
      refine ⟨hd, ys, .ref p, rfl, rfl, g4.at_, by rw [g.len]; exact small5 (by omega), ?_⟩
      exact ⟨_, _, _, rfl, g4.app (DA.side (e := (q, x)) ((w8.trans w9).here np)), by rw [List.length_append]; show es.length + 1 ≤ 1 + (i + 1); omega, mem_snoc h2 ⟨(q, x), rfl, q0, by show q < n; omega, hx.mono (by omega)⟩⟩
    rintro σ H7 ⟨ysh, esh, y, rfl, gh, hh1, hh2⟩
    obtain ⟨lh, rfl, hlh⟩ := of_mem hh2
    rw [List.length_map] at hh1
    have wh := gh.wd
    have dh := gh.fin
    walk_at "w"
    refine ⟨z, 0, _, rfl, wh.st, by omega, fun m2 H8 m0 m1 w8 => ?_⟩
    walk_at "w"
    refine ⟨by omega, by omega, fun D nD => lc_rngW wh.st w8 nD (by omega) (fun _ d => Ad n rd wr 10 d) (fun _ => rfl) ?_ ?_⟩
    · intro i H9 R hi w9 hR2
      walk_at "w"
      refine ⟨z.add D, rd, wr, n, L, rfl, w9.st, hR.ne, by omega, hW.ne, by omega, n0, by omega, by omega, fun p H10 e he w10 hp => ?_⟩
      exact hR2 _ H10 _ w10 hp ⟨e, rfl, he.mono (by omega)⟩
    intro H9 ysl esl gl hll hPl
    replace hPl : ∀ d ∈ esl, Ad n rd wr 10 d := fun d hd => by
      obtain ⟨i, hi, q⟩ := List.mem_iff_getElem.mp hd
      exact hPl i d (by rw [List.getElem?_eq_getElem hi, q])
    -- if take(2) == 0
    refine ⟨fun σ H' => ∃ (ys : List V) (es : List PyData) (x : Option V), σ = [some (.ref z.s), some (.str rd), some (.str wr), some (.int 4), some (.int n), some (.int L), some (.ref hd), x, some (.ref D), none, none, none, none, none] ∧ Lg z H7 D H' ys es ∧ es.length ≤ 12 ∧ ∀ d ∈ es, Ad n rd wr 10 d, ?_, ?_⟩
    · walk_at "w"
      refine ⟨z.add D, _, rfl, gl.st, by decide, fun d H10 d0 d1 w10 => ?_⟩
      have gl2 := gl.step w10
      walk_at "w"
      walk_at "if"
      · walk_at "w"
        refine ⟨by omega, by omega, for_range (lo := 0) (n := (n - 1).toNat) (fun i σ H' => ∃ (ys : List V) (es : List PyData) (x : Option V), σ = [some (.ref z.s), some (.str rd), some (.str wr), some (.int 4), some (.int n), some (.int L), some (.ref hd), x, some (.ref D), none, none, none, none, none] ∧ Lg z H7 D H' ys es ∧ es.length ≤ 8 + i ∧ ∀ d ∈ es, Ad n rd wr 10 d) ?_ ?_ ?_⟩
        · exact ⟨_, _, _, rfl, gl2, by omega, hPl⟩
        · rintro i σ H11 hi ⟨ys, es, x, rfl, g, h1, h2⟩
          walk_at "w"
          refine ⟨Or.inl ⟨rfl, _, SqL.of g.at_⟩, ?_⟩
          walk_at "w"
          refine ⟨z.add D, _, rfl, g.st, Or.inr ⟨rd, rfl, hR.ne, by omega, fun c hc H12 w12 => ?_⟩⟩
          walk_at "w"
          refine ⟨z.add D, wr, L, rfl, w12.st, hW.ne, by omega, by omega, fun x H13 hx w13 => ?_⟩
          walk_at "w"
          refine ⟨szr rfl, fun p np => ?_⟩
          have w14 := w12.trans w13
          have g4 := g.step (w14.new (o := .tup [.int (0 + (i : Int)), .str ⟨#[c]⟩, .str x, .int (0 + (i : Int) + 1)]) np)
          walk_at "w"
          refine ⟨D, ys, .ref p, rfl, rfl, g4.at_, by rw [g.len]; exact small5 (by omega), ?_⟩
          exact ⟨_, _, _, rfl, g4.app (DA.arc (e := (0 + (i : Int), ⟨#[c]⟩, x, 0 + (i : Int) + 1)) (w14.here np)), by rw [List.length_append]; show es.length + 1 ≤ 8 + (i + 1); omega,
            mem_snoc h2 ⟨(0 + (i : Int), ⟨#[c]⟩, x, 0 + (i : Int) + 1), rfl, ⟨by show (0 : Int) ≤ 0 + i; omega, by show (0 : Int) + i < n; omega⟩, ⟨c, hc, rfl⟩, hx.mono (by omega), by show (0 : Int) ≤ 0 + i + 1; omega, by show (0 : Int) + i + 1 < n; omega⟩⟩
        · rintro σ H11 ⟨ys, es, x, rfl, g, h1, h2⟩
          exact ⟨_, _, _, rfl, g, by omega, h2⟩
      · exact ⟨_, _, _, rfl, gl2, by omega, hPl⟩
    rintro σ H10 ⟨ysm, esm, y2, rfl, gm, hm1, hm2⟩
    -- if links and take(3) == 0
    refine ⟨fun σ H' => ∃ (ys : List V) (es : List PyData) (x y : Option V), σ = [some (.ref z.s), some (.str rd), some (.str wr), some (.int 4), some (.int n), some (.int L), some (.ref hd), x, some (.ref D), y, none, none, none, none] ∧ Lg z H7 D H' ys es ∧ es.length ≤ 13 ∧ ∀ d ∈ es, Ad n rd wr 11 d, ?_, ?_⟩
    · walk_at "w"
      refine ⟨!ysm.isEmpty, .inl ⟨ysm, SqL.of gm.at_, rfl⟩, ?_⟩
      by_cases hne : ysm = []
      · subst hne
        refine iteF ?_
        refine iteF ?_
        exact ⟨_, _, _, _, rfl, gm, by omega, fun d hd => (hm2 d hd).mono (by decide)⟩
      rw [show (!ysm.isEmpty) = true by cases ysm with | nil => exact absurd rfl hne | cons a b => rfl]
      refine iteT ?_
      walk_at "w"
      refine ⟨z.add D, _, rfl, gm.st, by decide, fun d H11 d0 d1 w11 => ?_⟩
      have gm2 := gm.step w11
      walk_at "w"
      walk_at "if"
      · walk_at "w"
        refine ⟨z, _, rfl, gm2.wd.st, Or.inl ⟨D, ysm, rfl, gm2.hd, hne, by rw [gm2.len]; omega, fun v hv H12 w12 => ?_⟩⟩
        have gm3 := gm2.step' w12
        obtain ⟨d, hd1, hd2⟩ := gm3.it.mem hv
        obtain ⟨e, rfl, he⟩ := hm2 d hd1
        obtain ⟨p, rfl, hp⟩ := hd2.arc_inv
        have hp1 := hide_le _ _ _ _ hp
        walk_at "w"
        refine ⟨Or.inl ⟨rfl, _, SqL.of gm3.at_⟩, ?_⟩
        walk_at "w"
        refine ⟨z.add D, wr, e.2.2.1, 10, rfl, gm3.st, hW, he.2.2.1, by decide, fun y H13 hy w13 => ?_⟩
        have gm4 := gm3.step w13
        have hp2 := hide_le _ _ _ _ (w13.up _ _ hp)
        walk_at "w"
        refine ⟨szr rfl, fun q nq => ?_⟩
        have gm5 := gm4.step ((Wd.refl gm4.st).new (o := .tup [.int e.1, .str e.2.1, .str y, .int e.2.2.2]) nq)
        walk_at "w"
        refine ⟨D, ysm, .ref q, rfl, rfl, gm5.at_, by rw [gm5.len]; exact small5 (by omega), ?_⟩
        exact ⟨_, _, _, _, rfl, gm5.app (DA.arc (e := (e.1, e.2.1, y, e.2.2.2)) ((Wd.refl gm4.st).here nq)), by rw [List.length_append]; show esm.length + 1 ≤ 13; omega,
          mem_snoc (fun d hd => (hm2 d hd).mono (by decide)) ⟨(e.1, e.2.1, y, e.2.2.2), rfl, he.1, he.2.1, hy, he.2.2.2⟩⟩
      · exact ⟨_, _, _, _, rfl, gm2, by omega, fun d hd => (hm2 d hd).mono (by decide)⟩
    rintro σ H11 ⟨ysn, esn, y3, y4, rfl, gn, hn1, hn2⟩
    obtain ⟨ll, rfl, hll⟩ := of_mem hn2
    rw [List.length_map] at hn1
    have wl := wh.trans gn.wd
    have dl := gn.fin
    have dh2 := gn.wd.da dh
    walk_at "w"
    refine ⟨z, wr, L, rfl, wl.st, hW.ne, by omega, by omega, fun x H12 hx w12 => ?_⟩
    walk_at "w"
    refine ⟨szr rfl, fun q nq => ?_⟩
    have w13 := w12.new (o := .tup [.int (n - 1), .str x]) nq
    walk_at "w"
    refine ⟨szr rfl, fun C nC => ?_⟩
    have gs : Lg z H11 C _ [.ref q] [sideD (n - 1, x)] := Lg.copy wl.st w13 nC (.one (DA.side (e := (n - 1, x)) (w12.here nq)))
    walk_at "w"
    refine ⟨szr rfl, fun p4 np4 => ?_⟩
    have gs2 := gs.step ((Wd.refl gs.st).new (o := .lst [.int 0, .int 0, .int 1, .int 1, .int 2, .int 3]) np4)
    refine ⟨z.add C, _, rfl, gs2.st, Or.inl ⟨p4, _, rfl, (Wd.refl gs.st).here np4, by decide, by decide, fun v hv H14 w14 => ?_⟩⟩
    have gs3 := gs2.step w14
    obtain ⟨m3, hm3, rfl⟩ : ∃ L : Nat, L ≤ 3 ∧ v = .int (L : Int) := by
      simp only [List.mem_cons, List.not_mem_nil, or_false] at hv
      rcases hv with rfl | rfl | rfl | rfl | rfl | rfl
      · exact ⟨0, by decide, rfl⟩
      · exact ⟨0, by decide, rfl⟩
      · exact ⟨1, by decide, rfl⟩
      · exact ⟨1, by decide, rfl⟩
      · exact ⟨2, by decide, rfl⟩
      · exact ⟨3, by decide, rfl⟩
    walk_at "w"
    refine ⟨by omega, by omega, for_range (lo := 0) (n := (m3 : Int).toNat) (fun i σ H' => ∃ (ys : List V) (es : List PyData) (x y : Option V), σ = [some (.ref z.s), some (.str rd), some (.str wr), some (.int 4), some (.int n), some (.int L), some (.ref hd), x, some (.ref D), y, some (.ref C), none, none, none] ∧ Lg z H11 C H' ys es ∧ es.length ≤ 1 + i ∧ ∀ d ∈ es, Sd n wr 10 d) ?_ ?_ ?_⟩
    · exact ⟨_, _, _, _, rfl, gs3, Nat.le_refl _, mem_one ⟨(n - 1, x), rfl, by show 0 ≤ n - 1; omega, by show n - 1 < n; omega, hx.mono (by omega)⟩⟩
    · rintro i σ H15 hi ⟨ys, es, x, y, rfl, g, h1, h2⟩
      walk_at "w"
      refine ⟨Or.inl ⟨rfl, _, SqL.of g.at_⟩, ?_⟩
      walk_at "w"
      refine ⟨z.add C, _, rfl, g.st, by omega, fun q H8 q0 q1 w8 => ?_⟩
      walk_at "w"
      refine ⟨z.add C, wr, L, rfl, w8.st, hW.ne, by omega, by omega, fun x H9 hx w9 => ?_⟩
      walk_at "w"
      refine ⟨szr rfl, fun p np => ?_⟩
      have g4 := g.step ((w8.trans w9).new (o := .tup [.int q, .str x]) np)
      walk_at "w"
      refine ⟨C, ys, .ref p, rfl, rfl, g4.at_, by rw [g.len]; exact small5 (by omega), ?_⟩
      exact ⟨_, _, _, _, rfl, g4.app (DA.side (e := (q, x)) ((w8.trans w9).here np)), by rw [List.length_append]; show es.length + 1 ≤ 1 + (i + 1); omega, mem_snoc h2 ⟨(q, x), rfl, q0, by show q < n; omega, hx.mono (by omega)⟩⟩
    rintro σ H15 ⟨yss, ess, y5, y6, rfl, gt, ht1, ht2⟩
    obtain ⟨ls, rfl, hls⟩ := of_mem ht2
    rw [List.length_map] at ht1
    have ws := wl.trans gt.wd
    have ds := gt.fin
    have dl2 := gt.wd.da dl
    have dh3 := gt.wd.da dh2
    walk_at "w"
    refine ⟨z, _, rfl, ws.st, by decide, fun dr H16 dr0 dr1 w16 => ?_⟩
    replace ws := ws.trans w16
    replace ds := w16.da ds
    replace dl2 := w16.da dl2
    replace dh3 := w16.da dh3
    have start : Mid3 z H rd wr n L dr [some (.ref z.s), some (.str rd), some (.str wr), some (.int 4), some (.int n), some (.int L), some (.ref hd), y5, some (.ref D), y6, some (.ref C), some (.int dr), none, none] H16 :=
      ⟨_, _, _, lh, ll, ls, _, _, rfl, ws, dh3, dl2, ds, by omega, by omega, by omega, fun e he => (hlh e he).mono (by decide), fun e he => (hll e he).mono (by decide), fun e he => (hls e he).mono (by decide)⟩
    walk_at "w"
    refine ⟨Mid3 z H rd wr n L dr, ?_, ?_⟩
    · walk_at "w"
      walk_at "if"
      · walk_at "w"
        refine ⟨szr rfl, fun p np => ?_⟩
        have wq := (Wd.refl ws.st).new (o := .lst []) np
        exact ⟨_, _, _, [], ll, ls, _, _, rfl, ws.trans wq, .lst (ws.here np) .nil, wq.da dl2, wq.da ds, by decide, by omega, by omega, fun e he => (nomatch he), fun e he => (hll e he).mono (by decide), fun e he => (hls e he).mono (by decide)⟩
      · exact start
    rintro σ H17 ⟨vh, vl, vs, lh, ll, ls, x, y, rfl, ws, dh, dl, ds, b1, b2, b3, q1, q2, q3⟩
    refine ⟨Mid3 z H rd wr n L dr, ?_, ?_⟩
    · walk_at "w"
      walk_at "if"
      · walk_at "w"
        refine ⟨szr rfl, fun p np => ?_⟩
        have wq := (Wd.refl ws.st).new (o := .lst []) np
        exact ⟨_, _, _, lh, [], ls, _, _, rfl, ws.trans wq, wq.da dh, .lst (ws.here np) .nil, wq.da ds, b1, by decide, b3, q1, fun e he => (nomatch he), q3⟩
      · exact ⟨_, _, _, lh, ll, ls, _, _, rfl, ws, dh, dl, ds, b1, b2, b3, q1, q2, q3⟩
    rintro σ H18 ⟨vh, vl, vs, lh, ll, ls, x, y, rfl, ws, dh, dl, ds, b1, b2, b3, q1, q2, q3⟩
    refine ⟨Mid3 z H rd wr n L dr, ?_, ?_⟩
    · walk_at "w"
      walk_at "if"
      · walk_at "w"
        refine ⟨szr rfl, fun p np => ?_⟩
        have wq := (Wd.refl ws.st).new (o := .lst []) np
        exact ⟨_, _, _, lh, ll, [], _, _, rfl, ws.trans wq, wq.da dh, wq.da dl, .lst (ws.here np) .nil, b1, b2, by decide, q1, q2, fun e he => (nomatch he)⟩
      · exact ⟨_, _, _, lh, ll, ls, _, _, rfl, ws, dh, dl, ds, b1, b2, b3, q1, q2, q3⟩
    rintro σ H19 ⟨vh, vl, vs, lh, ll, ls, x, y, rfl, ws, dh, dl, ds, b1, b2, b3, q1, q2, q3⟩
    walk_at "w"
    refine ⟨szr rfl, fun p np => ?_⟩
    have wp := (Wd.refl ws.st).new (o := .lst [vh, vl, vs]) np
    have w20 := ws.trans wp
    have hxs := ws.here (o := .lst [vh, vl, vs]) np
    have dh2 := wp.da dh
    have dl2 := wp.da dl
    have ds2 := wp.da ds
    refine ⟨_, rfl, ⟨_, SqL.of upd_same⟩, fun D nD => lc_lstW (xs := [vh, vl, vs]) w20.st (Wd.refl w20.st) nD hxs (Nat.le_of_ble_eq_true rfl) (fun i d => (i = 0 → ∃ l : List Side, d = .list (l.map sideD) ∧ l.length ≤ 22 ∧ ∀ e ∈ l, SOk n wr 50 e) ∧ (i = 1 → ∃ l : List Arc, d = .list (l.map arcD) ∧ l.length ≤ 22 ∧ ∀ e ∈ l, AOk n rd wr 50 e) ∧ (i = 2 → ∃ l : List Side, d = .list (l.map sideD) ∧ l.length ≤ 22 ∧ ∀ e ∈ l, SOk n wr 50 e)) (fun _ => rfl) ?_ ?_⟩
    · intro i v H21 R hi w21 old hR2
      have side : ∀ (lx : List Side), lx.length ≤ 20 → (∀ e ∈ lx, SOk n wr 50 e) → DA (hide (z.add D) H21) v (.list (lx.map sideD)) → (i = 0 ∨ i = 2) → sp_repeated [V.ref z.s, v, V.int 2] H21 R E0 := fun lx l1 l2 l3 hi =>
        ⟨z.add D, v, lx.map sideD, 2, rfl, w21.st, l3, by rw [List.length_map]; omega, by decide, fun v' H22 es w22 hd he1 he2 => by
          obtain ⟨l', rfl, hl'⟩ := un_map he2
          rw [List.length_map, List.length_map] at he1
          exact hR2 v' H22 _ w22 hd ⟨fun _ => ⟨l', rfl, by omega, fun e he => l2 e (hl' e he)⟩, fun h => by omega, fun _ => ⟨l', rfl, by omega, fun e he => l2 e (hl' e he)⟩⟩⟩
      walk_at "w"
      match i, hi with
      | 0, hi =>
        cases hi
        exact side lh b1 q1 (dh2.up old) (.inl rfl)
      | 1, hi =>
        cases hi
        refine ⟨z.add D, _, ll.map arcD, 2, rfl, w21.st, dl2.up old, by rw [List.length_map]; omega, by decide, fun v' H22 es w22 hd he1 he2 => ?_⟩
        obtain ⟨l', rfl, hl'⟩ := un_map he2
        rw [List.length_map, List.length_map] at he1
        exact hR2 v' H22 _ w22 hd ⟨fun h => by omega, fun _ => ⟨l', rfl, by omega, fun e he => q2 e (hl' e he)⟩, fun h => by omega⟩
      | 2, hi =>
        cases hi
        exact side ls b3 q3 (ds2.up old) (.inr rfl)
      | n + 3, hi => simp at hi
    intro H22 ys es g hl hP
    have w23 := w20.trans g.wd
    match es, hl, g with
    | [d1, d2, d3], _, g =>
      obtain ⟨lh', rfl, c1, r1⟩ := (hP 0 d1 rfl).1 rfl
      obtain ⟨ll', rfl, c2, r2⟩ := (hP 1 d2 rfl).2.1 rfl
      obtain ⟨ls', rfl, c3, r3⟩ := (hP 2 d3 rfl).2.2 rfl
      have it := g.it.up (hide_drop z H22 D)
      have g_at := g.at_
      obtain ⟨v1, _, rfl, i1, it⟩ := it.cons_inv
      obtain ⟨v2, _, rfl, i2, it⟩ := it.cons_inv
      obtain ⟨v3, _, rfl, i3, it⟩ := it.cons_inv
      obtain rfl := it.nil_inv
      walk_at "w"
      refine ⟨szr rfl, fun q nq => ?_⟩
      have wq := (Wd.refl w23.st).new (o := .tup [.str rd, .str wr, .int n, v1, v2, v3]) nq
      exact k _ _ ⟨rd, wr, n, lh', ll', ls'⟩ (w23.trans wq) (DA.parts (M := ⟨rd, wr, n, lh', ll', ls'⟩) (w23.here nq) (wq.da i1) (wq.da i2) (wq.da i3))
        ⟨hR, hW, by show 0 ≤ n; omega, by show n ≤ 8; omega, r1, r2, r3, by show lh'.length ≤ 100; omega, by show ll'.length ≤ 100; omega, by show ls'.length ≤ 100; omega⟩
end
end GJ


set_option Elab.async false
set_option linter.all false
set_option maxRecDepth 100000
set_option maxHeartbeats 4000000
namespace GJ
open PySem PySem.Spec PyProof.Rows L2 TL
set_option pp.maxSteps 300
theorem strs_of {H : Hp} {P : Str → Prop} : ∀ {ys : List V} {ds : List PyData}, DAs H ys ds → (∀ (i : Nat) d, ds[i]? = some d → ∃ x, d = .str x ∧ P x) → ∃ ws : List Str, ys = ws.map V.str ∧ ws.length = ds.length ∧ ∀ x ∈ ws, P x
  | _, _, .nil, _ => ⟨[], rfl, rfl, fun _ h => nomatch h⟩
  | _, _, .cons (v := v) (d := d) a b, h => by
    obtain ⟨x, rfl, hx⟩ := h 0 d rfl
    obtain rfl := a.str_inv
    obtain ⟨ws, e1, e2, e3⟩ := strs_of b fun i d e => h (i + 1) d (by simpa using e)
    exact ⟨x :: ws, by rw [e1]; rfl, by rw [List.length_cons, e2]; rfl, fun y hy => (List.mem_cons.mp hy).elim (fun q => q ▸ hx) (e3 y)⟩
section
variable {P : Program} {w : World} {K : PySem.W.Frag} {mg : Str → Option Value} {base : Heap}
set_option hygiene false in
local macro_rules | `(tactic| walk_at "w") => `(tactic| repeat (first
  | refine ⟨_, rfl, ?_⟩
  | refine ⟨_, _, rfl, rfl, (by first | decide | omega), fun r r0 r1 re => ?_⟩
  | refine ⟨_, _, rfl, rfl, (by first | exact Or.inl ⟨by omega, by omega⟩ | exact Or.inr ⟨by omega, by omega⟩ : CMul _ _), ?_⟩
  | refine ⟨_, _, rfl, rfl, (by first | exact ⟨by decide, by decide⟩ | exact ⟨by omega, by omega⟩ : CDiv _ _), ?_⟩
  | refine ⟨_, _, rfl, rfl, (by exact ⟨by decide, by decide, by decide⟩ : CPow _ _), ?_⟩
  | refine ⟨_, _, rfl, rfl, ?_⟩
  | refine ⟨(by rfl : scal _ _ = true), ?_⟩
  | refine Or.inl ⟨_, rfl, ?_⟩
  | refine ⟨_, _, rfl, fun m m0 m1 m2 => ?_⟩
  | refine ⟨_, _, _, _, rfl, rfl, SqL.of (by first | assumption | exact upd_same | exact fx _ | exact fy _), rfl, ?_⟩
  | refine ⟨_, _, _, _, rfl, rfl, (by first | assumption | exact upd_same | exact fx _ | exact fy _), rfl, ?_⟩
  | refine ⟨_, _, _, _, rfl, rfl, SqT.of (by first | assumption | exact upd_same | exact fx _ | exact fy _), rfl, ?_⟩
  | refine ⟨(szle (by omega) : Str.length _ ≤ sizeLine), ?_⟩
  | refine ⟨(szle (by first | omega | (rw [sla]; omega) | (rw [sla, sla]; omega)) : Str.length _ + Str.length _ ≤ sizeLine), ?_⟩
  | refine ⟨_, _, rfl, len_lst (by first | assumption | exact upd_same | exact fx _ | exact fy _), ?_⟩))
set_option hygiene false in
local macro_rules | `(tactic| walk_at "if") => `(tactic| (refine ite2 (fun hc => ?_) (fun hc => ?_) <;>
  simp only [decide_eq_true_eq, Bool.not_eq_true', decide_eq_false_iff_not, V.int.injEq, V.str.injEq, V.bl.injEq, Decidable.not_not, Bool.not_eq_true, V.int_ne, Int.not_lt, Int.not_le, Bool.true_eq_false, Bool.false_eq_true, not_true_eq_false, not_false_eq_true] at hc))
set_option hygiene false in
local macro_rules | `(tactic| walk_at "new") => `(tactic| (refine ⟨by first | decide | (simp only [List.length_cons, List.length_nil, List.length_append, List.length_map]; first | decide | (rw [sizeLine_eq]; omega)), fun p np => ?_⟩))
set_option hygiene false in
local macro_rules | `(tactic| walk_at "yes") => `(tactic| refine itY (by first | rfl | exact decide_eq_true (by first | rfl | omega | assumption) | (simp only [decide_eq_true_eq, Bool.not_eq_true', decide_eq_false_iff_not, V.int.injEq, V.str.injEq, V.bl.injEq]; first | omega | assumption)) ?_)
set_option hygiene false in
local macro_rules | `(tactic| walk_at "no") => `(tactic| refine itN (by first | decide | (simp only [decide_eq_true_eq, Bool.not_eq_true', decide_eq_false_iff_not, V.int.injEq, V.str.injEq, V.bl.injEq, Bool.not_eq_true, Decidable.not_not]; first | omega | assumption)) ?_)
def N__law_lines : List Str := ["_law_store_here", "_law_read", "_law_write", "_law_word_here", "_law_even", "_law_turned_here", "_law_links", "_law_letter", "_law_own", "_law_k", "_law_stops"]
theorem sc__law_lines : FnScope N__law_lines ["_law_store_here", "_law_read", "_law_write"] (defScope (top 60)) := ⟨rfl, rfl, rfl, by decide +kernel, rfl, by decide +kernel, by decide +kernel⟩
theorem ok__law_lines (En : Env K mg fas fns prs) : Ok P w K mg base "_law_lines" 5 ["_law_store_here", "_law_read", "_law_write"] sp_build := by
  refine ok_mk 41 60 En sc__law_lines (fun _ _ _ _ _ _ us hl => match us, hl with | [_, _, _], _ => rfl) (fun vs H Q E h => ?_) (fun f cdv A outer s H vs Q E hr h => ?_)
  · obtain ⟨z, rd, wr, rfl, _⟩ := h
    rfl
  · obtain ⟨z, rd, wr, rfl, hz, hR, hW, k⟩ := h
    have hr1 := hR.le
    have hw1 := hW.le
    refine ⟨_, (pss_cons
        (ps_setLc (i := 3) (own := [("_law_k", 9)]) (g := gName 9) (tt := tYes) rfl sc__law_lines.nd rfl rfl (sw_true rfl rfl rfl (by decide +kernel)) (pi_range1 rfl (fr_range En) (pa_cons pe_int pa_nil)) (blkOk_by (own := [("_law_k", 9)]) (N := N__law_lines) (sc := defScope (top 60)) (by decide +kernel)) (fun _ _ _ _ _ => (pg_name (i := 9) sc__law_lines.nd rfl (Or.inl rfl))) (fun _ _ _ _ _ => pts_nil) (fun _ _ _ _ _ => (pe_fn (ok__law_word En) (hr.mono (by decide)) (pa_cons (pv 0) (pa_cons (pv 2) (pa_cons pe_int pa_nil))))))
      (C8.pss_cut
        (ps_set (i := 4) sc__law_lines.nd rfl (Or.inl rfl) (pe_or (pe_cmpR op_lt (pe_callB (call_lenK (K := K) rfl) (by rfl) (fr_len En) bt_len (pa_cons (pv 1) pa_nil)) pe_int (nomark _)) (pe_one (pe_cmpR op_eq (pe_fn (ok__law_take En) (hr.mono (by decide)) (pa_cons (pv 0) (pa_cons pe_int pa_nil))) pe_int (nomark _)))))
      (pss_cons
        (ps_set (i := 5) sc__law_lines.nd rfl (Or.inl rfl) (pe_cmpR op_eq (pe_fn (ok__law_take En) (hr.mono (by decide)) (pa_cons (pv 0) (pa_cons pe_int pa_nil))) pe_int (nomark _)))
      (C8.pss_cut
        (ps_if (pt_val (pv 5)) (pss_one (ps_asg (pe_op op_add_str (pe_ix (ix_listK (K := K) rfl) (pv 3) pe_int (fun _ _ => rfl)) (pe_ix (ix_listK (K := K) rfl) (pv 3) pe_int (fun _ _ => rfl))) (pg_sub (pv 3) pe_int set_list))) pss_nil)
      (pss_cons
        (ps_set (i := 6) sc__law_lines.nd rfl (Or.inl rfl) (pe_lst pa_nil))
      (pss_cons
        (ps_for PassesOwn.never rfl (pi_str (pv 1)) (pg_name (i := 7) sc__law_lines.nd rfl (Or.inl rfl)) (pss_cons
        (ps_setLc (i := 8) (own := [("_law_k", 9)]) (g := gName 9) (tt := tYes) rfl sc__law_lines.nd rfl rfl (sw_true rfl rfl rfl (by decide +kernel)) (pi_range1 rfl (fr_range En) (pa_cons pe_int pa_nil)) (blkOk_by (own := [("_law_k", 9)]) (N := N__law_lines) (sc := defScope (top 60)) (by decide +kernel)) (fun _ _ _ _ _ => (pg_name (i := 9) sc__law_lines.nd rfl (Or.inl rfl))) (fun _ _ _ _ _ => pts_nil) (fun _ _ _ _ _ => (pe_fn (ok__law_word En) (hr.mono (by decide)) (pa_cons (pv 0) (pa_cons (pv 2) (pa_cons pe_int pa_nil))))))
      (C8.pss_cut
        (ps_if (pt_val (pv 5)) (pss_one (ps_set (i := 8) sc__law_lines.nd rfl (Or.inl rfl) (pe_lst (pa_cons (pe_op op_add_str (pe_ix (ix_listK (K := K) rfl) (pv 3) pe_int (fun _ _ => rfl)) (pe_ix (ix_listK (K := K) rfl) (pv 8) pe_int (fun _ _ => rfl))) (pa_cons (pe_op op_add_str (pe_ix (ix_listK (K := K) rfl) (pv 3) pe_int (fun _ _ => rfl)) (pe_ix (ix_listK (K := K) rfl) (pv 8) pe_int (fun _ _ => rfl))) (pa_cons (pe_op op_add_str (pe_ix (ix_listK (K := K) rfl) (pv 8) pe_int (fun _ _ => rfl)) (pe_ix (ix_listK (K := K) rfl) (pv 3) pe_int (fun _ _ => rfl))) (pa_cons (pe_op op_add_str (pe_ix (ix_listK (K := K) rfl) (pv 8) pe_int (fun _ _ => rfl)) (pe_ix (ix_listK (K := K) rfl) (pv 3) pe_int (fun _ _ => rfl))) pa_nil))))))) pss_nil)
      (pss_one
        (ps_for PassesOwn.never rfl (pi_range1 rfl (fr_range En) (pa_cons pe_int pa_nil)) (pg_name (i := 9) sc__law_lines.nd rfl (Or.inl rfl)) (pss_one (ps_if (pt_val (pv 4)) (pss_one (ps_expr (pe_bm PySem.F.plainAttrs_list PySem.F.slot_list_append PySem.F.type_list_append mt_append (pv 6) (pa_cons (pe_tup (pa_cons (pv 9) (pa_cons (pv 7) (pa_cons (pe_ix (ix_listK (K := K) rfl) (pv 8) (pv 9) (fun _ _ => rfl)) (pa_cons (pe_ix (ix_listK (K := K) rfl) (pe_lst (pa_cons pe_int (pa_cons pe_int (pa_cons pe_int (pa_cons pe_int pa_nil))))) (pv 9) (fun _ _ => rfl)) pa_nil))))) pa_nil)))) (pss_one (ps_if (pt_cmpR op_eq (pe_op op_modR (pe_callTy call_int1 (by rfl) (fr_int En) bt_int (pa_cons (pv 9) pa_nil)) pe_int) pe_int (nomark _)) (pss_one (ps_expr (pe_bm PySem.F.plainAttrs_list PySem.F.slot_list_append PySem.F.type_list_append mt_append (pv 6) (pa_cons (pe_tup (pa_cons (pv 9) (pa_cons (pv 7) (pa_cons (pe_ix (ix_listK (K := K) rfl) (pv 8) (pv 9) (fun _ _ => rfl)) (pa_cons (pv 9) pa_nil))))) pa_nil)))) pss_nil)))))))))
      (pss_cons
        (ps_set (i := 10) sc__law_lines.nd rfl (Or.inl rfl) (pe_lst (pa_cons (pe_tup (pa_cons pe_int (pa_cons (pe_ix (ix_listK (K := K) rfl) (pv 3) pe_int (fun _ _ => rfl)) pa_nil))) (pa_cons (pe_tup (pa_cons pe_int (pa_cons (pe_ix (ix_listK (K := K) rfl) (pv 3) pe_int (fun _ _ => rfl)) pa_nil))) pa_nil))))
      (C8.pss_cut
        (ps_if (pt_not (pt_val (pv 4))) (pss_cons
        (ps_set (i := 10) sc__law_lines.nd rfl (Or.inl rfl) (pe_lst (pa_cons (pe_tup (pa_cons pe_int (pa_cons (pe_ix (ix_listK (K := K) rfl) (pv 3) pe_int (fun _ _ => rfl)) pa_nil))) (pa_cons (pe_tup (pa_cons pe_int (pa_cons (pe_ix (ix_listK (K := K) rfl) (pv 3) pe_int (fun _ _ => rfl)) pa_nil))) pa_nil))))
      (pss_one
        (ps_set (i := 6) sc__law_lines.nd rfl (Or.inl rfl) (pe_op op_cat (pv 6) (pe_lst (pa_cons (pe_tup (pa_cons pe_int (pa_cons (pe_ix ix_str (pv 1) pe_int (fun _ _ => rfl)) (pa_cons (pe_ix (ix_listK (K := K) rfl) (pv 3) pe_int (fun _ _ => rfl)) (pa_cons pe_int pa_nil))))) (pa_cons (pe_tup (pa_cons pe_int (pa_cons (pe_ix ix_str (pv 1) pe_int (fun _ _ => rfl)) (pa_cons (pe_ix (ix_listK (K := K) rfl) (pv 3) pe_int (fun _ _ => rfl)) (pa_cons pe_int pa_nil))))) pa_nil))))))) pss_nil)
      (pss_one
        (ps_ret (pe_tup (pa_cons (pv 1) (pa_cons (pv 2) (pa_cons pe_int (pa_cons (pe_lst (pa_cons (pe_tup (pa_cons pe_int (pa_cons (pe_ix (ix_listK (K := K) rfl) (pv 3) pe_int (fun _ _ => rfl)) pa_nil))) (pa_cons (pe_tup (pa_cons pe_int (pa_cons (pe_ix (ix_listK (K := K) rfl) (pv 3) pe_int (fun _ _ => rfl)) pa_nil))) pa_nil))) (pa_cons (pv 6) (pa_cons (pv 10) pa_nil))))))))))))))))), ?_⟩
    walk_at "w"
    refine ⟨by omega, by omega, fun A0 nA => lc_rngW hz (Wd.refl hz) nA (by decide) (fun _ d => ∃ x, d = .str x ∧ Wo wr 2 x) (fun _ => rfl) ?_ ?_⟩
    · intro i H2 R hi w2 hR2
      walk_at "w"
      refine ⟨z.add A0, wr, 2, rfl, w2.st, hW.ne, by omega, by decide, fun x H3 hx w3 => ?_⟩
      exact hR2 _ H3 _ w3 (.str x) ⟨x, rfl, hx⟩
    intro H1 ys ds g hl hP
    obtain ⟨ws, rfl, e2, hws⟩ := strs_of g.it hP
    match ws, e2.trans hl, g, hws with
    | [a0, a1, a2, a3, a4, a5], _, g, hws =>
    have hd1 := g.hd
    have w1 := g.wd
    have m0 := hws a0 (by simp)
    have m1 := hws a1 (by simp)
    have m2 := hws a2 (by simp)
    have m3 := hws a3 (by simp)
    have m4 := hws a4 (by simp)
    have m5 := hws a5 (by simp)
    have nA0 := g.ne
    -- even
    refine ⟨fun σ H' => ∃ b : Bool, σ = [some (.ref z.s), some (.str rd), some (.str wr), some (.ref A0), some (.bl b), none, none, none, none, none, none] ∧ Wd z H H' ∧ H' A0 = some (.lst [.str a0, .str a1, .str a2, .str a3, .str a4, .str a5]) ∧ (b = false → 2 ≤ (tl rd).length), ?_, ?_⟩
    · walk_at "w"
      refine ⟨_, _, rfl, len_str (by rw [tl_len]; omega), ?_⟩
      walk_at "w"
      walk_at "if"
      · exact ⟨true, rfl, w1, g.at_, fun h => nomatch h⟩
      · walk_at "w"
        refine ⟨z, _, rfl, w1.st, by decide, fun d H2 d0 d1 w2 => ?_⟩
        walk_at "w"
        exact ⟨w1.trans w2, w2.kp _ _ nA0.1 nA0.2.1 g.at_, fun _ => by rw [tl_len] at hc; omega⟩
    rintro σ H2 ⟨ev, rfl, w2, hA2, hev⟩
    walk_at "w"
    refine ⟨z, _, rfl, w2.st, by decide, fun d H3 d0 d1 w3 => ?_⟩
    have hA3 := w3.kp _ _ nA0.1 nA0.2.1 hA2
    replace w3 := w2.trans w3
    walk_at "w"
    -- if turned
    refine ⟨fun σ H' => ∃ (b : Bool) (c1 : Str), σ = [some (.ref z.s), some (.str rd), some (.str wr), some (.ref A0), some (.bl ev), some (.bl b), none, none, none, none, none] ∧ Wd z H H' ∧ H' A0 = some (.lst [.str a0, .str c1, .str a2, .str a3, .str a4, .str a5]) ∧ Wo wr 4 c1, ?_, ?_⟩
    · have l0 : a0.length ≤ 2 := m0.1
      have l2 : a2.length ≤ 2 := m2.1
      walk_at "w"
      walk_at "if"
      · walk_at "w"
        exact ⟨_, _, rfl, w3.put g.nd nA0.1 nA0.2.1, upd_same, m0.app m2⟩
      · exact ⟨_, _, rfl, w3, hA3, m1.mono (by decide)⟩
    rintro σ H4 ⟨tb, c1, rfl, w4, hA4, mc⟩
    walk_at "w"
    refine ⟨szr rfl, fun D nD => ?_⟩
    have gl := Lg.start w4.st (Wd.refl w4.st) nD
    have hB : hide z H4 A0 = some (.lst [.str a0, .str c1, .str a2, .str a3, .str a4, .str a5]) := hide_of nA0 hA4
    walk_at "w"
    refine for_it walk_str (fun i σ H' => ∃ (ys : List V) (es : List PyData) (x y u : Option V), σ = [some (.ref z.s), some (.str rd), some (.str wr), some (.ref A0), some (.bl ev), some (.bl tb), some (.ref D), x, y, u, none] ∧ Lg z H4 D H' ys es ∧ es.length ≤ 4 * i ∧ ∀ d ∈ es, Ad 4 rd wr 10 d) ?_ (fun _ _ _ _ _ => True.intro) ?_ ?_
    · exact ⟨_, _, _, _, _, rfl, gl, Nat.le_refl _, fun d h => nomatch h⟩
    · rintro i v σ H5 _ hi ⟨ys, es, x, y, u, rfl, g, h1, h2⟩ ⟨rfl, c, hc1, rfl⟩
      have hc : c ∈ tl rd := by
        have : (tl rd)[i]? = some c := by rw [← hc1]; simp [TL.tl]
        exact List.mem_of_getElem? this
      have hcm := hc
      have hi3 : i < 3 := by rw [show rd.cps.size = (tl rd).length from rfl] at hi; omega
      walk_at "w"
      refine ⟨by omega, by omega, fun O nO => lc_rngW g.st (Wd.refl g.st) nO (by decide) (fun _ d => ∃ x, d = .str x ∧ Wo wr 2 x) (fun _ => rfl) ?_ ?_⟩
      · intro j H6 R hj w6 hR2
        walk_at "w"
        refine ⟨(z.add D).add O, wr, 2, rfl, w6.st, hW.ne, by omega, by decide, fun x H7 hx w7 => ?_⟩
        exact hR2 _ H7 _ w7 (.str x) ⟨x, rfl, hx⟩
      intro H6 yo dso go hlo hPo
      obtain ⟨os, rfl, e3, hos⟩ := strs_of go.it hPo
      match os, e3.trans hlo, go, hos with
      | [o0, o1, o2, o3], _, go, hos =>
      have g6 := g.step go.wd
      have n0 := hos o0 (by simp)
      have n1 := hos o1 (by simp)
      have n2 := hos o2 (by simp)
      have n3 := hos o3 (by simp)
      have hB6 : H6 A0 = some (.lst [.str a0, .str c1, .str a2, .str a3, .str a4, .str a5]) := hide_le _ _ _ _ (g6.wd.up _ _ hB)
      -- own, the turned one
      refine ⟨fun σ H' => ∃ (O' : Addr) (p0 p1 p2 p3 : Str), σ = [some (.ref z.s), some (.str rd), some (.str wr), some (.ref A0), some (.bl ev), some (.bl tb), some (.ref D), some (.str ⟨#[c]⟩), some (.ref O'), u, none] ∧ Lg z H4 D H' ys es ∧ hide (z.add D) H' O' = some (.lst [.str p0, .str p1, .str p2, .str p3]) ∧ (Wo wr 4 p0 ∧ Wo wr 4 p1 ∧ Wo wr 4 p2 ∧ Wo wr 4 p3), ?_, ?_⟩
      · have l0 : o0.length ≤ 2 := n0.1
        have l1 : o1.length ≤ 2 := n1.1
        have l2 : a2.length ≤ 2 := m2.1
        have hO := go.at_
        walk_at "w"
        cases tb with
        | true =>
          refine iteT ?_
          walk_at "w"
          refine ⟨szr rfl, fun q nq => ?_⟩
          have wq := (Wd.refl g6.st).new (o := .lst [.str (a2 ++ o0), .str (a2 ++ o1), .str (o0 ++ a2), .str (o1 ++ a2)]) nq
          exact ⟨_, _, _, _, _, rfl, g6.step wq, (Wd.refl g6.st).here nq, m2.app n0, m2.app n1, n0.app m2, n1.app m2⟩
        | false =>
          refine iteF ?_
          exact ⟨_, _, _, _, _, rfl, g6, go.hd, n0.mono (by decide), n1.mono (by decide), n2.mono (by decide), n3.mono (by decide)⟩
      rintro σ H7 ⟨O', p0, p1, p2, p3, rfl, g7, hO', q0, q1, q2, q3⟩
      walk_at "w"
      refine ⟨by omega, by omega, for_range (lo := 0) (n := (4 : Int).toNat) (fun j σ H' => ∃ (ys : List V) (es : List PyData) (u : Option V), σ = [some (.ref z.s), some (.str rd), some (.str wr), some (.ref A0), some (.bl ev), some (.bl tb), some (.ref D), some (.str ⟨#[c]⟩), some (.ref O'), u, none] ∧ Lg z H4 D H' ys es ∧ hide (z.add D) H' O' = some (.lst [.str p0, .str p1, .str p2, .str p3]) ∧ es.length ≤ 4 * i + j ∧ ∀ d ∈ es, Ad 4 rd wr 10 d) ?_ ?_ ?_⟩
      · exact ⟨_, _, _, rfl, g7, hO', by omega, h2⟩
      · rintro j σ H8 hj ⟨ys, es, u, rfl, g8, hO8, f1, f2⟩
        have hj4 : j < 4 := hj
        have hO9 := hide_le _ _ _ _ hO8
        obtain ⟨v, v1, v2⟩ := at_nn (xs := [p0, p1, p2, p3]) (i := 0 + (j : Int)) (by omega) (by show (0 : Int) + j < 4; omega)
        have hv : Wo wr 4 v := by
          have := at_mem v1
          simp only [List.mem_cons, List.not_mem_nil, or_false] at this
          rcases this with rfl | rfl | rfl | rfl
          · exact q0
          · exact q1
          · exact q2
          · exact q3
        have v3 : atI [V.str p0, V.str p1, V.str p2, V.str p3] (0 + (j : Int)) = some (.str v) := by
          obtain ⟨x, x1, x2⟩ := at_nn (xs := [p0, p1, p2, p3].map V.str) (i := 0 + (j : Int)) (by omega) (by show (0 : Int) + j < 4; omega)
          rw [List.getElem?_map, v1] at x1
          rw [← Option.some.inj x1] at x2
          exact x2
        walk_at "w"
        cases ev with
        | true =>
          refine iteT ?_
          walk_at "w"
          refine ⟨Or.inl ⟨rfl, _, SqL.of g8.at_⟩, ?_⟩
          walk_at "w"
          refine ⟨_, _, _, _, rfl, rfl, SqL.of hO9, v3, ?_⟩
          walk_at "w"
          refine ⟨szr rfl, fun q1 nq1 => ?_⟩
          obtain ⟨t, t1, t2⟩ := at_nn (xs := [V.int 1, .int 0, .int 3, .int 2]) (i := 0 + (j : Int)) (by omega) (by show (0 : Int) + j < 4; omega)
          obtain ⟨u, rfl, u0, u1⟩ : ∃ u : Int, t = .int u ∧ 0 ≤ u ∧ u < 4 := by
            have := at_mem t1
            simp only [List.mem_cons, List.not_mem_nil, or_false] at this
            rcases this with rfl | rfl | rfl | rfl
            · exact ⟨1, rfl, by decide, by decide⟩
            · exact ⟨0, rfl, by decide, by decide⟩
            · exact ⟨3, rfl, by decide, by decide⟩
            · exact ⟨2, rfl, by decide, by decide⟩
          walk_at "w"
          refine ⟨_, _, _, _, rfl, rfl, SqL.of upd_same, t2, ?_⟩
          walk_at "w"
          refine ⟨szr rfl, fun q nq => ?_⟩
          have wr1 := (Wd.refl g8.st).new (o := .lst [.int 1, .int 0, .int 3, .int 2]) nq1
          have g9 := g8.step wr1
          walk_at "w"
          have wr2 := (Wd.refl g9.st).new (o := .tup [.int (0 + (j : Int)), .str ⟨#[c]⟩, .str v, .int u]) nq
          have g10 := g9.step wr2
          refine ⟨_, _, _, rfl, rfl, g10.at_, by rw [g8.len]; exact small5 (by omega), ?_⟩
          exact ⟨_, _, _, rfl, g10.app (DA.arc (e := (0 + (j : Int), ⟨#[c]⟩, v, u)) ((Wd.refl g9.st).here nq)), hide_upd z _ D _ _ _ ((wr1.trans wr2).up _ _ hO8), by rw [List.length_append]; show es.length + 1 ≤ 4 * i + (j + 1); omega,
            mem_snoc f2 ⟨(0 + (j : Int), ⟨#[c]⟩, v, u), rfl, ⟨by show (0 : Int) ≤ 0 + j; omega, by show (0 : Int) + j < 4; omega⟩, ⟨c, hc, rfl⟩, hv.mono (by decide), u0, u1⟩⟩
        | false =>
          refine iteF ?_
          walk_at "w"
          walk_at "if"
          · walk_at "w"
            refine ⟨Or.inl ⟨rfl, _, SqL.of g8.at_⟩, ?_⟩
            walk_at "w"
            refine ⟨_, _, _, _, rfl, rfl, SqL.of hO9, v3, ?_⟩
            walk_at "w"
            refine ⟨szr rfl, fun q nq => ?_⟩
            walk_at "w"
            have wr2 := (Wd.refl g8.st).new (o := .tup [.int (0 + (j : Int)), .str ⟨#[c]⟩, .str v, .int (0 + (j : Int))]) nq
            have g10 := g8.step wr2
            refine ⟨_, _, _, rfl, rfl, g10.at_, by rw [g8.len]; exact small5 (by omega), ?_⟩
            exact ⟨_, _, _, rfl, g10.app (DA.arc (e := (0 + (j : Int), ⟨#[c]⟩, v, 0 + (j : Int))) ((Wd.refl g8.st).here nq)), hide_upd z _ D _ _ _ (wr2.up _ _ hO8), by rw [List.length_append]; show es.length + 1 ≤ 4 * i + (j + 1); omega,
              mem_snoc f2 ⟨(0 + (j : Int), ⟨#[c]⟩, v, 0 + (j : Int)), rfl, ⟨by show (0 : Int) ≤ 0 + j; omega, by show (0 : Int) + j < 4; omega⟩, ⟨c, hcm, rfl⟩, hv.mono (by decide), by show (0 : Int) ≤ 0 + j; omega, by show (0 : Int) + j < 4; omega⟩⟩
          · exact ⟨_, _, _, rfl, g8, hO8, by omega, f2⟩
      · rintro σ H8 ⟨ys, es, u, rfl, g8, hO8, f1, f2⟩
        exact ⟨_, _, _, _, _, rfl, g8, by omega, f2⟩
    · rintro σ H5 ⟨ys, es, x, y, u, rfl, g, h1, h2⟩
      obtain ⟨ll, rfl, hll⟩ := of_mem h2
      rw [List.length_map] at h1
      have w5 := w4.trans g.wd
      have hA5 := hide_le _ _ _ _ (g.wd.up _ _ hB)
      have dl := g.fin
      have h12 : 4 * rd.cps.size ≤ 12 := by rw [show rd.cps.size = (tl rd).length from rfl]; omega
      walk_at "w"
      refine ⟨szr rfl, fun q1 nq1 => ?_⟩
      have hA6 : upd H5 q1 (.tup [.int 0, .str a3]) A0 = _ := (Same.new nq1) _ _ hA5
      walk_at "w"
      refine ⟨szr rfl, fun q2 nq2 => ?_⟩
      have v1 := w5.new (o := .tup [.int 0, .str a3]) nq1
      have v2 := v1.new (o := .tup [.int 3, .str a4]) nq2
      walk_at "w"
      refine ⟨szr rfl, fun S0 nS0 => ?_⟩
      walk_at "w"
      have v3 := v2.new (o := .lst [.ref q1, .ref q2]) nS0
      have i1 : DA (hide z (upd (upd (upd H5 q1 (.tup [.int 0, .str a3])) q2 (.tup [.int 3, .str a4])) S0 (.lst [.ref q1, .ref q2]))) (.ref S0) (.list ([(0, a3), (3, a4)].map sideD)) :=
        .lst (v2.here nS0) (.cons (((Wd.refl v2.st).new nS0).da (((Wd.refl v1.st).new nq2).da (DA.side (e := (0, a3)) (w5.here nq1)))) (.one (((Wd.refl v2.st).new nS0).da (DA.side (e := (3, a4)) (v1.here nq2)))))
      have sok : ∀ (b : Int), 0 ≤ b → b < 4 → ∀ e ∈ [(b, a3), (3, a4)], SOk 4 wr 6 e := fun b b0 b1 e he => by
        rcases List.mem_cons.mp he with rfl | he
        · exact ⟨b0, b1, m3.mono (by decide)⟩
        · exact mem_one ⟨(by decide : (0 : Int) ≤ 3), (by decide : (3 : Int) < 4), m4.mono (by decide)⟩ e he
      refine ⟨fun σ H' => ∃ (vl vs : V) (ll : List Arc) (ls : List Side) (x y u : Option V), σ = [some (.ref z.s), some (.str rd), some (.str wr), some (.ref A0), some (.bl ev), some (.bl tb), some vl, x, y, u, some vs] ∧ Wd z H H' ∧ H' A0 = some (.lst [.str a0, .str c1, .str a2, .str a3, .str a4, .str a5]) ∧
        DA (hide z H') vl (.list (ll.map arcD)) ∧ DA (hide z H') vs (.list (ls.map sideD)) ∧ ll.length ≤ 20 ∧ ls.length ≤ 20 ∧ (∀ e ∈ ll, AOk 4 rd wr 10 e) ∧ (∀ e ∈ ls, SOk 4 wr 6 e), ?_, ?_⟩
      · walk_at "w"
        cases ev with
        | true =>
          refine iteF ?_
          exact ⟨_, _, ll, [(0, a3), (3, a4)], _, _, _, rfl, v3, (Same.new nS0) _ _ ((Same.new nq2) _ _ hA6), ((Wd.refl v2.st).new nS0).da (((Wd.refl v1.st).new nq2).da (((Wd.refl w5.st).new nq1).da dl)), i1, by omega, Nat.le_of_ble_eq_true rfl, hll, sok 0 (by decide) (by decide)⟩
        | false =>
          have hl2 := hev rfl
          obtain ⟨l0, l1, hl0, hl1, e0, e1⟩ : ∃ l0 l1 : Nat, l0 ∈ tl rd ∧ l1 ∈ tl rd ∧ atI (tl rd) 0 = some l0 ∧ atI (tl rd) 1 = some l1 := by
            obtain ⟨x, x1, x2⟩ := at_nn (xs := tl rd) (i := 0) (by decide) (by omega)
            obtain ⟨y, y1, y2⟩ := at_nn (xs := tl rd) (i := 1) (by decide) (by omega)
            exact ⟨x, y, at_mem x1, at_mem y1, x2, y2⟩
          have hlr : rd.length ≤ 3 := by rw [tl_len]; exact hr1
          have d1 := ((Wd.refl v2.st).new (o := .lst [.ref q1, .ref q2]) nS0).da (((Wd.refl v1.st).new (o := .tup [.int 3, .str a4]) nq2).da (((Wd.refl w5.st).new (o := .tup [.int 0, .str a3]) nq1).da dl))
          have hA7 := (Same.new (o := .lst [.ref q1, .ref q2]) nS0) _ _ ((Same.new (o := .tup [.int 3, .str a4]) nq2) _ _ hA6)
          generalize upd (upd (upd H5 q1 (.tup [.int 0, .str a3])) q2 (.tup [.int 3, .str a4])) S0 (.lst [.ref q1, .ref q2]) = H6 at *
          refine iteT ?_
          walk_at "w"
          refine ⟨szr rfl, fun r1 nr1 => ?_⟩
          have u1 := (Wd.refl v3.st).new (o := .tup [.int 1, .str a3]) nr1
          have hA8 := hA7
          replace hA8 : upd H6 r1 (.tup [.int 1, .str a3]) A0 = _ := (Same.new nr1) _ _ hA7
          walk_at "w"
          refine ⟨szr rfl, fun r2 nr2 => ?_⟩
          have u2 := (Wd.refl u1.st).new (o := .tup [.int 3, .str a4]) nr2
          have hA9 : upd (upd H6 r1 (.tup [.int 1, .str a3])) r2 (.tup [.int 3, .str a4]) A0 = _ := (Same.new nr2) _ _ hA8
          walk_at "w"
          refine ⟨szr rfl, fun S1 nS1 => ?_⟩
          have u3 := (Wd.refl u2.st).new (o := .lst [.ref r1, .ref r2]) nS1
          have i2 : DA _ (.ref S1) (.list ([(1, a3), (3, a4)].map sideD)) :=
            .lst (u2.here nS1) (.cons (u3.da (u2.da (DA.side (e := (1, a3)) (v3.here nr1)))) (.one (u3.da (DA.side (e := (3, a4)) (u1.here nr2)))))
          have d2 := u3.da (u2.da (u1.da d1))
          have hA10 := (Same.new (o := .lst [.ref r1, .ref r2]) nS1) _ _ hA9
          have v4 := ((v3.trans u1).trans u2).trans u3
          generalize upd (upd (upd H6 r1 (.tup [.int 1, .str a3])) r2 (.tup [.int 3, .str a4])) S1 (.lst [.ref r1, .ref r2]) = H7 at *
          walk_at "w"
          refine ⟨rd, 0, l0, rfl, rfl, szle (by omega), e0, ?_⟩
          walk_at "w"
          refine ⟨szr rfl, fun s1 ns1 => ?_⟩
          have t1 := (Wd.refl v4.st).new (o := .tup [.int 0, .str ⟨#[l0]⟩, .str a5, .int 1]) ns1
          have hA11 : upd H7 s1 (.tup [.int 0, .str ⟨#[l0]⟩, .str a5, .int 1]) A0 = _ := (Same.new ns1) _ _ hA10
          walk_at "w"
          refine ⟨rd, 1, l1, rfl, rfl, szle (by omega), e1, ?_⟩
          walk_at "w"
          refine ⟨szr rfl, fun s2 ns2 => ?_⟩
          have t2 := (Wd.refl t1.st).new (o := .tup [.int 2, .str ⟨#[l1]⟩, .str a5, .int 3]) ns2
          walk_at "w"
          refine ⟨szr rfl, fun S2 nS2 => ?_⟩
          have t3 := (Wd.refl t2.st).new (o := .lst [.ref s1, .ref s2]) nS2
          have i5 : DAs _ [.ref s1, .ref s2] ([(0, ⟨#[l0]⟩, a5, 1), (2, ⟨#[l1]⟩, a5, 3)].map arcD) :=
            (.cons (t3.da (t2.da (DA.arc (e := (0, ⟨#[l0]⟩, a5, 1)) (v4.here ns1)))) (.one (t3.da (DA.arc (e := (2, ⟨#[l1]⟩, a5, 3)) (t1.here ns2)))))
          have d3 := t3.da (t2.da (t1.da d2))
          have hA12 := (Same.new (o := .lst [.ref s1, .ref s2]) nS2) _ _ ((Same.new (o := .tup [.int 2, .str ⟨#[l1]⟩, .str a5, .int 3]) ns2) _ _ hA11)
          have v5 := ((v4.trans t1).trans t2).trans t3
          have hS2 := t2.here (o := .lst [.ref s1, .ref s2]) nS2
          have i3 := t3.da (t2.da (t1.da i2))
          generalize upd (upd (upd H7 s1 (.tup [.int 0, .str ⟨#[l0]⟩, .str a5, .int 1])) s2 (.tup [.int 2, .str ⟨#[l1]⟩, .str a5, .int 3])) S2 (.lst [.ref s1, .ref s2]) = H8 at *
          obtain ⟨D', yl, e, hD', hyl⟩ := d3.lst_inv
          cases e
          have hyn := hyl.len
          rw [List.length_map] at hyn
          refine ⟨D, S2, _, _, rfl, rfl, hide_le _ _ _ _ hD', hide_le _ _ _ _ hS2, by rw [hyn]; exact szle (by show ll.length + 2 ≤ _; omega), fun D2 nD2 => ?_⟩
          have v6 := (Wd.refl v5.st).new (o := .lst (yl ++ [.ref s1, .ref s2])) nD2
          refine ⟨_, _, ll ++ [(0, ⟨#[l0]⟩, a5, 1), (2, ⟨#[l1]⟩, a5, 3)], [(1, a3), (3, a4)], _, _, _, rfl, v5.trans v6, (Same.new nD2) _ _ hA12, .lst (v5.here nD2) (v6.das (by rw [List.map_append]; exact hyl.append i5)), v6.da i3, by rw [List.length_append]; show ll.length + 2 ≤ 20; omega, Nat.le_of_ble_eq_true rfl, ?_, sok 1 (by decide) (by decide)⟩
          intro e he
          rcases List.mem_append.mp he with he | he
          · exact hll e he
          rcases List.mem_cons.mp he with rfl | he
          · exact ⟨⟨(by decide : (0 : Int) ≤ 0), (by decide : (0 : Int) < 4)⟩, ⟨l0, hl0, rfl⟩, m5.mono (by decide), (by decide : (0 : Int) ≤ 1), (by decide : (1 : Int) < 4)⟩
          · exact mem_one ⟨⟨(by decide : (0 : Int) ≤ 2), (by decide : (2 : Int) < 4)⟩, ⟨l1, hl1, rfl⟩, m5.mono (by decide), (by decide : (0 : Int) ≤ 3), (by decide : (3 : Int) < 4)⟩ e he
      rintro σ H9 ⟨vl, vs, ll, ls, x, y, u, rfl, w9, hA9, dl9, ds9, bl9, bs9, al9, as9⟩
      walk_at "w"
      refine ⟨szr rfl, fun q3 nq3 => ?_⟩
      have c1' := (Wd.refl w9.st).new (o := .tup [.int 0, .str a0]) nq3
      have hA13 : upd H9 q3 (.tup [.int 0, .str a0]) A0 = _ := (Same.new nq3) _ _ hA9
      walk_at "w"
      refine ⟨szr rfl, fun q4 nq4 => ?_⟩
      have c2' := (Wd.refl c1'.st).new (o := .tup [.int 2, .str c1]) nq4
      walk_at "w"
      refine ⟨szr rfl, fun q5 nq5 => ?_⟩
      have c3' := (Wd.refl c2'.st).new (o := .lst [.ref q3, .ref q4]) nq5
      walk_at "w"
      refine ⟨szr rfl, fun q nq => ?_⟩
      have c4' := (Wd.refl c3'.st).new (o := .tup [.str rd, .str wr, .int 4, .ref q5, vl, vs]) nq
      exact k _ _ ⟨rd, wr, 4, [(0, a0), (2, c1)], ll, ls⟩ ((((w9.trans c1').trans c2').trans c3').trans c4')
        (DA.parts (M := ⟨rd, wr, 4, [(0, a0), (2, c1)], ll, ls⟩) (c3'.here nq) (c4'.da (.lst (c2'.here nq5) (.cons (c3'.da (c2'.da (DA.side (e := (0, a0)) (w9.here nq3)))) (.one (c3'.da (DA.side (e := (2, c1)) (c1'.here nq4)))))))
          (c4'.da (c3'.da (c2'.da (c1'.da dl9)))) (c4'.da (c3'.da (c2'.da (c1'.da ds9)))))
        ⟨hR, hW, (by decide : (0 : Int) ≤ 4), (by decide : (4 : Int) ≤ 8), fun e he => by
          rcases List.mem_cons.mp he with rfl | he
          · exact ⟨(by decide : (0 : Int) ≤ 0), (by decide : (0 : Int) < 4), m0.mono (by decide)⟩
          · exact mem_one ⟨(by decide : (0 : Int) ≤ 2), (by decide : (2 : Int) < 4), mc.mono (by decide)⟩ e he,
        fun e he => (al9 e he).mono (by decide), fun e he => (as9 e he).mono (by decide), (by decide : 2 ≤ 80), by show ll.length ≤ 80; omega, by show ls.length ≤ 80; omega⟩ (fun h => nomatch h)
end
end GJ


set_option Elab.async false
set_option linter.all false
set_option maxRecDepth 100000
set_option maxHeartbeats 4000000
namespace GJ
open PySem PySem.Spec PyProof.Rows L2 TL
set_option pp.maxSteps 300
def MidD (z : Zz) (H0 : Hp) (D A0 : Addr) (rd wr : Str) (n : Nat) (fi : Str) (hs : List Str) (m s : Nat) (k : Option V) (le go ow tu : Option V → Prop) : L2.St → Hp → Prop := fun σ H' => ∃ (ys : List V) (es : List PyData) (vs : V) (ls : List Side) (x1 x2 x3 x4 x5 x6 : Option V),
  σ = [some (.ref z.s), some (.str rd), some (.str wr), some (.int (n : Int)), some (.ref A0), some (.str fi), some (.ref D), some vs, k, x1, x2, x3, x4, x5, x6] ∧ le x1 ∧ go x2 ∧ ow x3 ∧ tu x4 ∧ Lg z H0 D H' ys es ∧ es.length ≤ m ∧ (∀ d ∈ es, Ad (2 * (n : Int)) rd wr 10 d) ∧
  DA (hide (z.add D) H') vs (.list (ls.map sideD)) ∧ ls.length ≤ s ∧ (∀ e ∈ ls, SOk (2 * (n : Int)) wr 10 e)
theorem at_str {xs : List Str} {i : Int} (h0 : 0 ≤ i) (h1 : i < xs.length) : ∃ v ∈ xs, atI (xs.map V.str) i = some (.str v) := by
  obtain ⟨x, x1, x2⟩ := at_nn (xs := xs.map V.str) h0 (by rw [List.length_map]; exact h1)
  rw [List.getElem?_map] at x1
  cases q : xs[i.toNat]? with
  | none => rw [q] at x1; cases x1
  | some v =>
    rw [q] at x1
    cases x1
    exact ⟨v, List.mem_of_getElem? q, x2⟩
theorem Wo.mul1 {wr x : Str} {m : Nat} (h : Wo wr m x) {n : Int} (hn : n ≤ 1) : Wo wr m (Txt.mul x n) := (h.mul n).mono (by
  have : n.toNat ≤ 1 := by omega
  calc n.toNat * m ≤ 1 * m := Nat.mul_le_mul_right m this
    _ = m := Nat.one_mul m)
theorem joinT {T W : Hp → Prop} {G : Prop} (main : (∀ H7, W H7 → T H7) → G) (tail : ∀ H7, W H7 → T H7) : G := main tail
abbrev Any : Option V → Prop := fun _ => True
section
variable {P : Program} {w : World} {K : PySem.W.Frag} {mg : Str → Option Value} {base : Heap}
set_option hygiene false in
local macro_rules | `(tactic| walk_at "w") => `(tactic| repeat (first
  | refine ⟨_, rfl, ?_⟩
  | refine ⟨_, _, rfl, rfl, (by first | decide | omega), fun r r0 r1 re => ?_⟩
  | refine ⟨_, _, rfl, rfl, (by first | exact Or.inl ⟨by omega, by omega⟩ | exact Or.inr ⟨by omega, by omega⟩ : CMul _ _), ?_⟩
  | refine ⟨_, _, rfl, rfl, (by first | exact ⟨by decide, by decide⟩ | exact ⟨by omega, by omega⟩ : CDiv _ _), ?_⟩
  | refine ⟨_, _, rfl, rfl, (by exact ⟨by decide, by decide, by decide⟩ : CPow _ _), ?_⟩
  | refine ⟨_, _, rfl, rfl, ?_⟩
  | refine ⟨(by rfl : scal _ _ = true), ?_⟩
  | refine Or.inl ⟨_, rfl, ?_⟩
  | refine ⟨_, _, rfl, fun m m0 m1 m2 => ?_⟩
  | refine ⟨_, _, _, _, rfl, rfl, SqL.of (by first | assumption | exact upd_same | exact fx _ | exact fy _), rfl, ?_⟩
  | refine ⟨_, _, _, _, rfl, rfl, (by first | assumption | exact upd_same | exact fx _ | exact fy _), rfl, ?_⟩
  | refine ⟨_, _, _, _, rfl, rfl, SqT.of (by first | assumption | exact upd_same | exact fx _ | exact fy _), rfl, ?_⟩
  | refine ⟨(szle (by omega) : Str.length _ ≤ sizeLine), ?_⟩
  | refine ⟨(szle (by first | omega | (rw [sla]; omega) | (rw [sla, sla]; omega)) : Str.length _ + Str.length _ ≤ sizeLine), ?_⟩
  | refine ⟨_, _, rfl, len_lst (by first | assumption | exact upd_same | exact fx _ | exact fy _), ?_⟩))
set_option hygiene false in
local macro_rules | `(tactic| walk_at "if") => `(tactic| (refine ite2 (fun hc => ?_) (fun hc => ?_) <;>
  simp only [decide_eq_true_eq, Bool.not_eq_true', decide_eq_false_iff_not, V.int.injEq, V.str.injEq, V.bl.injEq, Decidable.not_not, Bool.not_eq_true, V.int_ne, Int.not_lt, Int.not_le, Bool.true_eq_false, Bool.false_eq_true, not_true_eq_false, not_false_eq_true] at hc))
set_option hygiene false in
local macro_rules | `(tactic| walk_at "new") => `(tactic| (refine ⟨by first | decide | (simp only [List.length_cons, List.length_nil, List.length_append, List.length_map]; first | decide | (rw [sizeLine_eq]; omega)), fun p np => ?_⟩))
set_option hygiene false in
local macro_rules | `(tactic| walk_at "yes") => `(tactic| refine itY (by first | rfl | exact decide_eq_true (by first | rfl | omega | assumption) | (simp only [decide_eq_true_eq, Bool.not_eq_true', decide_eq_false_iff_not, V.int.injEq, V.str.injEq, V.bl.injEq]; first | omega | assumption)) ?_)
set_option hygiene false in
local macro_rules | `(tactic| walk_at "no") => `(tactic| refine itN (by first | decide | (simp only [decide_eq_true_eq, Bool.not_eq_true', decide_eq_false_iff_not, V.int.injEq, V.str.injEq, V.bl.injEq, Bool.not_eq_true, Decidable.not_not]; first | omega | assumption)) ?_)
def N__law_delayed : List Str := ["_law_store_here", "_law_read", "_law_write", "_law_size", "_law_held", "_law_first", "_law_links", "_law_stops", "_law_k", "_law_letter", "_law_goal", "_law_own", "_law_turn", "_law_word_here", "_law_final"]
theorem sc__law_delayed : FnScope N__law_delayed ["_law_store_here", "_law_read", "_law_write"] (defScope (top 61)) := ⟨rfl, rfl, rfl, by decide +kernel, rfl, by decide +kernel, by decide +kernel⟩
theorem ok__law_delayed (En : Env K mg fas fns prs) : Ok P w K mg base "_law_delayed" 5 ["_law_store_here", "_law_read", "_law_write"] sp_build := by
  refine ok_mk 42 61 En sc__law_delayed (fun _ _ _ _ _ _ us hl => match us, hl with | [_, _, _], _ => rfl) (fun vs H Q E h => ?_) (fun f cdv A outer s H vs Q E hr h => ?_)
  · obtain ⟨z, rd, wr, rfl, _⟩ := h
    rfl
  · obtain ⟨z, rd, wr, rfl, hz, hR, hW, k⟩ := h
    have hr1 := hR.le
    have hw1 := hW.le
    refine ⟨_, (pss_cons
        (ps_set (i := 3) sc__law_delayed.nd rfl (Or.inl rfl) (pe_op op_add pe_int (pe_fn (ok__law_take En) (hr.mono (by decide)) (pa_cons (pv 0) (pa_cons pe_int pa_nil)))))
      (pss_cons
        (ps_setLc (i := 4) (own := [("_law_k", 8)]) (g := gName 8) (tt := tYes) rfl sc__law_delayed.nd rfl rfl (sw_true rfl rfl rfl (by decide +kernel)) (pi_range1 rfl (fr_range En) (pa_cons (pv 3) pa_nil)) (blkOk_by (own := [("_law_k", 8)]) (N := N__law_delayed) (sc := defScope (top 61)) (by decide +kernel)) (fun _ _ _ _ _ => (pg_name (i := 8) sc__law_delayed.nd rfl (Or.inl rfl))) (fun _ _ _ _ _ => pts_nil) (fun _ _ _ _ _ => (pe_fn (ok__law_word En) (hr.mono (by decide)) (pa_cons (pv 0) (pa_cons (pv 2) (pa_cons pe_int pa_nil))))))
      (pss_cons
        (ps_set (i := 5) sc__law_delayed.nd rfl (Or.inl rfl) (pe_fn (ok__law_word En) (hr.mono (by decide)) (pa_cons (pv 0) (pa_cons (pv 2) (pa_cons pe_int pa_nil)))))
      (pss_cons
        (ps_set (i := 6) sc__law_delayed.nd rfl (Or.inl rfl) (pe_lst pa_nil))
      (pss_cons
        (ps_set (i := 7) sc__law_delayed.nd rfl (Or.inl rfl) (pe_lst pa_nil))
      (pss_cons
        (ps_for PassesOwn.never rfl (pi_range1 rfl (fr_range En) (pa_cons (pv 3) pa_nil)) (pg_name (i := 8) sc__law_delayed.nd rfl (Or.inl rfl)) (pss_cons
        (ps_for PassesOwn.never rfl (pi_str (pv 1)) (pg_name (i := 9) sc__law_delayed.nd rfl (Or.inl rfl)) (pss_cons
        (ps_set (i := 10) sc__law_delayed.nd rfl (Or.inl rfl) (pe_fn (ok__law_take En) (hr.mono (by decide)) (pa_cons (pv 0) (pa_cons (pv 3) pa_nil))))
      (pss_cons
        (ps_set (i := 11) sc__law_delayed.nd rfl (Or.inl rfl) (pe_fn (ok__law_word En) (hr.mono (by decide)) (pa_cons (pv 0) (pa_cons (pv 2) (pa_cons pe_int pa_nil)))))
      (pss_one
        (ps_for PassesOwn.never rfl (pi_range1 rfl (fr_range En) (pa_cons pe_int pa_nil)) (pg_name (i := 12) sc__law_delayed.nd rfl (Or.inl rfl)) (pss_one (ps_if (pt_cmpR op_gt (pe_fn (ok__law_take En) (hr.mono (by decide)) (pa_cons (pv 0) (pa_cons pe_int pa_nil))) pe_int (nomark _)) (pss_cons
        (ps_set (i := 13) sc__law_delayed.nd rfl (Or.inl rfl) (pe_op op_add_str (pe_op op_add_str (pe_op op_mulStr (pe_ix (ix_listK (K := K) rfl) (pv 4) (pv 8) (fun _ _ => rfl)) (pe_op op_fdiv (pv 12) pe_int)) (pv 11)) (pe_op op_mulStr (pe_ix (ix_listK (K := K) rfl) (pv 4) (pv 10) (fun _ _ => rfl)) (pe_op op_sub pe_int (pe_op op_modR (pe_callTy call_int1 (by rfl) (fr_int En) bt_int (pa_cons (pv 12) pa_nil)) pe_int)))))
      (pss_one
        (ps_expr (pe_bm PySem.F.plainAttrs_list PySem.F.slot_list_append PySem.F.type_list_append mt_append (pv 6) (pa_cons (pe_tup (pa_cons (pe_op op_add (pe_op op_mul pe_int (pv 8)) (pe_op op_fdiv (pv 12) pe_int)) (pa_cons (pv 9) (pa_cons (pv 13) (pa_cons (pe_op op_add (pe_op op_mul pe_int (pv 10)) (pe_op op_modR (pe_callTy call_int1 (by rfl) (fr_int En) bt_int (pa_cons (pv 12) pa_nil)) pe_int)) pa_nil))))) pa_nil))))) pss_nil)))))))
      (pss_one
        (ps_if (PW.pt (pw_or (pt_cmpR op_eq (pv 8) (pe_op op_sub (pv 3) pe_int) (nomark _)) (pw_or1 (pt_cmpR op_eq (pe_fn (ok__law_take En) (hr.mono (by decide)) (pa_cons (pv 0) (pa_cons pe_int pa_nil))) pe_int (nomark _))))) (pss_cons
        (ps_set (i := 14) sc__law_delayed.nd rfl (Or.inl rfl) (pe_fn (ok__law_word En) (hr.mono (by decide)) (pa_cons (pv 0) (pa_cons (pv 2) (pa_cons pe_int pa_nil)))))
      (pss_one
        (ps_set (i := 7) sc__law_delayed.nd rfl (Or.inl rfl) (pe_op op_cat (pv 7) (pe_lst (pa_cons (pe_tup (pa_cons (pe_op op_mul pe_int (pv 8)) (pa_cons (pv 14) pa_nil))) (pa_cons (pe_tup (pa_cons (pe_op op_add (pe_op op_mul pe_int (pv 8)) pe_int) (pa_cons (pe_op op_add_str (pe_ix (ix_listK (K := K) rfl) (pv 4) (pv 8) (fun _ _ => rfl)) (pv 14)) pa_nil))) pa_nil))))))) pss_nil))))
      (pss_one
        (ps_ret (pe_tup (pa_cons (pv 1) (pa_cons (pv 2) (pa_cons (pe_op op_mul pe_int (pv 3)) (pa_cons (pe_lst (pa_cons (pe_tup (pa_cons pe_int (pa_cons (pe_op op_add_str (pv 5) (pe_ix (ix_listK (K := K) rfl) (pv 4) pe_int (fun _ _ => rfl))) pa_nil))) (pa_cons (pe_tup (pa_cons pe_int (pa_cons (pv 5) pa_nil))) pa_nil))) (pa_cons (pv 6) (pa_cons (pv 7) pa_nil))))))))))))))), ?_⟩
    walk_at "w"
    refine ⟨z, _, rfl, hz, by decide, fun t H1 t0 t1 w1 => ?_⟩
    walk_at "w"
    obtain ⟨n, hn⟩ : ∃ n : Nat, 1 + t = (n : Int) := ⟨(1 + t).toNat, by omega⟩
    simp only [hn]
    have n1 : 1 ≤ n := by omega
    have n3 : n ≤ 3 := by omega
    refine ⟨by omega, by omega, fun A0 nA => lc_rngW hz w1 nA (by omega) (fun _ d => ∃ x, d = .str x ∧ Wo wr 2 x) (fun _ => rfl) ?_ ?_⟩
    · intro i H2 R hi w2 hR2
      walk_at "w"
      refine ⟨z.add A0, wr, 2, rfl, w2.st, hW.ne, by omega, by decide, fun x H3 hx w3 => ?_⟩
      exact hR2 _ H3 _ w3 (.str x) ⟨x, rfl, hx⟩
    intro H2 ys ds g hl hP
    obtain ⟨hs, rfl, e2, hhs⟩ := strs_of g.it hP
    have hsl : hs.length = n := by rw [e2, hl]; omega
    have hA := g.hd
    have w2 := g.wd
    walk_at "w"
    refine ⟨z, wr, 1, rfl, w2.st, hW.ne, by omega, by decide, fun fi H3 hfi w3 => ?_⟩
    have hA3 := w3.up _ _ hA
    replace w3 := w2.trans w3
    walk_at "w"
    refine ⟨szr rfl, fun D nD => ?_⟩
    have g0 := Lg.start w3.st (Wd.refl w3.st) nD
    walk_at "w"
    refine ⟨szr rfl, fun S0 nS => ?_⟩
    have g1 := g0.step ((Wd.refl g0.st).new (o := .lst []) nS)
    have hS := (Wd.refl g0.st).here (o := .lst []) nS
    walk_at "w"
    refine ⟨by omega, by omega, for_range (lo := 0) (n := (n : Int).toNat) (fun i σ H' => ∃ k, MidD z H3 D A0 rd wr n fi hs (12 * i) (2 * i) k Any Any Any Any σ H') ?_ ?_ ?_⟩
    · exact ⟨_, _, _, _, [], _, _, _, _, _, _, rfl, .intro, .intro, .intro, .intro, g1, Nat.le_refl _, fun d h => (nomatch h), .lst hS .nil, Nat.le_refl _, fun d h => (nomatch h)⟩
    · rintro i σ H5 hi ⟨_, ys, es, vs, ls, x1, x2, x3, x4, x5, x6, rfl, -, -, -, -, g, c1, c2, c3, c4, c5⟩
      have hin : i < n := by omega
      walk_at "w"
      refine for_it walk_str (fun j σ H' => MidD z H3 D A0 rd wr n fi hs (12 * i + 4 * j) (2 * i) (some (.int (0 + (i : Int)))) Any Any Any Any σ H') ?_ (fun _ _ _ _ _ => True.intro) ?_ ?_
      · exact ⟨_, _, _, _, _, _, _, _, _, _, rfl, .intro, .intro, .intro, .intro, g, c1, c2, c3, c4, c5⟩
      · rintro j v σ H6 _ hj ⟨ys, es, vs, ls, x1, x2, x3, x4, x5, x6, rfl, -, -, -, -, g, c1, c2, c3, c4, c5⟩ ⟨rfl, c, hc1, rfl⟩
        have hc : c ∈ tl rd := by
          have : (tl rd)[j]? = some c := by rw [← hc1]; simp [TL.tl]
          exact List.mem_of_getElem? this
        have hc' := hc
        have hj3 : j < 3 := by rw [show rd.cps.size = (tl rd).length from rfl] at hj; omega
        walk_at "w"
        refine ⟨z.add D, _, rfl, g.st, by omega, fun q H7 q0 q1 w7 => ?_⟩
        have hq : q < n := by omega
        walk_at "w"
        refine ⟨z.add D, wr, 2, rfl, w7.st, hW.ne, by omega, by decide, fun ow H8 how w8 => ?_⟩
        have g8 := g.step (w7.trans w8)
        replace c3 := (w7.trans w8).da c3
        walk_at "w"
        refine ⟨by omega, by omega, for_range (lo := 0) (n := (4 : Int).toNat) (fun l σ H' => MidD z H3 D A0 rd wr n fi hs (12 * i + 4 * j + l) (2 * i) (some (.int (0 + (i : Int)))) (· = some (.str ⟨#[c]⟩)) (· = some (.int q)) (· = some (.str ow)) Any σ H') ?_ ?_ ?_⟩
        · exact ⟨_, _, _, _, _, _, _, _, _, _, rfl, rfl, rfl, rfl, .intro, g8, c1, c2, c3, c4, c5⟩
        · rintro l σ H9 hl4 ⟨ys, es, vs, ls, x1, x2, x3, x4, x5, x6, rfl, rfl, rfl, rfl, -, g, c1, c2, c3, c4, c5⟩
          have hl4' : l < 4 := hl4
          walk_at "w"
          refine ⟨z.add D, _, rfl, g.st, by decide, fun u H10 u0 u1 w10 => ?_⟩
          have g10 := g.step w10
          replace c3 := w10.da c3
          have hA10 : hide z H10 A0 = _ := g10.wd.up _ _ hA3
          have hA11 := hide_le _ _ _ _ hA10
          walk_at "w"
          walk_at "if"
          · obtain ⟨a, a1, a2⟩ := at_str (xs := hs) (i := 0 + (i : Int)) (by omega) (by omega)
            obtain ⟨b, b1, b2⟩ := at_str (xs := hs) (i := q) (by omega) (by omega)
            have ha := hhs a a1
            have hb := hhs b b1
            have hal : a.length ≤ 2 := ha.1
            have hbl : b.length ≤ 2 := hb.1
            have howl : ow.length ≤ 2 := how.1
            have hA1 := ha.mul1 (n := (0 + (l : Int)) / 2) (by omega)
            have hal1 := hA1.1
            rw [← tl_len] at hal1
            walk_at "w"
            refine ⟨A0, _, _, _, rfl, rfl, SqL.of hA11, a2, ?_⟩
            walk_at "w"
            refine ⟨by omega, by omega, by omega, ?_⟩
            walk_at "w"
            refine ⟨A0, _, _, _, rfl, rfl, SqL.of hA11, b2, ?_⟩
            walk_at "w"
            obtain ⟨r', hr'⟩ : ∃ r', r' = r := ⟨r, rfl⟩
            subst hr'
            have hB1 := hb.mul1 (n := 1 - r') (by omega)
            have hbl1 := hB1.1
            rw [← tl_len] at hbl1
            refine ⟨by omega, by omega, by omega, ?_⟩
            walk_at "w"
            refine ⟨Or.inl ⟨rfl, _, SqL.of g10.at_⟩, ?_⟩
            walk_at "w"
            refine ⟨szr rfl, fun p np => ?_⟩
            have wq := (Wd.refl g10.st).new (o := .tup [.int (2 * (0 + (i : Int)) + (0 + (l : Int)) / 2), .str ⟨#[c]⟩, .str (Txt.mul a ((0 + (l : Int)) / 2) ++ ow ++ Txt.mul b (1 - r')), .int (2 * q + r)]) np
            have g11 := g10.step wq
            walk_at "w"
            refine ⟨_, _, _, rfl, rfl, g11.at_, by rw [g11.len]; exact small5 (by omega), ?_⟩
            refine ⟨_, _, _, _, _, _, _, _, _, _, rfl, rfl, rfl, rfl, .intro, g11.app (DA.arc (e := (2 * (0 + (i : Int)) + (0 + (l : Int)) / 2, ⟨#[c]⟩, Txt.mul a ((0 + (l : Int)) / 2) ++ ow ++ Txt.mul b (1 - r'), 2 * q + r)) ((Wd.refl g10.st).here np)), by rw [List.length_append]; show es.length + 1 ≤ _; omega, mem_snoc c2 ⟨_, rfl, ⟨?_, ?_⟩, ⟨c, hc', rfl⟩, (((hA1.app how).app hB1).mono (by decide)), ?_, ?_⟩, (wq.da c3).up (hide_upd z _ D _), c4, c5⟩
            · show (0 : Int) ≤ 2 * (0 + (i : Int)) + (0 + (l : Int)) / 2
              omega
            · show 2 * (0 + (i : Int)) + (0 + (l : Int)) / 2 < 2 * (n : Int)
              omega
            · show (0 : Int) ≤ 2 * q + r
              omega
            · show 2 * q + r < 2 * (n : Int)
              omega
          · exact ⟨_, _, _, _, _, _, _, _, _, _, rfl, rfl, rfl, rfl, .intro, g10, by omega, c2, c3, c4, c5⟩
        · rintro σ H9 ⟨ys, es, vs, ls, x1, x2, x3, x4, x5, x6, rfl, -, -, -, -, g, c1, c2, c3, c4, c5⟩
          exact ⟨_, _, _, _, _, _, _, _, _, _, rfl, .intro, .intro, .intro, .intro, g, by omega, c2, c3, c4, c5⟩
      · rintro σ H6 ⟨ys, es, vs, ls, x1, x2, x3, x4, x5, x6, rfl, -, -, -, -, g, c1, c2, c3, c4, c5⟩
        have c1' : es.length ≤ 12 * (i + 1) := by rw [show rd.cps.size = (tl rd).length from rfl] at c1; omega
        have hA6 := g.wd.up _ _ hA3
        obtain ⟨a, a1, a2⟩ := at_str (xs := hs) (i := 0 + (i : Int)) (by omega) (by omega)
        have ha := hhs a a1
        have hal : a.length ≤ 2 := ha.1
        have i0 : (0 : Int) ≤ 2 * (0 + (i : Int)) := by omega
        have i1 : 2 * (0 + (i : Int)) + 1 < 2 * (n : Int) := by omega
        walk_at "w"
        apply joinT (W := Wd (z.add D) H6)
        · intro tail
          by_cases hc : (0 : Int) + (i : Int) = (n : Int) - 1
          · walk_at "yes"
            walk_at "yes"
            exact tail H6 (Wd.refl g.st)
          · walk_at "no"
            walk_at "w"
            refine ⟨z.add D, _, rfl, g.st, by decide, fun u H10 u0 u1 w10 => ?_⟩
            walk_at "w"
            walk_at "if"
            · exact tail H10 w10
            · exact ⟨_, _, _, _, _, _, _, _, _, _, _, rfl, .intro, .intro, .intro, .intro, g.step w10, c1', c2, w10.da c3, by omega, c5⟩
        intro H7 w7
        have g7 := g.step w7
        replace c3 := w7.da c3
        replace hA6 := g7.wd.up _ _ hA3
        walk_at "w"
        refine ⟨z.add D, wr, 2, rfl, g7.st, hW.ne, by omega, by decide, fun x H7 hx w7 => ?_⟩
        have g8 := g7.step w7
        have d8 := w7.da c3
        have hA8 := hide_le _ _ _ _ (g8.wd.up _ _ hA3)
        have hxl : x.length ≤ 2 := hx.1
        obtain ⟨S1, yl, rfl, hS1, hyl⟩ := d8.lst_inv
        have hyn := hyl.len
        rw [List.length_map] at hyn
        walk_at "w"
        refine ⟨szr rfl, fun r1 nr1 => ?_⟩
        have u1 := (Wd.refl g8.st).new (o := .tup [.int (2 * (0 + (i : Int))), .str x]) nr1
        have hA9 : upd H7 r1 (.tup [.int (2 * (0 + (i : Int))), .str x]) A0 = _ := (Same.new nr1) _ _ hA8
        walk_at "w"
        refine ⟨A0, _, _, _, rfl, rfl, SqL.of hA9, a2, ?_⟩
        walk_at "w"
        refine ⟨szr rfl, fun r2 nr2 => ?_⟩
        have u2 := (Wd.refl u1.st).new (o := .tup [.int (2 * (0 + (i : Int)) + 1), .str (a ++ x)]) nr2
        walk_at "w"
        refine ⟨szr rfl, fun r3 nr3 => ?_⟩
        have u3 := (Wd.refl u2.st).new (o := .lst [.ref r1, .ref r2]) nr3
        have hr3 := u2.here (o := .lst [.ref r1, .ref r2]) nr3
        have i2 : DAs _ [.ref r1, .ref r2] ([(2 * (0 + (i : Int)), x), (2 * (0 + (i : Int)) + 1, a ++ x)].map sideD) :=
          (.cons (u3.da (u2.da (DA.side (e := (2 * (0 + (i : Int)), x)) ((Wd.refl g8.st).here nr1)))) (.one (u3.da (DA.side (e := (2 * (0 + (i : Int)) + 1, a ++ x)) (u1.here nr2)))))
        have uu := (u1.trans u2).trans u3
        generalize upd (upd (upd H7 r1 (.tup [.int (2 * (0 + (i : Int))), .str x])) r2 (.tup [.int (2 * (0 + (i : Int)) + 1), .str (a ++ x)])) r3 (.lst [.ref r1, .ref r2]) = H9 at *
        have hS2 := uu.up _ _ hS1
        refine ⟨S1, r3, yl, _, rfl, rfl, hide_le _ _ _ _ hS2, hide_le _ _ _ _ hr3, by rw [hyn]; exact szle (by show ls.length + 2 ≤ _; omega), fun S3 nS3 => ?_⟩
        have v6 := (Wd.refl uu.st).new (o := .lst (yl ++ [.ref r1, .ref r2])) nS3
        refine ⟨_, _, _, _, ls ++ [(2 * (0 + (i : Int)), x), (2 * (0 + (i : Int)) + 1, a ++ x)], _, _, _, _, _, _, rfl, .intro, .intro, .intro, .intro, g8.step (uu.trans v6), c1', c2, .lst (uu.here nS3) (v6.das (by rw [List.map_append]; exact (uu.das hyl).append i2)), by rw [List.length_append]; show ls.length + 2 ≤ _; omega, ?_⟩
        intro e he
        rcases List.mem_append.mp he with he | he
        · exact c5 e he
        rcases List.mem_cons.mp he with rfl | he
        · exact ⟨i0, by show 2 * (0 + (i : Int)) < _; omega, hx.mono (by decide)⟩
        · exact mem_one ⟨by show 0 ≤ 2 * (0 + (i : Int)) + 1; omega, i1, (ha.app hx).mono (by decide)⟩ e he
    · rintro σ H6 ⟨_, ys, es, vs, ls, x1, x2, x3, x4, x5, x6, rfl, -, -, -, -, g, c1, c2, c3, c4, c5⟩
      obtain ⟨ll, rfl, hll⟩ := of_mem c2
      rw [List.length_map] at c1
      have w6 := w3.trans g.wd
      have hA6 := hide_le _ _ _ _ (g.wd.up _ _ hA3)
      obtain ⟨a, a1, a2⟩ := at_str (xs := hs) (i := 0) (by omega) (by omega)
      have ha := hhs a a1
      have hal : a.length ≤ 2 := ha.1
      have hfl : fi.length ≤ 1 := hfi.1
      have dl := g.fin
      have ds := c3.up (hide_drop z H6 D)
      walk_at "w"
      refine ⟨A0, _, _, _, rfl, rfl, SqL.of hA6, a2, ?_⟩
      walk_at "w"
      refine ⟨szr rfl, fun q3 nq3 => ?_⟩
      have c1' := (Wd.refl w6.st).new (o := .tup [.int 0, .str (fi ++ a)]) nq3
      walk_at "w"
      refine ⟨szr rfl, fun q4 nq4 => ?_⟩
      have c2' := (Wd.refl c1'.st).new (o := .tup [.int 1, .str fi]) nq4
      walk_at "w"
      refine ⟨szr rfl, fun q5 nq5 => ?_⟩
      have c3' := (Wd.refl c2'.st).new (o := .lst [.ref q3, .ref q4]) nq5
      walk_at "w"
      refine ⟨szr rfl, fun q nq => ?_⟩
      have c4' := (Wd.refl c3'.st).new (o := .tup [.str rd, .str wr, .int (2 * (n : Int)), .ref q5, .ref D, vs]) nq
      exact k _ _ ⟨rd, wr, 2 * (n : Int), [(0, fi ++ a), (1, fi)], ll, ls⟩ ((((w6.trans c1').trans c2').trans c3').trans c4')
        (DA.parts (M := ⟨rd, wr, 2 * (n : Int), [(0, fi ++ a), (1, fi)], ll, ls⟩) (c3'.here nq) (c4'.da (.lst (c2'.here nq5) (.cons (c3'.da (c2'.da (DA.side (e := (0, fi ++ a)) (w6.here nq3)))) (.one (c3'.da (DA.side (e := (1, fi)) (c1'.here nq4)))))))
          (c4'.da (c3'.da (c2'.da (c1'.da dl)))) (c4'.da (c3'.da (c2'.da (c1'.da ds)))))
        ⟨hR, hW, by show (0 : Int) ≤ 2 * n; omega, by show 2 * (n : Int) ≤ 8; omega, fun e he => by
          rcases List.mem_cons.mp he with rfl | he
          · exact ⟨(by decide : (0 : Int) ≤ 0), by show (0 : Int) < 2 * n; omega, (hfi.app ha).mono (by decide)⟩
          · exact mem_one ⟨(by decide : (0 : Int) ≤ 1), by show (1 : Int) < 2 * n; omega, hfi.mono (by decide)⟩ e he,
        fun e he => (hll e he).mono (by decide), fun e he => (c5 e he).mono (by decide), (by decide : 2 ≤ 80), by show ll.length ≤ 80; omega, by show ls.length ≤ 80; omega⟩ (fun h => nomatch h)
end
end GJ


set_option Elab.async false
set_option linter.all false
set_option maxRecDepth 100000
set_option maxHeartbeats 4000000
namespace GJ
open PySem PySem.Spec PyProof.Rows L2
section
variable {K : PySem.W.Frag} {z : Zz} {H H1 : Hp} {D a : Addr} {te : TE} {tt : TT} {vs : List Nat} {σ : L2.St} {j n : Nat} {lo : Int} {Qd : Hp → Prop} {xs : List V}
def tTru (K : PySem.W.Frag) (ta : TE) : TT := fun σ H Q => ta σ H fun x H' => ∃ k, TruV K x H' k ∧ Q k H'
theorem pt_truthK {X : Cx} {a : Expr} {ta : TE} (h : X.K = K) (ha : PE X a ta) (he : ∀ whole, isTrue a X.env whole = (do let v ← whole; standAt a.pos; holding [v] (truthy v))) :
    PT X a (tTru K ta) := h ▸ pt_truth ha he
/-- [x for x in xs if ..] of values -/
theorem lc_keep (s1 : Same H H1) (nD : H1 D = none) (hx : H a = some (.lst xs)) (hn : xs.length ≤ 100000) (p : Nat → Prop) (hw : Wp σ vs j) (hj : ∀ v, (sl σ vs j v)[j]? = some (some v))
    (hs : ∀ (i : Nat) x H3 (R : Bool → Hp → Prop), xs[i]? = some x → Same H H3 → (∀ b H4, Same H3 H4 → (b = true ↔ p i) → R b H4) → tt (sl σ vs j x) H3 R)
    (hd : ∀ H3 ys, Same H H3 → H3 D = some (.lst ys) → ys.length ≤ xs.length → (∀ v, v ∈ ys ↔ ∃ i : Nat, xs[i]? = some v ∧ p i) → Qd H3) : GoL K a D H1 Qd (gName j) tt (tVar j) σ vs := by
  have nD0 : H D = none := s1.free nD
  refine lc_list (xs := xs) (fun i H' => ∃ (ys : List V), Same H H' ∧ H' D = some (.lst ys) ∧ ys.length ≤ i ∧ ∀ d, d ∈ ys ↔ ∃ m : Nat, m < i ∧ xs[m]? = some d ∧ p m)
    ⟨[], s1.trans (Same.new nD), upd_same, Nat.le_refl _, fun k => ⟨fun h => (nomatch h), fun ⟨m, h, _⟩ => absurd h (Nat.not_lt_zero _)⟩⟩ ?_ ?_ ?_
  · rintro i H3 _ ⟨_, s3, _⟩
    exact SqL.of (s3 _ _ hx)
  · rintro i x H3 hi ⟨ys, s3, hD, hl, hF⟩
    have hi2 := (List.getElem?_eq_some_iff.mp hi).1
    refine ⟨hw _, ?_⟩
    refine hs i x H3 _ hi s3 fun b H4 s4 hb => ?_
    cases b with
    | true =>
      have hp := hb.mp rfl
      refine iteT ⟨_, hj _, ys, s4 _ _ hD, small5 (by omega), ys ++ [x], Same.put (s3.trans s4) nD0, upd_same, by rw [List.length_append]; show ys.length + 1 ≤ i + 1; omega, fun k => ?_⟩
      rw [List.mem_append, hF k, List.mem_singleton]
      constructor
      · rintro (⟨m, h1, h2, h3⟩ | rfl)
        · exact ⟨m, by omega, h2, h3⟩
        · exact ⟨i, by omega, hi, hp⟩
      · rintro ⟨m, h1, h2, h3⟩
        by_cases hm : m = i
        · subst hm; rw [hi] at h2; exact .inr (Option.some.inj h2).symm
        · exact .inl ⟨m, by omega, h2, h3⟩
    | false =>
      have hp : ¬ p i := fun h => by have := hb.mpr h; cases this
      refine iteF ⟨ys, s3.trans s4, s4 _ _ hD, by omega, fun k => ?_⟩
      rw [hF k]
      constructor
      · rintro ⟨m, h1, h2, h3⟩
        exact ⟨m, by omega, h2, h3⟩
      · rintro ⟨m, h1, h2, h3⟩
        by_cases hm : m = i
        · subst hm; exact absurd h3 hp
        · exact ⟨m, by omega, h2, h3⟩
  · rintro H3 ⟨ys, s3, hD, hl, hF⟩
    refine hd H3 ys s3 hD (by omega) fun d => ?_
    rw [hF d]
    constructor
    · rintro ⟨m, _, h2, h3⟩
      exact ⟨m, h2, h3⟩
    · rintro ⟨m, h2, h3⟩
      exact ⟨m, by have := (List.getElem?_eq_some_iff.mp h2).1; omega, h2, h3⟩
end
end GJ

set_option Elab.async false
set_option linter.all false
set_option maxRecDepth 100000
set_option maxHeartbeats 4000000
namespace GJ
open PySem PySem.Spec PyProof.Rows L2 TL
set_option pp.maxSteps 300
theorem DA.parts_inv {H : Hp} {v : V} {M : Parts} (h : DA H v (partsD M)) : ∃ p b a e xb xa xe, v = .ref p ∧ H p = some (.tup [.str M.rd, .str M.wr, .int M.n, .ref b, .ref a, .ref e]) ∧ H b = some (.lst xb) ∧ H a = some (.lst xa) ∧ H e = some (.lst xe) ∧
    DAs H xb (M.bs.map sideD) ∧ DAs H xa (M.as.map arcD) ∧ DAs H xe (M.es.map sideD) := by
  obtain ⟨p, xs, rfl, hp, hx⟩ := h.tup_inv
  obtain ⟨v1, _, rfl, i1, hx⟩ := hx.cons_inv
  obtain ⟨v2, _, rfl, i2, hx⟩ := hx.cons_inv
  obtain ⟨v3, _, rfl, i3, hx⟩ := hx.cons_inv
  obtain ⟨v4, _, rfl, i4, hx⟩ := hx.cons_inv
  obtain ⟨v5, _, rfl, i5, hx⟩ := hx.cons_inv
  obtain ⟨v6, _, rfl, i6, hx⟩ := hx.cons_inv
  obtain rfl := hx.nil_inv
  obtain rfl := i1.str_inv
  obtain rfl := i2.str_inv
  obtain rfl := i3.int_inv
  obtain ⟨b, xb, rfl, h4, j4⟩ := i4.lst_inv
  obtain ⟨a, xa, rfl, h5, j5⟩ := i5.lst_inv
  obtain ⟨e, xe, rfl, h6, j6⟩ := i6.lst_inv
  exact ⟨p, b, a, e, xb, xa, xe, rfl, hp, h4, h5, h6, j4, j5, j6⟩
theorem hide_mem {z : Zz} {H : Hp} {p : Addr} {o : HO} (h : p ∈ z.m) : Same (hide z H) (hide z (upd H p o)) := fun b u e => by
  obtain ⟨n, e2⟩ := hide_some e
  have hb : b ≠ p := fun q => n.2.2 (by rw [q]; exact h)
  exact hide_of n (by rw [upd_ne hb]; exact e2)
theorem map_mem {α : Type} {f : α → PyData} {l : List α} {d : PyData} (h : d ∈ l.map f) : ∃ x ∈ l, d = f x := by
  obtain ⟨x, h1, h2⟩ := List.mem_map.mp h
  exact ⟨x, h1, h2.symm⟩
theorem nonE {α : Type} {f : α → PyData} {H : Hp} {xs : List V} {l : List α} (h : DAs H xs (l.map f)) : (!xs.isEmpty) = !l.isEmpty := by
  have := h.len
  rw [List.length_map] at this
  cases xs with
  | nil => cases l with
    | nil => rfl
    | cons a b => exact nomatch this
  | cons c d => cases l with
    | nil => exact nomatch this
    | cons a b => rfl
theorem Wd.lift {z : Zz} {H H' : Hp} {p : Addr} (w : Wd z H H') (h : St (z.add p) H) : Wd (z.add p) H H' := by
  obtain ⟨a, b, c⟩ := w.st
  refine ⟨⟨a, b, fun q hq => ?_⟩, w.kp⟩
  obtain ⟨ns, i, x, t, d, h1, h2, _⟩ := b
  by_cases e1 : q = z.s
  · exact ⟨_, by rw [e1]; exact h1⟩
  by_cases e2 : q = z.c
  · exact ⟨_, by rw [e2]; exact h2⟩
  obtain ⟨o, ho⟩ := h.2.2 q hq
  exact ⟨o, w.kp q o e1 e2 ho⟩
section
variable {P : Program} {w : World} {K : PySem.W.Frag} {mg : Str → Option Value} {base : Heap}
set_option hygiene false in
local macro_rules | `(tactic| walk_at "w") => `(tactic| repeat (first
  | refine ⟨_, rfl, ?_⟩
  | refine ⟨_, _, rfl, rfl, (by first | decide | omega), fun r r0 r1 re => ?_⟩
  | refine ⟨_, _, rfl, rfl, (by first | exact Or.inl ⟨by omega, by omega⟩ | exact Or.inr ⟨by omega, by omega⟩ : CMul _ _), ?_⟩
  | refine ⟨_, _, rfl, rfl, (by first | exact ⟨by decide, by decide⟩ | exact ⟨by omega, by omega⟩ : CDiv _ _), ?_⟩
  | refine ⟨_, _, rfl, rfl, (by exact ⟨by decide, by decide, by decide⟩ : CPow _ _), ?_⟩
  | refine ⟨_, _, rfl, rfl, ?_⟩
  | refine ⟨(by rfl : scal _ _ = true), ?_⟩
  | refine Or.inl ⟨_, rfl, ?_⟩
  | refine ⟨_, _, rfl, fun m m0 m1 m2 => ?_⟩
  | refine ⟨_, _, _, _, rfl, rfl, SqL.of (by first | assumption | exact upd_same | exact fx _ | exact fy _), rfl, ?_⟩
  | refine ⟨_, _, _, _, rfl, rfl, (by first | assumption | exact upd_same | exact fx _ | exact fy _), rfl, ?_⟩
  | refine ⟨_, _, _, _, rfl, rfl, SqT.of (by first | assumption | exact upd_same | exact fx _ | exact fy _), rfl, ?_⟩
  | refine ⟨(szle (by omega) : Str.length _ ≤ sizeLine), ?_⟩
  | refine ⟨(szle (by first | omega | (rw [sla]; omega) | (rw [sla, sla]; omega)) : Str.length _ + Str.length _ ≤ sizeLine), ?_⟩
  | refine ⟨_, _, rfl, len_lst (by first | assumption | exact upd_same | exact fx _ | exact fy _), ?_⟩))
set_option hygiene false in
local macro_rules | `(tactic| walk_at "if") => `(tactic| (refine ite2 (fun hc => ?_) (fun hc => ?_) <;>
  simp only [decide_eq_true_eq, Bool.not_eq_true', decide_eq_false_iff_not, V.int.injEq, V.str.injEq, V.bl.injEq, Decidable.not_not, Bool.not_eq_true, V.int_ne, Int.not_lt, Int.not_le, Bool.true_eq_false, Bool.false_eq_true, not_true_eq_false, not_false_eq_true] at hc))
set_option hygiene false in
local macro_rules | `(tactic| walk_at "new") => `(tactic| (refine ⟨by first | decide | (simp only [List.length_cons, List.length_nil, List.length_append, List.length_map]; first | decide | (rw [sizeLine_eq]; omega)), fun p np => ?_⟩))
set_option hygiene false in
local macro_rules | `(tactic| walk_at "yes") => `(tactic| refine itY (by first | rfl | exact decide_eq_true (by first | rfl | omega | assumption) | (simp only [decide_eq_true_eq, Bool.not_eq_true', decide_eq_false_iff_not, V.int.injEq, V.str.injEq, V.bl.injEq]; first | omega | assumption)) ?_)
set_option hygiene false in
local macro_rules | `(tactic| walk_at "no") => `(tactic| refine itN (by first | decide | (simp only [decide_eq_true_eq, Bool.not_eq_true', decide_eq_false_iff_not, V.int.injEq, V.str.injEq, V.bl.injEq, Bool.not_eq_true, Decidable.not_not]; first | omega | assumption)) ?_)
def sp_forked : Sp := fun vs H Q _ => ∃ (z : Zz) (v : V) (M : Parts), vs = [.ref z.s, v] ∧ St z H ∧ DA (hide z H) v (partsD M) ∧ PVL 40 80 M ∧ M.bs ≠ [] ∧
  ∀ v' H' M', Wd z H H' → DA (hide z H') v' (partsD M') → PV M' → Q v' H'
def N__law_forked : List Str := ["_law_store_here", "_law_parts", "_law_lists", "_law_row", "_law_entry", "_law_at", "_law_x"]
theorem sc__law_forked : FnScope N__law_forked ["_law_store_here", "_law_parts"] (defScope (top 62)) := ⟨rfl, rfl, rfl, by decide +kernel, rfl, by decide +kernel, by decide +kernel⟩
theorem ok__law_forked (En : Env K mg fas fns prs) : Ok P w K mg base "_law_forked" 5 ["_law_store_here", "_law_parts"] sp_forked := by
  refine ok_mk 43 62 En sc__law_forked (fun _ _ _ _ _ _ us hl => match us, hl with | [_, _], _ => rfl) (fun vs H Q E h => ?_) (fun f cdv A outer s H vs Q E hr h => ?_)
  · obtain ⟨z, v, M, rfl, _⟩ := h
    rfl
  · obtain ⟨z, v, M, rfl, hz, hv, hPV, hne, k⟩ := h
    obtain ⟨p, b, a, e, xb, xa, xe, rfl, hp, hb, ha, he, jb, ja, je⟩ := hv.parts_inv
    have hp0 := hide_le _ _ _ _ hp
    refine ⟨_, (pss_cons
        (ps_set (i := 2) sc__law_forked.nd rfl (Or.inl rfl) (pe_lst (pa_cons (pe_callTy (call_list_ofK (K := K) rfl) (by rfl) (fr_list En) bt_list (pa_cons (pe_ix (ix_tupK (K := K) rfl) (pv 1) pe_int (fun _ _ => rfl)) pa_nil)) (pa_cons (pe_callTy (call_list_ofK (K := K) rfl) (by rfl) (fr_list En) bt_list (pa_cons (pe_ix (ix_tupK (K := K) rfl) (pv 1) pe_int (fun _ _ => rfl)) pa_nil)) (pa_cons (pe_callTy (call_list_ofK (K := K) rfl) (by rfl) (fr_list En) bt_list (pa_cons (pe_ix (ix_tupK (K := K) rfl) (pv 1) pe_int (fun _ _ => rfl)) pa_nil)) pa_nil)))))
      (pss_cons
        (ps_set (i := 3) sc__law_forked.nd rfl (Or.inl rfl) (pe_fn (ok__law_pick En) (hr.mono (by decide)) (pa_cons (pv 0) (pa_cons (pe_lc (own := [("_law_x", 6)]) (g := gName 6) (tt := _) rfl sc__law_forked.nd (pi_listK (K := K) rfl (pv 2)) (blkOk_by (own := [("_law_x", 6)]) (N := N__law_forked) (sc := defScope (top 62)) (by decide +kernel)) (fun _ _ _ _ _ => (pg_name (i := 6) sc__law_forked.nd rfl (Or.inl rfl))) (fun _ _ _ _ _ => (pts_one (pt_truthK (K := K) rfl (pv 6) (by intro _; rfl)))) (fun _ _ _ _ _ => (pv 6))) pa_nil))))
      (pss_cons
        (ps_set (i := 4) sc__law_forked.nd rfl (Or.inl rfl) (pe_callTy (call_list_ofK (K := K) rfl) (by rfl) (fr_list En) bt_list (pa_cons (pe_fn (ok__law_pick En) (hr.mono (by decide)) (pa_cons (pv 0) (pa_cons (pv 3) pa_nil))) pa_nil)))
      (pss_cons
        (ps_set (i := 5) sc__law_forked.nd rfl (Or.inl rfl) (pe_op op_add pe_int (pe_callTy call_int1 (by rfl) (fr_int En) bt_int (pa_cons (pe_cmpR op_eq (pe_callB (call_lenK (K := K) rfl) (by rfl) (fr_len En) bt_len (pa_cons (pv 4) pa_nil)) pe_int (nomark _)) pa_nil))))
      (pss_cons
        (ps_asg (pe_fn (ok__law_unlike_word En) (hr.mono (by decide)) (pa_cons (pv 0) (pa_cons (pe_ix (ix_tupK (K := K) rfl) (pv 1) pe_int (fun _ _ => rfl)) (pa_cons (pe_ix (ix_listK (K := K) rfl) (pv 4) (pv 5) (fun _ _ => rfl)) pa_nil)))) (pg_sub (pv 4) (pv 5) set_list))
      (pss_cons
        (ps_expr (pe_bm PySem.F.plainAttrs_list PySem.F.slot_list_append PySem.F.type_list_append mt_append (pv 3) (pa_cons (pe_callTy call_tuple_of (by rfl) (fr_tuple En) bt_tuple (pa_cons (pv 4) pa_nil)) pa_nil)))
      (pss_one
        (ps_ret (pe_tup (pa_cons (pe_ix (ix_tupK (K := K) rfl) (pv 1) pe_int (fun _ _ => rfl)) (pa_cons (pe_ix (ix_tupK (K := K) rfl) (pv 1) pe_int (fun _ _ => rfl)) (pa_cons (pe_ix (ix_tupK (K := K) rfl) (pv 1) pe_int (fun _ _ => rfl)) (pa_cons (pe_ix (ix_listK (K := K) rfl) (pv 2) pe_int (fun _ _ => rfl)) (pa_cons (pe_ix (ix_listK (K := K) rfl) (pv 2) pe_int (fun _ _ => rfl)) (pa_cons (pe_ix (ix_listK (K := K) rfl) (pv 2) pe_int (fun _ _ => rfl)) pa_nil))))))))))))))), ?_⟩
    walk_at "w"
    refine ⟨_, _, rfl, Or.inl (SqL.of (hide_le _ _ _ _ hb)), fun L0 n0 => ?_⟩
    have g0 : Lg z H L0 _ xb (M.bs.map sideD) := Lg.copy hz (Wd.refl hz) n0 jb
    have hp1 := hide_le _ _ _ _ (g0.wd.up _ _ hp)
    have ha1 := hide_le _ _ _ _ (g0.old _ _ ha)
    generalize upd H L0 (.lst xb) = H1 at *
    walk_at "w"
    refine ⟨_, _, rfl, Or.inl (SqL.of ha1), fun L1 n1 => ?_⟩
    have g1 : Lg (z.add L0) H1 L1 _ xa (M.as.map arcD) := Lg.copy g0.st (Wd.refl g0.st) n1 (ja.up g0.old)
    have hp2 := hide_le _ _ _ _ (g1.wd.up _ _ (g0.old _ _ hp))
    have he2 := hide_le _ _ _ _ (g1.old _ _ (g0.old _ _ he))
    generalize upd H1 L1 (.lst xa) = H2 at *
    walk_at "w"
    refine ⟨_, _, rfl, Or.inl (SqL.of he2), fun L2 n2 => ?_⟩
    have g2 : Lg ((z.add L0).add L1) H2 L2 _ xe (M.es.map sideD) := Lg.copy g1.st (Wd.refl g1.st) n2 (je.up (g0.old.trans g1.old))
    have hp3 := g2.old _ _ (g1.old _ _ (g0.old _ _ hp))
    generalize upd H2 L2 (.lst xe) = H3 at *
    have k0 := g2.wd.kp _ _ g0.ne.1 g0.ne.2.1 (g1.wd.kp _ _ g0.ne.1 g0.ne.2.1 g0.at_)
    have k1 := g2.wd.kp _ _ g1.ne.1 g1.ne.2.1 g1.at_
    have k2 := g2.at_
    have s3 := g2.st
    have d0 := (g0.it.up g1.old).up g2.old
    have d1 := g1.it.up g2.old
    have d2 := g2.it
    have w3 : Wd z H H3 := (g0.wd.trans g1.wd.drop).trans g2.wd.drop.drop
    walk_at "w"
    refine ⟨szr rfl, fun X nX => ?_⟩
    have wX := (Wd.refl s3).new (o := .lst [.ref L0, .ref L1, .ref L2]) nX
    have hX := (Wd.refl s3).here (o := .lst [.ref L0, .ref L1, .ref L2]) nX
    have hX0 := hide_le _ _ _ _ hX
    walk_at "w"
    have s4 := wX.st
    replace w3 := w3.trans wX.drop.drop.drop
    replace hp3 := wX.up _ _ hp3
    replace k0 := wX.kp _ _ g0.ne.1 g0.ne.2.1 k0
    replace k1 := wX.kp _ _ g1.ne.1 g1.ne.2.1 k1
    replace k2 := wX.kp _ _ g2.ne.1 g2.ne.2.1 k2
    replace d0 := wX.das d0
    replace d1 := wX.das d1
    replace d2 := wX.das d2
    generalize upd H3 X (.lst [.ref L0, .ref L1, .ref L2]) = H4 at *
    refine ⟨⟨_, SqL.of hX0⟩, fun D nD => ?_⟩
    refine lc_keep (Same.refl H4) nD hX0 (Nat.le_of_ble_eq_true rfl) (fun i => (i = 0 ∧ M.bs ≠ []) ∨ (i = 1 ∧ M.as ≠ []) ∨ (i = 2 ∧ M.es ≠ [])) ?_ ?_ ?_ ?_
    · exact fun _ => rfl
    · exact fun _ => rfl
    · intro i x H5 R hi s5 hR
      match i, hi with
      | 0, hi =>
        cases hi
        walk_at "w"
        refine ⟨_, .inl ⟨_, SqL.of (s5 _ _ k0), rfl⟩, hR _ _ (Same.refl _) ?_⟩
        rw [nonE d0]
        simp
      | 1, hi =>
        cases hi
        walk_at "w"
        refine ⟨_, .inl ⟨_, SqL.of (s5 _ _ k1), rfl⟩, hR _ _ (Same.refl _) ?_⟩
        rw [nonE d1]
        simp
      | 2, hi =>
        cases hi
        walk_at "w"
        refine ⟨_, .inl ⟨_, SqL.of (s5 _ _ k2), rfl⟩, hR _ _ (Same.refl _) ?_⟩
        rw [nonE d2]
        simp
      | n + 3, hi => simp at hi
    intro H5 ys s5 hD hyl hym
    have hyne : ys ≠ [] := fun q => by
      have := (hym (.ref L0)).mpr ⟨0, rfl, .inl ⟨rfl, hne⟩⟩
      rw [q] at this
      exact nomatch this
    have w5 := Wd.of_same s4 s5
    have hDD := hide_of (s4.ne nD) hD
    walk_at "w"
    refine ⟨((z.add L0).add L1).add L2, _, rfl, w5.st, Or.inl ⟨D, ys, rfl, hDD, hyne, by have : ys.length ≤ 3 := hyl; omega, fun v hv H6 w6 => ?_⟩⟩
    replace w6 := w5.trans w6
    replace hp3 := w6.up _ _ hp3
    replace hX := w6.up _ _ hX
    replace k0 := w6.kp _ _ g0.ne.1 g0.ne.2.1 k0
    replace k1 := w6.kp _ _ g1.ne.1 g1.ne.2.1 k1
    replace k2 := w6.kp _ _ g2.ne.1 g2.ne.2.1 k2
    replace d0 := w6.das d0
    replace d1 := w6.das d1
    replace d2 := w6.das d2
    replace w3 := w3.trans w6.drop.drop.drop
    have s6 := w6.st
    have g1ne : L1 ≠ z.s ∧ L1 ≠ z.c ∧ L1 ∉ z.m := ⟨g1.ne.1, g1.ne.2.1, fun q => g1.ne.2.2 (List.mem_cons_of_mem _ q)⟩
    have g2ne : L2 ≠ z.s ∧ L2 ≠ z.c ∧ L2 ∉ z.m := ⟨g2.ne.1, g2.ne.2.1, fun q => g2.ne.2.2 (List.mem_cons_of_mem _ (List.mem_cons_of_mem _ q))⟩
    clear hyne hyl hDD hD nD s5 w5 w6 s4 wX nX s3 hp1 hp2 ha1 he2 hp0
    have dr3 : ∀ H', Same (hide (((z.add L0).add L1).add L2) H') (hide z H') := fun H' => ((hide_drop _ H' L2).trans (hide_drop _ H' L1)).trans (hide_drop _ H' L0)
    have fin : ∀ (H' : Hp) (yb ya ye : List V) (bs' : List Side) (as' : List Arc) (es' : List Side), Wd z H H' → H' L0 = some (.lst yb) → H' L1 = some (.lst ya) → H' L2 = some (.lst ye) →
        DAs (hide (((z.add L0).add L1).add L2) H') yb (bs'.map sideD) → DAs (hide (((z.add L0).add L1).add L2) H') ya (as'.map arcD) → DAs (hide (((z.add L0).add L1).add L2) H') ye (es'.map sideD) →
        (∀ e ∈ bs', SOk M.n M.wr 41 e) → (∀ e ∈ as', AOk M.n M.rd M.wr 41 e) → (∀ e ∈ es', SOk M.n M.wr 41 e) → bs'.length ≤ 81 → as'.length ≤ 81 → es'.length ≤ 81 →
        ∀ r, H' r = none → Q (.ref r) (upd H' r (.tup [.str M.rd, .str M.wr, .int M.n, .ref L0, .ref L1, .ref L2])) := by
      intro H' yb ya ye bs' as' es' w q0 q1 q2 i0 i1 i2 o0 o1 o2 l0 l1 l2 r nr
      have wr := (Wd.refl w.st).new (o := .tup [.str M.rd, .str M.wr, .int M.n, .ref L0, .ref L1, .ref L2]) nr
      exact k _ _ ⟨M.rd, M.wr, M.n, bs', as', es'⟩ (w.trans wr) (DA.parts (M := ⟨M.rd, M.wr, M.n, bs', as', es'⟩) (w.here nr) (wr.da (.lst (hide_of g0.ne q0) (i0.up (dr3 _)))) (wr.da (.lst (hide_of g1ne q1) (i1.up (dr3 _)))) (wr.da (.lst (hide_of g2ne q2) (i2.up (dr3 _)))))
        ⟨hPV.ard, hPV.awr, hPV.n0, hPV.n1, fun e he => (o0 e he).mono (by decide), fun e he => (o1 e he).mono (by decide), fun e he => (o2 e he).mono (by decide), Nat.le_trans l0 (by decide), Nat.le_trans l1 (by decide), Nat.le_trans l2 (by decide)⟩
    have N1 : H L1 = none := g0.wd.nul hz n1
    have N2 : H L2 = none := g0.wd.nul hz (g1.wd.drop.nul g0.wd.st n2)
    obtain ⟨i, hi, hi2⟩ := (hym v).mp hv
    rcases hi2 with ⟨rfl, hnn⟩ | ⟨rfl, hnn⟩ | ⟨rfl, hnn⟩
    · cases hi
      have hxn : xb ≠ [] := fun q => by
        rw [q] at d0
        have := d0.len
        rw [List.length_map] at this
        exact hnn (List.length_eq_zero_iff.mp this.symm)
      have hxl : xb.length ≤ 80 := by rw [d0.len, List.length_map]; exact hPV.cb
      walk_at "w"
      refine ⟨z, _, rfl, w3.st, Or.inl ⟨L0, xb, rfl, hide_of g0.ne k0, hxn, by omega, fun v hv H7 w7 => ?_⟩⟩
      have w8 := ((w7.lift s6.drop.drop).lift s6.drop).lift s6
      obtain ⟨d, e1, e2⟩ := d0.mem hv
      obtain ⟨x, hx, rfl⟩ := map_mem e1
      have hxk := hPV.bs x hx
      replace e2 := w8.da e2
      obtain ⟨q, rfl, hq⟩ := e2.side_inv
      have hq0 := hide_le _ _ _ _ hq
      walk_at "w"
      refine ⟨_, _, rfl, Or.inr (SqT.of hq0), fun Ea nE => ?_⟩
      walk_at "w"
      refine .inr ⟨_, rfl, ?_⟩
      have hp8 : upd H7 Ea (.lst [.int x.1, .str x.2]) p = _ := (Same.new nE) _ _ (hide_le _ _ _ _ (w8.up _ _ hp3))
      have w9 := w8.new (o := .lst [.int x.1, .str x.2]) nE
      walk_at "w"
      refine ⟨((z.add L0).add L1).add L2, M.wr, x.2, 40, rfl, w9.st, hPV.awr, hxk.2.2, by decide, fun y H8 hy w10 => ?_⟩
      walk_at "w"
      have hEn := w8.st.ne nE
      have hE8 : H8 Ea = _ := w10.kp _ _ hEn.1 hEn.2.1 upd_same
      refine ⟨Ea, _, _, _, rfl, rfl, hE8, rfl, ?_⟩
      have w11 := (((Wd.refl w8.st).new (o := .lst [.int x.1, .str x.2]) nE).trans w10).put (o := .lst [.int x.1, .str y]) nE hEn.1 hEn.2.1
      have w12 := w8.trans w11
      walk_at "w"
      have kL := w12.kp _ _ g0.ne.1 g0.ne.2.1 k0
      refine ⟨Or.inl ⟨rfl, _, SqL.of kL⟩, ?_⟩
      walk_at "w"
      refine ⟨Ea, [.int x.1, .str y], rfl, Or.inl ⟨SqL.of upd_same, fun T nT => ?_⟩⟩
      have wT := w12.new (o := .tup [.int x.1, .str y]) nT
      have kT0 := wT.kp _ _ g0.ne.1 g0.ne.2.1 k0
      have kT1 := wT.kp _ _ g1ne.1 g1ne.2.1 k1
      have kT2 := wT.kp _ _ g2ne.1 g2ne.2.1 k2
      have hm : L0 ∈ (((z.add L0).add L1).add L2).m := by
        show L0 ∈ L2 :: L1 :: L0 :: z.m
        simp
      have ne01 : L0 ≠ L1 := fun q => g1.ne.2.2 (q ▸ List.mem_cons_self)
      have ne02 : L0 ≠ L2 := fun q => g2.ne.2.2 (q ▸ List.mem_cons_of_mem _ List.mem_cons_self)
      have ne12 : L1 ≠ L2 := fun q => g2.ne.2.2 (q ▸ List.mem_cons_self)
      walk_at "w"
      refine ⟨L0, _, _, rfl, rfl, kT0, small5 (by omega), ?_⟩
      have hp11 := hide_le _ _ _ _ (hide_mem (o := .lst (xb ++ [.ref T])) hm _ _ (wT.up _ _ hp3))
      have hX11 := hide_le _ _ _ _ (hide_mem (o := .lst (xb ++ [.ref T])) hm _ _ (wT.up _ _ hX))
      walk_at "w"
      refine ⟨szr rfl, fun r nr => ?_⟩
      refine fin _ _ _ _ (M.bs ++ [(x.1, y)]) (M.as) (M.es) ((w3.trans wT.drop.drop.drop).put n0 g0.ne.1 g0.ne.2.1) upd_same (by rw [upd_ne ne01.symm]; exact kT1) (by rw [upd_ne ne02.symm]; exact kT2) (by rw [List.map_append]; exact ((wT.das d0).append (.one (DA.side (e := (x.1, y)) (w11.here nT)))).up (hide_mem hm)) ((wT.das d1).up (hide_mem hm)) ((wT.das d2).up (hide_mem hm)) (mem_snoc (fun e he => (hPV.bs e he).mono (by decide)) ⟨hxk.1, hxk.2.1, hy⟩) ((fun e he => (hPV.as e he).mono (by decide))) ((fun e he => (hPV.es e he).mono (by decide))) (by rw [List.length_append]; exact Nat.succ_le_succ hPV.cb) (Nat.le_trans hPV.ca (by decide)) (Nat.le_trans hPV.ce (by decide)) r nr
    · cases hi
      have hxn : xa ≠ [] := fun q => by
        rw [q] at d1
        have := d1.len
        rw [List.length_map] at this
        exact hnn (List.length_eq_zero_iff.mp this.symm)
      have hxl : xa.length ≤ 80 := by rw [d1.len, List.length_map]; exact hPV.ca
      walk_at "w"
      refine ⟨z, _, rfl, w3.st, Or.inl ⟨L1, xa, rfl, hide_of g1ne k1, hxn, by omega, fun v hv H7 w7 => ?_⟩⟩
      have w8 := ((w7.lift s6.drop.drop).lift s6.drop).lift s6
      obtain ⟨d, e1, e2⟩ := d1.mem hv
      obtain ⟨x, hx, rfl⟩ := map_mem e1
      have hxk := hPV.as x hx
      replace e2 := w8.da e2
      obtain ⟨q, rfl, hq⟩ := e2.arc_inv
      have hq0 := hide_le _ _ _ _ hq
      walk_at "w"
      refine ⟨_, _, rfl, Or.inr (SqT.of hq0), fun Ea nE => ?_⟩
      walk_at "w"
      refine .inr ⟨_, rfl, ?_⟩
      have hp8 : upd H7 Ea (.lst [.int x.1, .str x.2.1, .str x.2.2.1, .int x.2.2.2]) p = _ := (Same.new nE) _ _ (hide_le _ _ _ _ (w8.up _ _ hp3))
      have w9 := w8.new (o := .lst [.int x.1, .str x.2.1, .str x.2.2.1, .int x.2.2.2]) nE
      walk_at "w"
      refine ⟨((z.add L0).add L1).add L2, M.wr, x.2.2.1, 40, rfl, w9.st, hPV.awr, hxk.2.2.1, by decide, fun y H8 hy w10 => ?_⟩
      walk_at "w"
      have hEn := w8.st.ne nE
      have hE8 : H8 Ea = _ := w10.kp _ _ hEn.1 hEn.2.1 upd_same
      refine ⟨Ea, _, _, _, rfl, rfl, hE8, rfl, ?_⟩
      have w11 := (((Wd.refl w8.st).new (o := .lst [.int x.1, .str x.2.1, .str x.2.2.1, .int x.2.2.2]) nE).trans w10).put (o := .lst [.int x.1, .str x.2.1, .str y, .int x.2.2.2]) nE hEn.1 hEn.2.1
      have w12 := w8.trans w11
      walk_at "w"
      have kL := w12.kp _ _ g1ne.1 g1ne.2.1 k1
      refine ⟨Or.inl ⟨rfl, _, SqL.of kL⟩, ?_⟩
      walk_at "w"
      refine ⟨Ea, [.int x.1, .str x.2.1, .str y, .int x.2.2.2], rfl, Or.inl ⟨SqL.of upd_same, fun T nT => ?_⟩⟩
      have wT := w12.new (o := .tup [.int x.1, .str x.2.1, .str y, .int x.2.2.2]) nT
      have kT0 := wT.kp _ _ g0.ne.1 g0.ne.2.1 k0
      have kT1 := wT.kp _ _ g1ne.1 g1ne.2.1 k1
      have kT2 := wT.kp _ _ g2ne.1 g2ne.2.1 k2
      have hm : L1 ∈ (((z.add L0).add L1).add L2).m := by
        show L1 ∈ L2 :: L1 :: L0 :: z.m
        simp
      have ne01 : L0 ≠ L1 := fun q => g1.ne.2.2 (q ▸ List.mem_cons_self)
      have ne02 : L0 ≠ L2 := fun q => g2.ne.2.2 (q ▸ List.mem_cons_of_mem _ List.mem_cons_self)
      have ne12 : L1 ≠ L2 := fun q => g2.ne.2.2 (q ▸ List.mem_cons_self)
      walk_at "w"
      refine ⟨L1, _, _, rfl, rfl, kT1, small5 (by omega), ?_⟩
      have hp11 := hide_le _ _ _ _ (hide_mem (o := .lst (xa ++ [.ref T])) hm _ _ (wT.up _ _ hp3))
      have hX11 := hide_le _ _ _ _ (hide_mem (o := .lst (xa ++ [.ref T])) hm _ _ (wT.up _ _ hX))
      walk_at "w"
      refine ⟨szr rfl, fun r nr => ?_⟩
      refine fin _ _ _ _ (M.bs) (M.as ++ [(x.1, x.2.1, y, x.2.2.2)]) (M.es) ((w3.trans wT.drop.drop.drop).put N1 g1ne.1 g1ne.2.1) (by rw [upd_ne ne01]; exact kT0) upd_same (by rw [upd_ne ne12.symm]; exact kT2) ((wT.das d0).up (hide_mem hm)) (by rw [List.map_append]; exact ((wT.das d1).append (.one (DA.arc (e := (x.1, x.2.1, y, x.2.2.2)) (w11.here nT)))).up (hide_mem hm)) ((wT.das d2).up (hide_mem hm)) ((fun e he => (hPV.bs e he).mono (by decide))) (mem_snoc (fun e he => (hPV.as e he).mono (by decide)) ⟨hxk.1, hxk.2.1, hy, hxk.2.2.2⟩) ((fun e he => (hPV.es e he).mono (by decide))) (Nat.le_trans hPV.cb (by decide)) (by rw [List.length_append]; exact Nat.succ_le_succ hPV.ca) (Nat.le_trans hPV.ce (by decide)) r nr
    · cases hi
      have hxn : xe ≠ [] := fun q => by
        rw [q] at d2
        have := d2.len
        rw [List.length_map] at this
        exact hnn (List.length_eq_zero_iff.mp this.symm)
      have hxl : xe.length ≤ 80 := by rw [d2.len, List.length_map]; exact hPV.ce
      walk_at "w"
      refine ⟨z, _, rfl, w3.st, Or.inl ⟨L2, xe, rfl, hide_of g2ne k2, hxn, by omega, fun v hv H7 w7 => ?_⟩⟩
      have w8 := ((w7.lift s6.drop.drop).lift s6.drop).lift s6
      obtain ⟨d, e1, e2⟩ := d2.mem hv
      obtain ⟨x, hx, rfl⟩ := map_mem e1
      have hxk := hPV.es x hx
      replace e2 := w8.da e2
      obtain ⟨q, rfl, hq⟩ := e2.side_inv
      have hq0 := hide_le _ _ _ _ hq
      walk_at "w"
      refine ⟨_, _, rfl, Or.inr (SqT.of hq0), fun Ea nE => ?_⟩
      walk_at "w"
      refine .inr ⟨_, rfl, ?_⟩
      have hp8 : upd H7 Ea (.lst [.int x.1, .str x.2]) p = _ := (Same.new nE) _ _ (hide_le _ _ _ _ (w8.up _ _ hp3))
      have w9 := w8.new (o := .lst [.int x.1, .str x.2]) nE
      walk_at "w"
      refine ⟨((z.add L0).add L1).add L2, M.wr, x.2, 40, rfl, w9.st, hPV.awr, hxk.2.2, by decide, fun y H8 hy w10 => ?_⟩
      walk_at "w"
      have hEn := w8.st.ne nE
      have hE8 : H8 Ea = _ := w10.kp _ _ hEn.1 hEn.2.1 upd_same
      refine ⟨Ea, _, _, _, rfl, rfl, hE8, rfl, ?_⟩
      have w11 := (((Wd.refl w8.st).new (o := .lst [.int x.1, .str x.2]) nE).trans w10).put (o := .lst [.int x.1, .str y]) nE hEn.1 hEn.2.1
      have w12 := w8.trans w11
      walk_at "w"
      have kL := w12.kp _ _ g2ne.1 g2ne.2.1 k2
      refine ⟨Or.inl ⟨rfl, _, SqL.of kL⟩, ?_⟩
      walk_at "w"
      refine ⟨Ea, [.int x.1, .str y], rfl, Or.inl ⟨SqL.of upd_same, fun T nT => ?_⟩⟩
      have wT := w12.new (o := .tup [.int x.1, .str y]) nT
      have kT0 := wT.kp _ _ g0.ne.1 g0.ne.2.1 k0
      have kT1 := wT.kp _ _ g1ne.1 g1ne.2.1 k1
      have kT2 := wT.kp _ _ g2ne.1 g2ne.2.1 k2
      have hm : L2 ∈ (((z.add L0).add L1).add L2).m := by
        show L2 ∈ L2 :: L1 :: L0 :: z.m
        simp
      have ne01 : L0 ≠ L1 := fun q => g1.ne.2.2 (q ▸ List.mem_cons_self)
      have ne02 : L0 ≠ L2 := fun q => g2.ne.2.2 (q ▸ List.mem_cons_of_mem _ List.mem_cons_self)
      have ne12 : L1 ≠ L2 := fun q => g2.ne.2.2 (q ▸ List.mem_cons_self)
      walk_at "w"
      refine ⟨L2, _, _, rfl, rfl, kT2, small5 (by omega), ?_⟩
      have hp11 := hide_le _ _ _ _ (hide_mem (o := .lst (xe ++ [.ref T])) hm _ _ (wT.up _ _ hp3))
      have hX11 := hide_le _ _ _ _ (hide_mem (o := .lst (xe ++ [.ref T])) hm _ _ (wT.up _ _ hX))
      walk_at "w"
      refine ⟨szr rfl, fun r nr => ?_⟩
      refine fin _ _ _ _ (M.bs) (M.as) (M.es ++ [(x.1, y)]) ((w3.trans wT.drop.drop.drop).put N2 g2ne.1 g2ne.2.1) (by rw [upd_ne ne02]; exact kT0) (by rw [upd_ne ne12]; exact kT1) upd_same ((wT.das d0).up (hide_mem hm)) ((wT.das d1).up (hide_mem hm)) (by rw [List.map_append]; exact ((wT.das d2).append (.one (DA.side (e := (x.1, y)) (w11.here nT)))).up (hide_mem hm)) ((fun e he => (hPV.bs e he).mono (by decide))) ((fun e he => (hPV.as e he).mono (by decide))) (mem_snoc (fun e he => (hPV.es e he).mono (by decide)) ⟨hxk.1, hxk.2.1, hy⟩) (Nat.le_trans hPV.cb (by decide)) (Nat.le_trans hPV.ca (by decide)) (by rw [List.length_append]; exact Nat.succ_le_succ hPV.ce) r nr
end
end GJ


set_option Elab.async false
set_option linter.all false
set_option maxRecDepth 100000
set_option maxHeartbeats 4000000
namespace GJ
open PySem PySem.Spec PyProof.Rows L2 TL
set_option pp.maxSteps 300
theorem at_int {xs : List Int} {i : Int} (h0 : 0 ≤ i) (h1 : i < xs.length) : ∃ v ∈ xs, atI (xs.map V.int) i = some (.int v) := by
  obtain ⟨x, x1, x2⟩ := at_nn (xs := xs.map V.int) h0 (by rw [List.length_map]; exact h1)
  rw [List.getElem?_map] at x1
  cases q : xs[i.toNat]? with
  | none => rw [q] at x1; cases x1
  | some v =>
    rw [q] at x1
    cases x1
    exact ⟨v, List.mem_of_getElem? q, x2⟩
section
variable {P : Program} {w : World} {K : PySem.W.Frag} {mg : Str → Option Value} {base : Heap}
set_option hygiene false in
local macro_rules | `(tactic| walk_at "w") => `(tactic| repeat (first
  | refine ⟨_, rfl, ?_⟩
  | refine ⟨_, _, rfl, rfl, (by first | decide | omega), fun r r0 r1 re => ?_⟩
  | refine ⟨_, _, rfl, rfl, (by first | exact Or.inl ⟨by omega, by omega⟩ | exact Or.inr ⟨by omega, by omega⟩ : CMul _ _), ?_⟩
  | refine ⟨_, _, rfl, rfl, (by first | exact ⟨by decide, by decide⟩ | exact ⟨by omega, by omega⟩ : CDiv _ _), ?_⟩
  | refine ⟨_, _, rfl, rfl, (by exact ⟨by decide, by decide, by decide⟩ : CPow _ _), ?_⟩
  | refine ⟨_, _, rfl, rfl, ?_⟩
  | refine ⟨(by rfl : scal _ _ = true), ?_⟩
  | refine Or.inl ⟨_, rfl, ?_⟩
  | refine ⟨_, _, rfl, fun m m0 m1 m2 => ?_⟩
  | refine ⟨_, _, _, _, rfl, rfl, SqL.of (by first | assumption | exact upd_same | exact fx _ | exact fy _), rfl, ?_⟩
  | refine ⟨_, _, _, _, rfl, rfl, (by first | assumption | exact upd_same | exact fx _ | exact fy _), rfl, ?_⟩
  | refine ⟨_, _, _, _, rfl, rfl, SqT.of (by first | assumption | exact upd_same | exact fx _ | exact fy _), rfl, ?_⟩
  | refine ⟨(szle (by omega) : Str.length _ ≤ sizeLine), ?_⟩
  | refine ⟨(szle (by first | omega | (rw [sla]; omega) | (rw [sla, sla]; omega)) : Str.length _ + Str.length _ ≤ sizeLine), ?_⟩
  | refine ⟨_, _, rfl, len_lst (by first | assumption | exact upd_same | exact fx _ | exact fy _), ?_⟩))
set_option hygiene false in
local macro_rules | `(tactic| walk_at "if") => `(tactic| (refine ite2 (fun hc => ?_) (fun hc => ?_) <;>
  simp only [decide_eq_true_eq, Bool.not_eq_true', decide_eq_false_iff_not, V.int.injEq, V.str.injEq, V.bl.injEq, Decidable.not_not, Bool.not_eq_true, V.int_ne, Int.not_lt, Int.not_le, Bool.true_eq_false, Bool.false_eq_true, not_true_eq_false, not_false_eq_true] at hc))
set_option hygiene false in
local macro_rules | `(tactic| walk_at "new") => `(tactic| (refine ⟨by first | decide | (simp only [List.length_cons, List.length_nil, List.length_append, List.length_map]; first | decide | (rw [sizeLine_eq]; omega)), fun p np => ?_⟩))
set_option hygiene false in
local macro_rules | `(tactic| walk_at "yes") => `(tactic| refine itY (by first | rfl | exact decide_eq_true (by first | rfl | omega | assumption) | (simp only [decide_eq_true_eq, Bool.not_eq_true', decide_eq_false_iff_not, V.int.injEq, V.str.injEq, V.bl.injEq]; first | omega | assumption)) ?_)
set_option hygiene false in
local macro_rules | `(tactic| walk_at "no") => `(tactic| refine itN (by first | decide | (simp only [decide_eq_true_eq, Bool.not_eq_true', decide_eq_false_iff_not, V.int.injEq, V.str.injEq, V.bl.injEq, Bool.not_eq_true, Decidable.not_not]; first | omega | assumption)) ?_)
def sp_renamed : Sp := fun vs H Q _ => ∃ (z : Zz) (v : V) (q : Addr) (M : Parts) (ns : List Int), vs = [v, .ref q] ∧ St z H ∧ DA (hide z H) v (partsD M) ∧ PV M ∧ hide z H q = some (.lst (ns.map V.int)) ∧ (ns.length : Int) = M.n ∧ (∀ k ∈ ns, 0 ≤ k ∧ k < M.n) ∧
  ∀ v' H' M', Wd z H H' → DA (hide z H') v' (partsD M') → PV M' → Q v' H'
def N__law_renamed : List Str := ["_law_parts", "_law_order_here", "_law_heads", "_law_links", "_law_x"]
theorem sc__law_renamed : FnScope N__law_renamed ["_law_parts", "_law_order_here"] (defScope (top 63)) := ⟨rfl, rfl, rfl, by decide +kernel, rfl, by decide +kernel, by decide +kernel⟩
theorem ok__law_renamed (En : Env K mg fas fns prs) : Ok P w K mg base "_law_renamed" 1 ["_law_parts", "_law_order_here"] sp_renamed := by
  refine ok_mk 44 63 En sc__law_renamed (fun _ _ _ _ _ _ us hl => match us, hl with | [_, _], _ => rfl) (fun vs H Q E h => ?_) (fun f cdv A outer s H vs Q E hr h => ?_)
  · obtain ⟨z, v, q, M, ns, rfl, _⟩ := h
    rfl
  · obtain ⟨z, v, q, M, ns, rfl, hz, hv, hPV, hq, hnl, hnk, k⟩ := h
    obtain ⟨p, b, a, e, xb, xa, xe, rfl, hp, hb, ha, he, jb, ja, je⟩ := hv.parts_inv
    have hp0 := hide_le _ _ _ _ hp
    have lb : xb.length ≤ 100 := by rw [jb.len, List.length_map]; exact hPV.cb
    have la : xa.length ≤ 100 := by rw [ja.len, List.length_map]; exact hPV.ca
    have le : xe.length ≤ 100 := by rw [je.len, List.length_map]; exact hPV.ce
    refine ⟨_, (pss_cons
        (ps_setLc (i := 2) (own := [("_law_x", 4)]) (g := gName 4) (tt := tYes) rfl sc__law_renamed.nd rfl rfl (sw_true rfl rfl rfl (by decide +kernel)) (pi_listK (K := K) rfl (pe_ix (ix_tupK (K := K) rfl) (pv 0) pe_int (fun _ _ => rfl))) (blkOk_by (own := [("_law_x", 4)]) (N := N__law_renamed) (sc := defScope (top 63)) (by decide +kernel)) (fun _ _ _ _ _ => (pg_name (i := 4) sc__law_renamed.nd rfl (Or.inl rfl))) (fun _ _ _ _ _ => pts_nil) (fun _ _ _ _ _ => (pe_tup (pa_cons (pe_ix (ix_listK (K := K) rfl) (pv 1) (pe_ix (ix_tupK (K := K) rfl) (pv 4) pe_int (fun _ _ => rfl)) (fun _ _ => rfl)) (pa_cons (pe_ix (ix_tupK (K := K) rfl) (pv 4) pe_int (fun _ _ => rfl)) pa_nil)))))
      (pss_cons
        (ps_setLc (i := 3) (own := [("_law_x", 4)]) (g := gName 4) (tt := tYes) rfl sc__law_renamed.nd rfl rfl (sw_true rfl rfl rfl (by decide +kernel)) (pi_listK (K := K) rfl (pe_ix (ix_tupK (K := K) rfl) (pv 0) pe_int (fun _ _ => rfl))) (blkOk_by (own := [("_law_x", 4)]) (N := N__law_renamed) (sc := defScope (top 63)) (by decide +kernel)) (fun _ _ _ _ _ => (pg_name (i := 4) sc__law_renamed.nd rfl (Or.inl rfl))) (fun _ _ _ _ _ => pts_nil) (fun _ _ _ _ _ => (pe_tup (pa_cons (pe_ix (ix_listK (K := K) rfl) (pv 1) (pe_ix (ix_tupK (K := K) rfl) (pv 4) pe_int (fun _ _ => rfl)) (fun _ _ => rfl)) (pa_cons (pe_ix (ix_tupK (K := K) rfl) (pv 4) pe_int (fun _ _ => rfl)) (pa_cons (pe_ix (ix_tupK (K := K) rfl) (pv 4) pe_int (fun _ _ => rfl)) (pa_cons (pe_ix (ix_listK (K := K) rfl) (pv 1) (pe_ix (ix_tupK (K := K) rfl) (pv 4) pe_int (fun _ _ => rfl)) (fun _ _ => rfl)) pa_nil)))))))
      (pss_one
        (ps_ret (pe_tup (pa_cons (pe_ix (ix_tupK (K := K) rfl) (pv 0) pe_int (fun _ _ => rfl)) (pa_cons (pe_ix (ix_tupK (K := K) rfl) (pv 0) pe_int (fun _ _ => rfl)) (pa_cons (pe_ix (ix_tupK (K := K) rfl) (pv 0) pe_int (fun _ _ => rfl)) (pa_cons (pv 2) (pa_cons (pv 3) (pa_cons (pe_lc (own := [("_law_x", 4)]) (g := gName 4) (tt := tYes) rfl sc__law_renamed.nd (pi_listK (K := K) rfl (pe_ix (ix_tupK (K := K) rfl) (pv 0) pe_int (fun _ _ => rfl))) (blkOk_by (own := [("_law_x", 4)]) (N := N__law_renamed) (sc := defScope (top 63)) (by decide +kernel)) (fun _ _ _ _ _ => (pg_name (i := 4) sc__law_renamed.nd rfl (Or.inl rfl))) (fun _ _ _ _ _ => pts_nil) (fun _ _ _ _ _ => (pe_tup (pa_cons (pe_ix (ix_listK (K := K) rfl) (pv 1) (pe_ix (ix_tupK (K := K) rfl) (pv 4) pe_int (fun _ _ => rfl)) (fun _ _ => rfl)) (pa_cons (pe_ix (ix_tupK (K := K) rfl) (pv 4) pe_int (fun _ _ => rfl)) pa_nil))))) pa_nil))))))))))), ?_⟩
    walk_at "w"
    refine ⟨⟨_, SqL.of (hide_le _ _ _ _ hb)⟩, fun D nD => lc_lstW hz (Wd.refl hz) nD hb (by omega) (fun _ d => Sd M.n M.wr 50 d) (fun _ => rfl) ?_ ?_⟩
    · intro i x H3 R hi w3 s3 hR
      obtain ⟨d, e1, e2⟩ := jb.get hi
      obtain ⟨y, hy, rfl⟩ := map_mem (List.mem_of_getElem? e1)
      obtain ⟨hy0, hy1, hy2⟩ := hPV.bs y hy
      obtain ⟨c, rfl, hc⟩ := (e2.up s3).side_inv
      have hc0 := hide_le _ _ _ _ hc
      obtain ⟨m, m1, m2⟩ := at_int (xs := ns) (i := y.1) hy0 (by omega)
      walk_at "w"
      refine ⟨_, _, _, _, rfl, rfl, SqL.of (hide_le _ _ _ _ (s3 _ _ hq)), m2, ?_⟩
      walk_at "w"
      refine ⟨szr rfl, fun t nt => ?_⟩
      have wt := (Wd.refl w3.st).new (o := .tup [.int m, .str y.2]) nt
      exact hR _ _ _ wt (DA.side (e := (m, y.2)) ((Wd.refl w3.st).here nt)) ⟨_, rfl, (hnk m m1).1, (hnk m m1).2, hy2⟩
    intro H1 ys1 ds1 g1 hl1 hP1
    obtain ⟨lb', rfl, hlb⟩ := of_all hP1
    rw [List.length_map, jb.len, List.length_map] at hl1
    have w1 := g1.wd
    have d1 := g1.fin
    have hp1 := hide_le _ _ _ _ (w1.up _ _ hp)
    walk_at "w"
    refine ⟨⟨_, SqL.of (hide_le _ _ _ _ (w1.up _ _ ha))⟩, fun D2 nD2 => lc_lstW w1.st (Wd.refl w1.st) nD2 (w1.up _ _ ha) (by omega) (fun _ d => Ad M.n M.rd M.wr 50 d) (fun _ => rfl) ?_ ?_⟩
    · intro i x H3 R hi w3 s3 hR
      obtain ⟨d, e1, e2⟩ := ja.get hi
      obtain ⟨y, hy, rfl⟩ := map_mem (List.mem_of_getElem? e1)
      obtain ⟨⟨hy0, hy1⟩, hy2, hy3, hy4, hy5⟩ := hPV.as y hy
      obtain ⟨c, rfl, hc⟩ := ((w1.da e2).up s3).arc_inv
      have hc0 := hide_le _ _ _ _ hc
      obtain ⟨m, m1, m2⟩ := at_int (xs := ns) (i := y.1) hy0 (by omega)
      obtain ⟨m', m1', m2'⟩ := at_int (xs := ns) (i := y.2.2.2) hy4 (by omega)
      have hq3 := hide_le _ _ _ _ (s3 _ _ (w1.up _ _ hq))
      walk_at "w"
      refine ⟨_, _, _, _, rfl, rfl, SqL.of hq3, m2, ?_⟩
      walk_at "w"
      refine ⟨_, _, _, _, rfl, rfl, SqL.of hq3, m2', ?_⟩
      walk_at "w"
      refine ⟨szr rfl, fun t nt => ?_⟩
      have wt := (Wd.refl w3.st).new (o := .tup [.int m, .str y.2.1, .str y.2.2.1, .int m']) nt
      exact hR _ _ _ wt (DA.arc (e := (m, y.2.1, y.2.2.1, m')) ((Wd.refl w3.st).here nt)) ⟨_, rfl, hnk m m1, hy2, hy3, hnk m' m1'⟩
    intro H2 ys2 ds2 g2 hl2 hP2
    obtain ⟨la', rfl, hla⟩ := of_all hP2
    rw [List.length_map, ja.len, List.length_map] at hl2
    have w2 := w1.trans g2.wd
    have d2 := g2.fin
    have d1' := g2.wd.da d1
    have hp2 := hide_le _ _ _ _ (w2.up _ _ hp)
    walk_at "w"
    refine ⟨⟨_, SqL.of (hide_le _ _ _ _ (w2.up _ _ he))⟩, fun D3 nD3 => lc_lstW w2.st (Wd.refl w2.st) nD3 (w2.up _ _ he) (by omega) (fun _ d => Sd M.n M.wr 50 d) (fun _ => rfl) ?_ ?_⟩
    · intro i x H3 R hi w3 s3 hR
      obtain ⟨d, e1, e2⟩ := je.get hi
      obtain ⟨y, hy, rfl⟩ := map_mem (List.mem_of_getElem? e1)
      obtain ⟨hy0, hy1, hy2⟩ := hPV.es y hy
      obtain ⟨c, rfl, hc⟩ := ((w2.da e2).up s3).side_inv
      have hc0 := hide_le _ _ _ _ hc
      obtain ⟨m, m1, m2⟩ := at_int (xs := ns) (i := y.1) hy0 (by omega)
      walk_at "w"
      refine ⟨_, _, _, _, rfl, rfl, SqL.of (hide_le _ _ _ _ (s3 _ _ (w2.up _ _ hq))), m2, ?_⟩
      walk_at "w"
      refine ⟨szr rfl, fun t nt => ?_⟩
      have wt := (Wd.refl w3.st).new (o := .tup [.int m, .str y.2]) nt
      exact hR _ _ _ wt (DA.side (e := (m, y.2)) ((Wd.refl w3.st).here nt)) ⟨_, rfl, (hnk m m1).1, (hnk m m1).2, hy2⟩
    intro H3 ys3 ds3 g3 hl3 hP3
    obtain ⟨le', rfl, hle⟩ := of_all hP3
    rw [List.length_map, je.len, List.length_map] at hl3
    have w3 := w2.trans g3.wd
    have d3 := g3.fin
    walk_at "w"
    refine ⟨szr rfl, fun r nr => ?_⟩
    have wr := (Wd.refl w3.st).new (o := .tup [.str M.rd, .str M.wr, .int M.n, .ref D, .ref D2, .ref D3]) nr
    exact k _ _ ⟨M.rd, M.wr, M.n, lb', la', le'⟩ (w3.trans wr) (DA.parts (M := ⟨M.rd, M.wr, M.n, lb', la', le'⟩) (w3.here nr) (wr.da (g3.wd.da d1')) (wr.da (g3.wd.da d2)) (wr.da d3))
      ⟨hPV.ard, hPV.awr, hPV.n0, hPV.n1, hlb, hla, hle, by rw [hl1]; exact hPV.cb, by rw [hl2]; exact hPV.ca, by rw [hl3]; exact hPV.ce⟩
end
end GJ


set_option Elab.async false
set_option linter.all false
set_option maxRecDepth 100000
set_option maxHeartbeats 4000000
namespace GJ
open PySem PySem.Spec PyProof.Rows L2 TL
set_option pp.maxSteps 300
theorem PVL.mono {L N L' N' : Nat} {M : Parts} (h : PVL L N M) (a : L ≤ L') (b : N ≤ N') : PVL L' N' M :=
  ⟨h.ard, h.awr, h.n0, h.n1, fun e he => (h.bs e he).mono a, fun e he => (h.as e he).mono a, fun e he => (h.es e he).mono a, Nat.le_trans h.cb b, Nat.le_trans h.ca b, Nat.le_trans h.ce b⟩
def AB : List Nat := tl "abcdefghijklmnopqrstuvwxyz"
theorem AB_eq : AB = (List.range 26).map (97 + ·) := by decide +kernel
theorem AB_get {i c : Nat} (h : AB[i]? = some c) : c = 97 + i ∧ i < 26 := by
  rw [AB_eq, List.getElem?_map] at h
  cases q : (List.range 26)[i]? with
  | none => rw [q] at h; cases h
  | some v =>
    obtain ⟨q1, q2⟩ := List.getElem?_eq_some_iff.mp q
    rw [q] at h
    rw [List.getElem_range] at q2
    rw [List.length_range] at q1
    subst q2
    exact ⟨(Option.some.inj h).symm, q1⟩
theorem AB_up : AB.Pairwise (· < ·) := by decide +kernel
theorem Alpha.sub {x : Str} (h : List.Sublist (tl x) AB) (n1 : tl x ≠ []) (n3 : (tl x).length ≤ 3) : Alpha x :=
  ⟨AB_up.sublist h, n1, n3, fun c hc => by
    obtain ⟨i, hi⟩ := List.getElem?_of_mem (h.subset hc)
    have := AB_get hi
    omega⟩
section
variable {P : Program} {w : World} {K : PySem.W.Frag} {mg : Str → Option Value} {base : Heap}
set_option hygiene false in
local macro_rules | `(tactic| walk_at "w") => `(tactic| repeat (first
  | refine ⟨_, rfl, ?_⟩
  | refine ⟨_, _, rfl, rfl, (by first | decide | omega), fun r r0 r1 re => ?_⟩
  | refine ⟨_, _, rfl, rfl, (by first | exact Or.inl ⟨by omega, by omega⟩ | exact Or.inr ⟨by omega, by omega⟩ : CMul _ _), ?_⟩
  | refine ⟨_, _, rfl, rfl, (by first | exact ⟨by decide, by decide⟩ | exact ⟨by omega, by omega⟩ : CDiv _ _), ?_⟩
  | refine ⟨_, _, rfl, rfl, (by exact ⟨by decide, by decide, by decide⟩ : CPow _ _), ?_⟩
  | refine ⟨_, _, rfl, rfl, ?_⟩
  | refine ⟨(by rfl : scal _ _ = true), ?_⟩
  | refine Or.inl ⟨_, rfl, ?_⟩
  | refine ⟨_, _, rfl, fun m m0 m1 m2 => ?_⟩
  | refine ⟨_, _, _, _, rfl, rfl, SqL.of (by first | assumption | exact upd_same | exact fx _ | exact fy _), rfl, ?_⟩
  | refine ⟨_, _, _, _, rfl, rfl, (by first | assumption | exact upd_same | exact fx _ | exact fy _), rfl, ?_⟩
  | refine ⟨_, _, _, _, rfl, rfl, SqT.of (by first | assumption | exact upd_same | exact fx _ | exact fy _), rfl, ?_⟩
  | refine ⟨(szle (by omega) : Str.length _ ≤ sizeLine), ?_⟩
  | refine ⟨(szle (by first | omega | (rw [sla]; omega) | (rw [sla, sla]; omega)) : Str.length _ + Str.length _ ≤ sizeLine), ?_⟩
  | refine ⟨_, _, rfl, len_lst (by first | assumption | exact upd_same | exact fx _ | exact fy _), ?_⟩))
set_option hygiene false in
local macro_rules | `(tactic| walk_at "if") => `(tactic| (refine ite2 (fun hc => ?_) (fun hc => ?_) <;>
  simp only [decide_eq_true_eq, Bool.not_eq_true', decide_eq_false_iff_not, V.int.injEq, V.str.injEq, V.bl.injEq, Decidable.not_not, Bool.not_eq_true, V.int_ne, Int.not_lt, Int.not_le, Bool.true_eq_false, Bool.false_eq_true, not_true_eq_false, not_false_eq_true] at hc))
set_option hygiene false in
local macro_rules | `(tactic| walk_at "new") => `(tactic| (refine ⟨by first | decide | (simp only [List.length_cons, List.length_nil, List.length_append, List.length_map]; first | decide | (rw [sizeLine_eq]; omega)), fun p np => ?_⟩))
set_option hygiene false in
local macro_rules | `(tactic| walk_at "yes") => `(tactic| refine itY (by first | rfl | exact decide_eq_true (by first | rfl | omega | assumption) | (simp only [decide_eq_true_eq, Bool.not_eq_true', decide_eq_false_iff_not, V.int.injEq, V.str.injEq, V.bl.injEq]; first | omega | assumption)) ?_)
set_option hygiene false in
local macro_rules | `(tactic| walk_at "no") => `(tactic| refine itN (by first | decide | (simp only [decide_eq_true_eq, Bool.not_eq_true', decide_eq_false_iff_not, V.int.injEq, V.str.injEq, V.bl.injEq, Bool.not_eq_true, Decidable.not_not]; first | omega | assumption)) ?_)
def N__law_mixed : List Str := ["_law_store_here", "_law_read", "_law_write", "_law_limit", "_law_draw", "_law_parts"]
theorem sc__law_mixed : FnScope N__law_mixed ["_law_store_here", "_law_read", "_law_write", "_law_limit"] (defScope (top 64)) := ⟨rfl, rfl, rfl, by decide +kernel, rfl, by decide +kernel, by decide +kernel⟩
theorem ok__law_mixed (En : Env K mg fas fns prs) : Ok P w K mg base "_law_mixed" 7 ["_law_store_here", "_law_read", "_law_write", "_law_limit"] sp_machine := by
  refine ok_mk 45 64 En sc__law_mixed (fun _ _ _ _ _ _ us hl => match us, hl with | [_, _, _, _], _ => rfl) (fun vs H Q E h => ?_) (fun f cdv A outer s H vs Q E hr h => ?_)
  · obtain ⟨z, rd, wr, rfl, _⟩ := h
    rfl
  · obtain ⟨z, rd, wr, rfl, hz, hR, hW, k⟩ := h
    refine ⟨_, (pss_cons
        (ps_set (i := 4) sc__law_mixed.nd rfl (Or.inl rfl) (pe_fn (ok__law_take En) (hr.mono (by decide)) (pa_cons (pv 0) (pa_cons pe_int pa_nil))))
      (pss_cons
        (ps_if (pt_cmpR op_lt (pv 4) pe_int (nomark _)) (pss_one (ps_ret (pe_fn (ok__law_machine En) (hr.mono (by decide)) (pa_cons (pv 0) (pa_cons (pv 1) (pa_cons (pv 2) (pa_cons (pv 3) pa_nil))))))) pss_nil)
      (pss_cons
        (ps_set (i := 5) sc__law_mixed.nd rfl (Or.inl rfl) (pe_fn (ok__law_lines En) (hr.mono (by decide)) (pa_cons (pv 0) (pa_cons (pv 1) (pa_cons (pv 2) pa_nil)))))
      (C8.pss_cut
        (ps_if (pt_cmpR op_gt (pv 4) pe_int (nomark _)) (pss_one (ps_set (i := 5) sc__law_mixed.nd rfl (Or.inl rfl) (pe_fn (ok__law_delayed En) (hr.mono (by decide)) (pa_cons (pv 0) (pa_cons (pv 1) (pa_cons (pv 2) pa_nil)))))) pss_nil)
      (C8.pss_cut
        (ps_if (pt_cmpR op_eq (pe_op op_modR (pe_callTy call_int1 (by rfl) (fr_int En) bt_int (pa_cons (pv 4) pa_nil)) pe_int) pe_int (nomark _)) (pss_one (ps_set (i := 5) sc__law_mixed.nd rfl (Or.inl rfl) (pe_fn (ok__law_forked En) (hr.mono (by decide)) (pa_cons (pv 0) (pa_cons (pv 5) pa_nil))))) pss_nil)
      (pss_one
        (ps_ret (pe_fn (ok__law_renamed En) (hr.mono (by decide)) (pa_cons (pv 5) (pa_cons (pe_fn (ok__law_order En) (hr.mono (by decide)) (pa_cons (pv 0) (pa_cons (pe_ix (ix_tupK (K := K) rfl) (pv 5) pe_int (fun _ _ => rfl)) pa_nil))) pa_nil)))))))))), ?_⟩
    walk_at "w"
    refine ⟨z, _, rfl, hz, by decide, fun d H1 d0 d1 w1 => ?_⟩
    walk_at "w"
    walk_at "if"
    · walk_at "w"
      exact ⟨z, rd, wr, rfl, w1.st, hR, hW, fun v' H' M w2 hd hp => k v' H' M (w1.trans w2) hd hp⟩
    walk_at "w"
    refine ⟨z, rd, wr, rfl, w1.st, hR, hW, fun v2 H2 M2 w2 hd2 hp2 hn2 => ?_⟩
    replace w2 := w1.trans w2
    walk_at "w"
    refine ⟨fun σ H' => ∃ (v : V) (M : Parts), σ = [some (.ref z.s), some (.str rd), some (.str wr), some (.int 4), some (.int d), some v] ∧ Wd z H H' ∧ DA (hide z H') v (partsD M) ∧ PVL 40 80 M ∧ M.bs ≠ [], ?_, ?_⟩
    · walk_at "w"
      walk_at "if"
      · walk_at "w"
        exact ⟨z, rd, wr, rfl, w2.st, hR, hW, fun v3 H3 M3 w3 hd3 hp3 hn3 => ⟨_, _, rfl, w2.trans w3, hd3, hp3, hn3⟩⟩
      · exact ⟨_, _, rfl, w2, hd2, hp2, hn2⟩
    rintro σ H3 ⟨v3, M3, rfl, w3, hd3, hp3, hn3⟩
    refine ⟨fun σ H' => ∃ (v : V) (M : Parts), σ = [some (.ref z.s), some (.str rd), some (.str wr), some (.int 4), some (.int d), some v] ∧ Wd z H H' ∧ DA (hide z H') v (partsD M) ∧ PV M, ?_, ?_⟩
    · walk_at "w"
      walk_at "if"
      · walk_at "w"
        exact ⟨z, _, M3, rfl, w3.st, hd3, hp3, hn3, fun v4 H4 M4 w4 hd4 hp4 => ⟨_, _, rfl, w3.trans w4, hd4, hp4⟩⟩
      · exact ⟨_, _, rfl, w3, hd3, hp3.mono (by decide) (by decide)⟩
    rintro σ H4 ⟨v4, M4, rfl, w4, hd4, hp4⟩
    obtain ⟨p, b, a, e, xb, xa, xe, rfl, hp, _⟩ := hd4.parts_inv
    have hp0 := hide_le _ _ _ _ hp
    walk_at "w"
    have n0 := hp4.n0
    have n1 := hp4.n1
    refine ⟨z, M4.n.toNat, by rw [Int.toNat_of_nonneg n0]; rfl, w4.st, by omega, fun q H5 ns w5 hq hl hk => ?_⟩
    walk_at "w"
    exact ⟨z, _, q, M4, ns, rfl, w5.st, w5.da hd4, hp4, hq, by omega, fun k hk2 => by have := hk k hk2; omega, fun v6 H6 M6 w6 hd6 hp6 => k v6 H6 M6 ((w4.trans w5).trans w6) hd6 hp6⟩
/-- a new alphabet -/
def sp_letters : Sp := fun vs H Q _ => ∃ (z : Zz), vs = [.ref z.s, .int 3] ∧ St z H ∧ ∀ x H', Alpha x → Wd z H H' → Q (.str x) H'
def N__law_letters : List Str := ["_law_store_here", "_law_limit", "_law_size", "_law_every", "_law_draw", "_law_at", "_law_word_here", "_law_k"]
theorem sc__law_letters : FnScope N__law_letters ["_law_store_here", "_law_limit"] (defScope (top 65)) := ⟨rfl, rfl, rfl, by decide +kernel, rfl, by decide +kernel, by decide +kernel⟩
theorem ok__law_letters (En : Env K mg fas fns prs) : Ok P w K mg base "_law_letters" 3 ["_law_store_here", "_law_limit"] sp_letters := by
  refine ok_mk 46 65 En sc__law_letters (fun _ _ _ _ _ _ us hl => match us, hl with | [_, _], _ => rfl) (fun vs H Q E h => ?_) (fun f cdv A outer s H vs Q E hr h => ?_)
  · obtain ⟨z, rfl, _⟩ := h
    rfl
  · obtain ⟨z, rfl, hz, k⟩ := h
    refine ⟨_, (pss_cons
        (ps_set (i := 2) sc__law_letters.nd rfl (Or.inl rfl) (pe_op op_add pe_int (pe_fn (ok__law_take En) (hr.mono (by decide)) (pa_cons (pv 0) (pa_cons (pe_callB (call_maxR rfl) (by rfl) (fr_max En) bt_max (pa_cons pe_int (pa_cons (pe_callB (call_minR rfl) (by rfl) (fr_min En) bt_min (pa_cons pe_int (pa_cons (pv 1) pa_nil))) pa_nil))) pa_nil)))))
      (pss_cons
        (ps_set (i := 3) sc__law_letters.nd rfl (Or.inl rfl) pe_str)
      (pss_cons
        (ps_set (i := 4) sc__law_letters.nd rfl (Or.inl rfl) (pe_fn (ok__law_take En) (hr.mono (by decide)) (pa_cons (pv 0) (pa_cons pe_int pa_nil))))
      (pss_cons
        (ps_if (pt_cmpR op_eq (pv 4) pe_int (nomark _)) (pss_one (ps_ret (pe_slice sl_str (pv 3) po_none (po_some (pv 2))))) pss_nil)
      (pss_cons
        (ps_if (pt_cmpR op_eq (pv 4) pe_int (nomark _)) (pss_one (ps_ret (pe_slice sl_str (pv 3) (po_some (pe_op op_sub pe_int (pv 2))) po_none))) pss_nil)
      (pss_cons
        (ps_set (i := 5) sc__law_letters.nd rfl (Or.inl rfl) (pe_un un_neg pe_int))
      (pss_cons
        (ps_set (i := 6) sc__law_letters.nd rfl (Or.inl rfl) pe_str)
      (pss_cons
        (ps_for PassesOwn.never rfl (pi_range1 rfl (fr_range En) (pa_cons (pv 2) pa_nil)) (pg_name (i := 7) sc__law_letters.nd rfl (Or.inl rfl)) (pss_cons
        (ps_set (i := 5) sc__law_letters.nd rfl (Or.inl rfl) (pe_op op_add (pe_op op_add (pv 5) pe_int) (pe_fn (ok__law_take En) (hr.mono (by decide)) (pa_cons (pv 0) (pa_cons (pe_op op_sub (pe_op op_add (pe_op op_sub pe_int (pv 2)) (pv 7)) (pv 5)) pa_nil)))))
      (pss_one
        (ps_set (i := 6) sc__law_letters.nd rfl (Or.inl rfl) (pe_op op_add_str (pv 6) (pe_ix ix_str (pv 3) (pv 5) (fun _ _ => rfl)))))))
      (pss_one
        (ps_ret (pv 6))))))))))), ?_⟩
    walk_at "w"
    refine ⟨z, _, rfl, hz, by omega, fun t H1 t0 t1 w1 => ?_⟩
    walk_at "w"
    have hm : 1 + t ≤ 3 := by omega
    have hm1 : 1 ≤ 1 + t := by omega
    refine ⟨z, _, rfl, w1.st, by decide, fun d H2 d0 d1 w2 => ?_⟩
    replace w2 := w1.trans w2
    walk_at "w"
    walk_at "if"
    · walk_at "w"
      refine ⟨szr rfl, ?_⟩
      walk_at "w"
      refine k _ _ (.sub ?_ ?_ ?_) w2
      · rw [tl_pre (by omega)]
        exact List.take_sublist _ _
      · rw [tl_pre (by omega)]
        intro q
        have := congrArg List.length q
        rw [List.length_take, show (tl "abcdefghijklmnopqrstuvwxyz").length = 26 from rfl] at this
        simp only [List.length_nil] at this
        omega
      · rw [tl_pre (by omega), List.length_take, show (tl "abcdefghijklmnopqrstuvwxyz").length = 26 from rfl]
        omega
    walk_at "w"
    walk_at "if"
    · walk_at "w"
      refine ⟨szr rfl, ?_⟩
      walk_at "w"
      refine k _ _ (.sub ?_ ?_ ?_) w2
      · rw [tl_suf (by omega)]
        exact List.drop_sublist _ _
      · rw [tl_suf (by omega)]
        intro q
        have := congrArg List.length q
        rw [List.length_drop, show (tl "abcdefghijklmnopqrstuvwxyz").length = 26 from rfl] at this
        simp only [List.length_nil] at this
        omega
      · rw [tl_suf (by omega), List.length_drop, show (tl "abcdefghijklmnopqrstuvwxyz").length = 26 from rfl]
        omega
    walk_at "w"
    refine ⟨by omega, by omega, for_range (lo := 0) (n := (1 + t).toNat) (fun i σ H' => ∃ (a : Int) (x : Str) (u : Option V), σ = [some (.ref z.s), some (.int 3), some (.int (1 + t)), some (.str "abcdefghijklmnopqrstuvwxyz"), some (.int d), some (.int a), some (.str x), u] ∧ Wd z H H' ∧
      -1 ≤ a ∧ a + (1 + t) ≤ 25 + i ∧ (tl x).length = i ∧ (tl x).Pairwise (· < ·) ∧ ∀ c ∈ tl x, 97 ≤ c ∧ (c : Int) ≤ 97 + a) ?_ ?_ ?_⟩
    · exact ⟨_, _, _, rfl, w2, by decide, by omega, rfl, .nil, fun c h => nomatch h⟩
    · rintro i σ H3 hi ⟨a, x, u, rfl, w3, a0, a1, x0, x1, x2⟩
      have hxl : x.length = i := x0
      walk_at "w"
      refine ⟨z, _, rfl, w3.st, by omega, fun r H4 r0 r1 w4 => ?_⟩
      walk_at "w"
      obtain ⟨c, c1, c2⟩ := at_nn (xs := AB) (i := a + 1 + r) (by omega) (by show a + 1 + r < 26; omega)
      have hc := AB_get c1
      have c3 : (⟨#[c]⟩ : Str).length = 1 := rfl
      refine ⟨_, _, c, rfl, rfl, szle (by decide), c2, ?_⟩
      walk_at "w"
      refine ⟨_, _, _, rfl, w3.trans w4, by omega, by omega, by rw [tl_append, List.length_append, x0]; rfl, ?_, ?_⟩
      · rw [tl_append, List.pairwise_append]
        exact ⟨x1, List.pairwise_singleton _ _, fun b hb e he => by
          rw [tl_one, List.mem_singleton] at he
          have := x2 b hb
          omega⟩
      · intro b hb
        rw [tl_append, List.mem_append] at hb
        rcases hb with hb | hb
        · have := x2 b hb
          omega
        · rw [tl_one, List.mem_singleton] at hb
          omega
    · rintro σ H3 ⟨a, x, u, rfl, w3, a0, a1, x0, x1, x2⟩
      walk_at "w"
      refine k _ _ ⟨x1, fun q => ?_, by omega, fun c hc => ?_⟩ w3
      · rw [q] at x0
        simp only [List.length_nil] at x0
        omega
      · have := x2 c hc
        omega
end
end GJ


set_option Elab.async false
set_option linter.all false
set_option maxRecDepth 100000
set_option maxHeartbeats 4000000
namespace GJ
open PySem PySem.Spec PyProof.Rows L2 TL
theorem u65 {A : Around} {k : Nat} (hr : Room k A) : A.units + 65 < cLine := by have := hr.un; omega
abbrev Z3 (z : Zz) (A B C : Addr) : Zz := ((z.add A).add B).add C
def pairD (q : Int × Int) : PyData := .tuple [.int q.1, .int q.2]
theorem DA.pair {H : Hp} {p : Addr} {e : Int × Int} (h : H p = some (.tup [.int e.1, .int e.2])) : DA H (.ref p) (pairD e) := .tup h (.cons (.int _) (.cons (.int _) .nil))
theorem DA.pair_inv {H : Hp} {v : V} {e : Int × Int} (h : DA H v (pairD e)) : ∃ p, v = .ref p ∧ H p = some (.tup [.int e.1, .int e.2]) := by
  obtain ⟨p, xs, rfl, h1, h2⟩ := DA.tup_inv h
  cases h2 with
  | cons a b => cases b with
    | cons c d => cases d; cases a; cases c; exact ⟨p, rfl, h1⟩
theorem z3_drop (z : Zz) (A B C : Addr) (H : Hp) : Same (hide (Z3 z A B C) H) (hide z H) := ((hide_drop _ H C).trans (hide_drop _ H B)).trans (hide_drop _ H A)
theorem Wd.drop3 {z : Zz} {A B C : Addr} {H H' : Hp} (w : Wd (Z3 z A B C) H H') : Wd z H H' := w.drop.drop.drop
theorem Wd.lift3 {z : Zz} {A B C : Addr} {H H' : Hp} (w : Wd z H H') (s : St (Z3 z A B C) H) : Wd (Z3 z A B C) H H' := ((w.lift s.drop.drop).lift s.drop).lift s
/-- three lists that grow -/
structure G3 (z : Zz) (H0 : Hp) (A B C : Addr) (H' : Hp) (ya yb yc : List V) (ps : List (Int × Int)) (p0 p1 : List Arc) : Prop where
  wd : Wd z H0 H'
  st : St (Z3 z A B C) H'
  a : H' A = some (.lst ya)
  b : H' B = some (.lst yb)
  c : H' C = some (.lst yc)
  da : DAs (hide (Z3 z A B C) H') ya (ps.map pairD)
  db : DAs (hide (Z3 z A B C) H') yb (p0.map arcD)
  dc : DAs (hide (Z3 z A B C) H') yc (p1.map arcD)
  na : H0 A = none
  nb : H0 B = none
  nc : H0 C = none
  ea : A ≠ z.s ∧ A ≠ z.c ∧ A ∉ z.m
  eb : B ≠ z.s ∧ B ≠ z.c ∧ B ∉ z.m
  ec : C ≠ z.s ∧ C ≠ z.c ∧ C ∉ z.m
  ab : A ≠ B
  ac : A ≠ C
  bc : B ≠ C
section
variable {z : Zz} {H0 H' H'' : Hp} {A B C : Addr} {ya yb yc : List V} {ps : List (Int × Int)} {p0 p1 : List Arc}
theorem G3.step (g : G3 z H0 A B C H' ya yb yc ps p0 p1) (w : Wd (Z3 z A B C) H' H'') : G3 z H0 A B C H'' ya yb yc ps p0 p1 :=
  ⟨g.wd.trans w.drop3, w.st, w.kp _ _ g.ea.1 g.ea.2.1 g.a, w.kp _ _ g.eb.1 g.eb.2.1 g.b, w.kp _ _ g.ec.1 g.ec.2.1 g.c, w.das g.da, w.das g.db, w.das g.dc, g.na, g.nb, g.nc, g.ea, g.eb, g.ec, g.ab, g.ac, g.bc⟩
theorem G3.stepz (g : G3 z H0 A B C H' ya yb yc ps p0 p1) (w : Wd z H' H'') : G3 z H0 A B C H'' ya yb yc ps p0 p1 := g.step (w.lift3 g.st)
theorem z3_put {H : Hp} {p : Addr} {o : HO} (h : p = A ∨ p = B ∨ p = C) : Same (hide (Z3 z A B C) H) (hide (Z3 z A B C) (upd H p o)) := hide_mem (by
  show p ∈ C :: B :: A :: z.m
  rcases h with rfl | rfl | rfl <;> simp)
theorem G3.appA (g : G3 z H0 A B C H' ya yb yc ps p0 p1) {v : V} {q : Int × Int} (h : DA (hide (Z3 z A B C) H') v (pairD q)) : G3 z H0 A B C (upd H' A (.lst (ya ++ [v]))) (ya ++ [v]) yb yc (ps ++ [q]) p0 p1 :=
  ⟨g.wd.put g.na g.ea.1 g.ea.2.1, g.st.put g.ea.1 g.ea.2.1, upd_same, by rw [upd_ne g.ab.symm]; exact g.b, by rw [upd_ne g.ac.symm]; exact g.c, (by rw [List.map_append]; exact (g.da.append (.one h)).up (z3_put (.inl rfl))), g.db.up (z3_put (.inl rfl)), g.dc.up (z3_put (.inl rfl)), g.na, g.nb, g.nc, g.ea, g.eb, g.ec, g.ab, g.ac, g.bc⟩
theorem G3.appB (g : G3 z H0 A B C H' ya yb yc ps p0 p1) {v : V} {q : Arc} (h : DA (hide (Z3 z A B C) H') v (arcD q)) : G3 z H0 A B C (upd H' B (.lst (yb ++ [v]))) ya (yb ++ [v]) yc ps (p0 ++ [q]) p1 :=
  ⟨g.wd.put g.nb g.eb.1 g.eb.2.1, g.st.put g.eb.1 g.eb.2.1, by rw [upd_ne g.ab]; exact g.a, upd_same, by rw [upd_ne g.bc.symm]; exact g.c, g.da.up (z3_put (.inr (.inl rfl))), (by rw [List.map_append]; exact (g.db.append (.one h)).up (z3_put (.inr (.inl rfl)))), g.dc.up (z3_put (.inr (.inl rfl))), g.na, g.nb, g.nc, g.ea, g.eb, g.ec, g.ab, g.ac, g.bc⟩
theorem G3.appC (g : G3 z H0 A B C H' ya yb yc ps p0 p1) {v : V} {q : Arc} (h : DA (hide (Z3 z A B C) H') v (arcD q)) : G3 z H0 A B C (upd H' C (.lst (yc ++ [v]))) ya yb (yc ++ [v]) ps p0 (p1 ++ [q]) :=
  ⟨g.wd.put g.nc g.ec.1 g.ec.2.1, g.st.put g.ec.1 g.ec.2.1, by rw [upd_ne g.ac]; exact g.a, by rw [upd_ne g.bc]; exact g.b, upd_same, g.da.up (z3_put (.inr (.inr rfl))), g.db.up (z3_put (.inr (.inr rfl))), (by rw [List.map_append]; exact (g.dc.append (.one h)).up (z3_put (.inr (.inr rfl)))), g.na, g.nb, g.nc, g.ea, g.eb, g.ec, g.ab, g.ac, g.bc⟩
/-- ahead of the three stands what stood -/
theorem G3.old (g : G3 z H0 A B C H' ya yb yc ps p0 p1) : Same (hide z H0) (hide (Z3 z A B C) H') := fun b o e => by
  obtain ⟨n, e2⟩ := hide_some e
  refine hide_of ⟨n.1, n.2.1, fun q => ?_⟩ (g.wd.kp b o n.1 n.2.1 e2)
  rcases List.mem_cons.mp q with q | q
  · exact ne_of_none e2 g.nc q
  rcases List.mem_cons.mp q with q | q
  · exact ne_of_none e2 g.nb q
  rcases List.mem_cons.mp q with q | q
  · exact ne_of_none e2 g.na q
  exact n.2.2 q
theorem G3.start {H1 H2 H3 : Hp} (ga : Lg z H0 A H1 ya (ps.map pairD)) (w1 : Wd (z.add A) H1 H2) (gb : Lg (z.add A) H2 B H3 yb (p0.map arcD)) {H4 : Hp} (gc : Lg ((z.add A).add B) H3 C H4 yc (p1.map arcD)) : G3 z H0 A B C H4 ya yb yc ps p0 p1 := by
  have ga2 := (ga.step w1).step gb.wd
  have gb2 := gb.step gc.wd
  have ga3 := ga2.step gc.wd.drop
  have kA := ga3.at_
  have na2 := ga.nd
  have eb : B ≠ z.s ∧ B ≠ z.c ∧ B ∉ z.m := ⟨gb.ne.1, gb.ne.2.1, fun q => gb.ne.2.2 (List.mem_cons_of_mem _ q)⟩
  have ec : C ≠ z.s ∧ C ≠ z.c ∧ C ∉ z.m := ⟨gc.ne.1, gc.ne.2.1, fun q => gc.ne.2.2 (List.mem_cons_of_mem _ (List.mem_cons_of_mem _ q))⟩
  have ab : A ≠ B := fun q => gb.ne.2.2 (q ▸ List.mem_cons_self)
  have ac : A ≠ C := fun q => gc.ne.2.2 (q ▸ List.mem_cons_of_mem _ List.mem_cons_self)
  have bc : B ≠ C := fun q => gc.ne.2.2 (q ▸ List.mem_cons_self)
  have nul : ∀ {p : Addr} {Ha : Hp}, (p ≠ z.s ∧ p ≠ z.c ∧ p ∉ z.m) → Wd z H0 Ha → Ha p = none → H0 p = none := fun {p Ha} e w h => by
    cases q : H0 p with
    | none => rfl
    | some o =>
      have := w.kp _ _ e.1 e.2.1 q
      rw [h] at this
      cases this
  refine ⟨ga3.wd, gc.st, kA, gb2.at_, gc.at_, ?_, gb.it.up gc.old, gc.it, na2, nul eb (ga.wd.trans w1.drop) gb.nd, nul ec ((ga.wd.trans w1.drop).trans gb.wd.drop) gc.nd, ga.ne, eb, ec, ab, ac, bc⟩
  exact ((ga.it.up w1.up).up gb.old).up gc.old
/-- [x for x in xs if ..], whichever -/
theorem lc_some {K : PySem.W.Frag} {H H1 : Hp} {D a : Addr} {tt : TT} {vs : List Nat} {σ : L2.St} {j : Nat} {Qd : Hp → Prop} {xs : List V}
    (s1 : Same H H1) (nD : H1 D = none) (hx : H a = some (.lst xs)) (hn : xs.length ≤ 100000) (hw : Wp σ vs j) (hj : ∀ v, (sl σ vs j v)[j]? = some (some v))
    (hs : ∀ x H3 (R : Bool → Hp → Prop), x ∈ xs → Same H H3 → (∀ b H4, Same H3 H4 → R b H4) → tt (sl σ vs j x) H3 R)
    (hd : ∀ H3 ys, Same H H3 → H3 D = some (.lst ys) → ys.length ≤ xs.length → (∀ v ∈ ys, v ∈ xs) → Qd H3) : GoL K a D H1 Qd (gName j) tt (tVar j) σ vs := by
  have nD0 : H D = none := s1.free nD
  refine lc_list (xs := xs) (fun i H' => ∃ (ys : List V), Same H H' ∧ H' D = some (.lst ys) ∧ ys.length ≤ i ∧ ∀ d ∈ ys, d ∈ xs)
    ⟨[], s1.trans (Same.new nD), upd_same, Nat.le_refl _, fun k h => nomatch h⟩ ?_ ?_ ?_
  · rintro i H3 _ ⟨_, s3, _⟩
    exact SqL.of (s3 _ _ hx)
  · rintro i x H3 hi ⟨ys, s3, hD, hl, hF⟩
    have hi2 := (List.getElem?_eq_some_iff.mp hi).1
    refine ⟨hw _, ?_⟩
    refine hs x H3 _ (List.mem_of_getElem? hi) s3 fun b H4 s4 => ?_
    cases b with
    | true =>
      refine iteT ⟨_, hj _, ys, s4 _ _ hD, small5 (by omega), ys ++ [x], Same.put (s3.trans s4) nD0, upd_same, by rw [List.length_append]; show ys.length + 1 ≤ i + 1; omega, fun k hk => ?_⟩
      rcases List.mem_append.mp hk with hk | hk
      · exact hF k hk
      · rw [List.mem_singleton.mp hk]; exact List.mem_of_getElem? hi
    | false =>
      refine iteF ⟨ys, s3.trans s4, s4 _ _ hD, by omega, hF⟩
  · rintro H3 ⟨ys, s3, hD, hl, hF⟩
    exact hd H3 ys s3 hD (by omega) hF
end
end GJ

set_option Elab.async false
set_option linter.all false
set_option maxRecDepth 100000
set_option maxHeartbeats 4000000
namespace GJ
open PySem PySem.Spec PyProof.Rows L2 TL
set_option pp.maxSteps 300
abbrev Way := Side × List Arc
theorem pairD_shaped (q : Int × Int) : SeqAt.shaped (pairD q) = true := by
  simp [pairD, SeqAt.shaped, PyData.canLay0, PyData.canLayAll0, PyData.depth, PyData.depthAll]
structure Pap where
  a : Way
  b : Way
  at_ : Int
def wayD (w : Way) : PyData := .tuple [sideD w.1, .list (w.2.map arcD)]
def papD (p : Pap) : PyData := .tuple [wayD p.a, wayD p.b, .int p.at_]
/-- bounds of a paper of two ways -/
structure POk (M : Parts) (L : Nat) (p : Pap) : Prop where
  ha : p.a.1 ∈ M.bs
  hb : p.b.1 ∈ M.bs
  ma : ∀ e ∈ p.a.2, e ∈ M.as
  mb : ∀ e ∈ p.b.2, e ∈ M.as
  la : p.a.2.length ≤ L
  lb : p.b.2.length ≤ L
  t0 : 0 ≤ p.at_
  t1 : p.at_ ≤ 6
def MidW (z : Zz) (H0 : Hp) (M : Parts) (p : Addr) (m : Int) (X A B C Y : Addr) (n : Nat) : L2.St → Hp → Prop := fun σ H' => ∃ (ya yb yc : List V) (ps : List (Int × Int)) (p0 p1 : List Arc) (x6 x7 x8 x9 : Option V),
  σ = [some (.ref z.s), some (.ref p), some (.int m), some (.ref X), some (.ref A), some (.ref Y), x6, x7, x8, x9, none, none, none, none] ∧ G3 z H0 A B C H' ya yb yc ps p0 p1 ∧ hide (Z3 z A B C) H' Y = some (.lst [.ref B, .ref C]) ∧
  p0.length = n ∧ p1.length = n ∧ ps.length = n + 1 ∧ (∀ e ∈ p0, e ∈ M.as) ∧ (∀ e ∈ p1, e ∈ M.as)
section
variable {P : Program} {w : World} {K : PySem.W.Frag} {mg : Str → Option Value} {base : Heap}
set_option hygiene false in
local macro_rules | `(tactic| walk_at "w") => `(tactic| repeat (first
  | refine ⟨_, rfl, ?_⟩
  | refine ⟨_, _, rfl, rfl, (by first | decide | omega), fun r r0 r1 re => ?_⟩
  | refine ⟨_, _, rfl, rfl, (by first | exact Or.inl ⟨by omega, by omega⟩ | exact Or.inr ⟨by omega, by omega⟩ : CMul _ _), ?_⟩
  | refine ⟨_, _, rfl, rfl, (by first | exact ⟨by decide, by decide⟩ | exact ⟨by omega, by omega⟩ : CDiv _ _), ?_⟩
  | refine ⟨_, _, rfl, rfl, (by exact ⟨by decide, by decide, by decide⟩ : CPow _ _), ?_⟩
  | refine ⟨_, _, rfl, rfl, ?_⟩
  | refine ⟨(by rfl : scal _ _ = true), ?_⟩
  | refine Or.inl ⟨_, rfl, ?_⟩
  | refine ⟨_, _, rfl, fun m m0 m1 m2 => ?_⟩
  | refine ⟨_, _, _, _, rfl, rfl, SqL.of (by first | assumption | exact upd_same | exact fx _ | exact fy _), rfl, ?_⟩
  | refine ⟨_, _, _, _, rfl, rfl, (by first | assumption | exact upd_same | exact fx _ | exact fy _), rfl, ?_⟩
  | refine ⟨_, _, _, _, rfl, rfl, SqT.of (by first | assumption | exact upd_same | exact fx _ | exact fy _), rfl, ?_⟩
  | refine ⟨(szle (by omega) : Str.length _ ≤ sizeLine), ?_⟩
  | refine ⟨(szle (by first | omega | (rw [sla]; omega) | (rw [sla, sla]; omega)) : Str.length _ + Str.length _ ≤ sizeLine), ?_⟩
  | refine ⟨_, _, rfl, len_lst (by first | assumption | exact upd_same | exact fx _ | exact fy _), ?_⟩))
set_option hygiene false in
local macro_rules | `(tactic| walk_at "if") => `(tactic| (refine ite2 (fun hc => ?_) (fun hc => ?_) <;>
  simp only [decide_eq_true_eq, Bool.not_eq_true', decide_eq_false_iff_not, V.int.injEq, V.str.injEq, V.bl.injEq, Decidable.not_not, Bool.not_eq_true, V.int_ne, Int.not_lt, Int.not_le, Bool.true_eq_false, Bool.false_eq_true, not_true_eq_false, not_false_eq_true] at hc))
set_option hygiene false in
local macro_rules | `(tactic| walk_at "new") => `(tactic| (refine ⟨by first | decide | (simp only [List.length_cons, List.length_nil, List.length_append, List.length_map]; first | decide | (rw [sizeLine_eq]; omega)), fun p np => ?_⟩))
set_option hygiene false in
local macro_rules | `(tactic| walk_at "yes") => `(tactic| refine itY (by first | rfl | exact decide_eq_true (by first | rfl | omega | assumption) | (simp only [decide_eq_true_eq, Bool.not_eq_true', decide_eq_false_iff_not, V.int.injEq, V.str.injEq, V.bl.injEq]; first | omega | assumption)) ?_)
set_option hygiene false in
local macro_rules | `(tactic| walk_at "no") => `(tactic| refine itN (by first | decide | (simp only [decide_eq_true_eq, Bool.not_eq_true', decide_eq_false_iff_not, V.int.injEq, V.str.injEq, V.bl.injEq, Bool.not_eq_true, Decidable.not_not]; first | omega | assumption)) ?_)
def sp_wayPair : Sp := fun vs H Q _ => ∃ (z : Zz) (v : V) (M : Parts) (m : Int), vs = [.ref z.s, v, .int m] ∧ St z H ∧ DA (hide z H) v (partsD M) ∧ PV M ∧ 1 ≤ m ∧ m ≤ 7 ∧
  (∀ H', Wd z H H' → Q .non H') ∧ ∀ v' H' p, Wd z H H' → DA (hide z H') v' (papD p) → POk M 10 p → Q v' H'
def N__law_way_pair : List Str := ["_law_store_here", "_law_parts", "_law_limit", "_law_heads", "_law_places", "_law_paths", "_law_k", "_law_links", "_law_one", "_law_two", "_law_size", "_law_good", "_law_at", "_law_x"]
theorem sc__law_way_pair : FnScope N__law_way_pair ["_law_store_here", "_law_parts", "_law_limit"] (defScope (top 67)) := ⟨rfl, rfl, rfl, by decide +kernel, rfl, by decide +kernel, by decide +kernel⟩
theorem ok__law_way_pair (En : Env K mg fas fns prs) : Ok P w K mg base "_law_way_pair" 4 ["_law_store_here", "_law_parts", "_law_limit"] sp_wayPair := by
  refine ok_mk 48 67 En sc__law_way_pair (fun _ _ _ _ _ _ us hl => match us, hl with | [_, _, _], _ => rfl) (fun vs H Q E h => ?_) (fun f cdv A outer s H vs Q E hr h => ?_)
  · obtain ⟨z, v, M, m, rfl, _⟩ := h
    rfl
  · obtain ⟨z, v, M, lim, rfl, hz, hv, hPV, lim0, lim1, kN, k⟩ := h
    obtain ⟨p, b, a, e, xb, xa, xe, rfl, hp, hb, ha, he, jb, ja, je⟩ := hv.parts_inv
    have hp0 := hide_le _ _ _ _ hp
    have hb0 := hide_le _ _ _ _ hb
    have lb : xb.length ≤ 100 := by rw [jb.len, List.length_map]; exact hPV.cb
    have la : xa.length ≤ 100 := by rw [ja.len, List.length_map]; exact hPV.ca
    refine ⟨_, (pss_cons
        (ps_if (pt_not (pt_truth (pe_ix (ix_tupK (K := K) rfl) (pv 1) pe_int (fun _ _ => rfl)) (by intro _; rfl))) (pss_one (ps_ret pe_non)) pss_nil)
      (pss_cons
        (ps_set (i := 3) sc__law_way_pair.nd rfl (Or.inl rfl) (pe_lst (pa_cons (pe_fn (ok__law_pick En) (hr.mono (by decide)) (pa_cons (pv 0) (pa_cons (pe_ix (ix_tupK (K := K) rfl) (pv 1) pe_int (fun _ _ => rfl)) pa_nil))) (pa_cons (pe_fn (ok__law_pick En) (hr.mono (by decide)) (pa_cons (pv 0) (pa_cons (pe_ix (ix_tupK (K := K) rfl) (pv 1) pe_int (fun _ _ => rfl)) pa_nil))) pa_nil))))
      (pss_cons
        (ps_set (i := 4) sc__law_way_pair.nd rfl (Or.inr rfl) (pe_lst (pa_cons (pe_tup (pa_cons (pe_ix (ix_tupK (K := K) rfl) (pe_ix (ix_listK (K := K) rfl) (pv 3) pe_int (fun _ _ => rfl)) pe_int (fun _ _ => rfl)) (pa_cons (pe_ix (ix_tupK (K := K) rfl) (pe_ix (ix_listK (K := K) rfl) (pv 3) pe_int (fun _ _ => rfl)) pe_int (fun _ _ => rfl)) pa_nil))) pa_nil)))
      (pss_cons
        (ps_set (i := 5) sc__law_way_pair.nd rfl (Or.inl rfl) (pe_lst (pa_cons (pe_lst pa_nil) (pa_cons (pe_lst pa_nil) pa_nil))))
      (C8.pss_cut
        (ps_for PassesOwn.never rfl (pi_range1 rfl (fr_range En) (pa_cons (pv 2) pa_nil)) (pg_name (i := 6) sc__law_way_pair.nd rfl (Or.inr rfl)) (pss_cons
        (ps_setLc (i := 7) (own := [("_law_x", 13)]) (g := gName 13) (tt := _) rfl sc__law_way_pair.nd rfl rfl (sw_true rfl rfl rfl (by decide +kernel)) (pi_listK (K := K) rfl (pe_ix (ix_tupK (K := K) rfl) (pv 1) pe_int (fun _ _ => rfl))) (blkOk_by (own := [("_law_x", 13)]) (N := N__law_way_pair) (sc := defScope (top 67)) (by decide +kernel)) (fun _ _ _ _ _ => (pg_name (i := 13) sc__law_way_pair.nd rfl (Or.inl rfl))) (fun _ _ _ _ _ => (pts_one (pt_cmpR op_eq (pe_ix (ix_tupK (K := K) rfl) (pv 13) pe_int (fun _ _ => rfl)) (pe_ix (ix_tupK (K := K) rfl) (pe_ix (ix_listK (K := K) rfl) (pv 4) (pv 6) (fun _ _ => rfl)) pe_int (fun _ _ => rfl)) (nomark _)))) (fun _ _ _ _ _ => (pv 13)))
      (pss_cons
        (ps_if (pt_not (pt_truth (pv 7) (by intro _; rfl))) (pss_one ps_break) pss_nil)
      (pss_cons
        (ps_set (i := 8) sc__law_way_pair.nd rfl (Or.inr rfl) (pe_fn (ok__law_pick En) (hr.mono (by decide)) (pa_cons (pv 0) (pa_cons (pv 7) pa_nil))))
      (pss_cons
        (ps_setLc (i := 7) (own := [("_law_x", 13)]) (g := gName 13) (tt := _) rfl sc__law_way_pair.nd rfl rfl (sw_true rfl rfl rfl (by decide +kernel)) (pi_listK (K := K) rfl (pe_ix (ix_tupK (K := K) rfl) (pv 1) pe_int (fun _ _ => rfl))) (blkOk_by (own := [("_law_x", 13)]) (N := N__law_way_pair) (sc := defScope (top 67)) (by decide +kernel)) (fun _ _ _ _ _ => (pg_name (i := 13) sc__law_way_pair.nd rfl (Or.inl rfl))) (fun _ _ _ _ _ => (pts_one (PW.pt (pw_and (pt_cmpR op_eq (pe_ix (ix_tupK (K := K) rfl) (pv 13) pe_int (fun _ _ => rfl)) (pe_ix (ix_tupK (K := K) rfl) (pe_ix (ix_listK (K := K) rfl) (pv 4) (pv 6) (fun _ _ => rfl)) pe_int (fun _ _ => rfl)) (nomark _)) (pw_and1 (pt_cmpR op_eq (pe_ix (ix_tupK (K := K) rfl) (pv 13) pe_int (fun _ _ => rfl)) (pe_ix (ix_tupK (K := K) rfl) (pv 8) pe_int (fun _ _ => rfl)) (nomark _))))))) (fun _ _ _ _ _ => (pv 13)))
      (pss_cons
        (ps_if (pt_not (pt_truth (pv 7) (by intro _; rfl))) (pss_one ps_break) pss_nil)
      (pss_cons
        (ps_set (i := 9) sc__law_way_pair.nd rfl (Or.inl rfl) (pe_fn (ok__law_pick En) (hr.mono (by decide)) (pa_cons (pv 0) (pa_cons (pv 7) pa_nil))))
      (pss_cons
        (ps_expr (pe_bm PySem.F.plainAttrs_list PySem.F.slot_list_append PySem.F.type_list_append mt_append (pe_ix (ix_listK (K := K) rfl) (pv 5) pe_int (fun _ _ => rfl)) (pa_cons (pv 8) pa_nil)))
      (pss_cons
        (ps_expr (pe_bm PySem.F.plainAttrs_list PySem.F.slot_list_append PySem.F.type_list_append mt_append (pe_ix (ix_listK (K := K) rfl) (pv 5) pe_int (fun _ _ => rfl)) (pa_cons (pv 9) pa_nil)))
      (pss_one
        (ps_expr (pe_bm PySem.F.plainAttrs_list PySem.F.slot_list_append PySem.F.type_list_append mt_append (pv 4) (pa_cons (pe_tup (pa_cons (pe_ix (ix_tupK (K := K) rfl) (pv 8) pe_int (fun _ _ => rfl)) (pa_cons (pe_ix (ix_tupK (K := K) rfl) (pv 9) pe_int (fun _ _ => rfl)) pa_nil))) pa_nil)))))))))))))
      (pss_cons
        (ps_set (i := 10) sc__law_way_pair.nd rfl (Or.inr rfl) (pe_op op_sub (pe_callB (call_lenK (K := K) rfl) (by rfl) (fr_len En) bt_len (pa_cons (pv 4) pa_nil)) pe_int))
      (pss_cons
        (ps_setLc (i := 11) (own := [("_law_k", 6)]) (g := gName 6) (tt := _) rfl sc__law_way_pair.nd rfl rfl (sw_true rfl rfl rfl (by decide +kernel)) (pi_range1 rfl (fr_range En) (pa_cons (pv 10) pa_nil)) (blkOk_by (own := [("_law_k", 6)]) (N := N__law_way_pair) (sc := defScope (top 67)) (by decide +kernel)) (fun _ _ _ _ _ => (pg_name (i := 6) sc__law_way_pair.nd rfl (Or.inl rfl))) (fun _ _ _ _ _ => (pts_one (pt_cmpR (op_eqDK (K := K) rfl hr.units) (pe_ix (ix_listK (K := K) rfl) (pv 4) (pv 6) (fun _ _ => rfl)) (pe_ix (ix_listK (K := K) rfl) (pv 4) (pv 10) (fun _ _ => rfl)) (nomark _)))) (fun _ _ _ _ _ => (pv 6)))
      (pss_cons
        (ps_set (i := 12) sc__law_way_pair.nd rfl (Or.inl rfl) (pe_fn (ok__law_between En) (hr.mono (by decide)) (pa_cons (pv 0) (pa_cons pe_int (pa_cons (pe_callB (call_maxR rfl) (by rfl) (fr_max En) bt_max (pa_cons pe_int (pa_cons (pe_op op_sub (pv 10) pe_int) pa_nil))) pa_nil)))))
      (C8.pss_cut
        (ps_if (PW.pt (pw_and (pt_truth (pv 11) (by intro _; rfl)) (pw_and1 (pt_cmpR op_gt (pe_fn (ok__law_take En) (hr.mono (by decide)) (pa_cons (pv 0) (pa_cons pe_int pa_nil))) pe_int (nomark _))))) (pss_one (ps_set (i := 12) sc__law_way_pair.nd rfl (Or.inl rfl) (pe_fn (ok__law_pick En) (hr.mono (by decide)) (pa_cons (pv 0) (pa_cons (pv 11) pa_nil))))) pss_nil)
      (pss_one
        (ps_ret (pe_tup (pa_cons (pe_tup (pa_cons (pe_ix (ix_listK (K := K) rfl) (pv 3) pe_int (fun _ _ => rfl)) (pa_cons (pe_ix (ix_listK (K := K) rfl) (pv 5) pe_int (fun _ _ => rfl)) pa_nil))) (pa_cons (pe_tup (pa_cons (pe_ix (ix_listK (K := K) rfl) (pv 3) pe_int (fun _ _ => rfl)) (pa_cons (pe_ix (ix_listK (K := K) rfl) (pv 5) pe_int (fun _ _ => rfl)) pa_nil))) (pa_cons (pv 12) pa_nil))))))))))))))), ?_⟩
    walk_at "w"
    refine ⟨!xb.isEmpty, .inl ⟨xb, SqL.of hb0, rfl⟩, ?_⟩
    by_cases hne : xb = []
    · subst hne
      refine iteT ?_
      walk_at "w"
      exact kN _ (Wd.refl hz)
    rw [show (!xb.isEmpty) = true by cases xb with | nil => exact absurd rfl hne | cons a b => rfl]
    refine iteF ?_
    walk_at "w"
    refine ⟨z, _, rfl, hz, Or.inl ⟨b, xb, rfl, hb, hne, by omega, fun v1 hv1 H1 w1 => ?_⟩⟩
    obtain ⟨d1, e1, f1⟩ := jb.mem hv1
    obtain ⟨s1, hs1, rfl⟩ := map_mem e1
    have hp1 := w1.up _ _ hp
    have hp1' := hide_le _ _ _ _ hp1
    walk_at "w"
    refine ⟨z, _, rfl, w1.st, Or.inl ⟨b, xb, rfl, w1.up _ _ hb, hne, by omega, fun v2 hv2 H2 w2 => ?_⟩⟩
    obtain ⟨d2, e2, f2⟩ := jb.mem hv2
    obtain ⟨s2, hs2, rfl⟩ := map_mem e2
    replace w2 := w1.trans w2
    walk_at "w"
    refine ⟨szr rfl, fun X nX => ?_⟩
    have wX := w2.new (o := .lst [v1, v2]) nX
    have hX := w2.here (o := .lst [v1, v2]) nX
    replace f1 := wX.da f1
    replace f2 := wX.da f2
    replace hp1 := wX.up _ _ hp
    replace ja := wX.das ja
    have ha1 := wX.up _ _ ha
    generalize upd H2 X (.lst [v1, v2]) = H3 at *
    obtain ⟨q1, rfl, hq1⟩ := f1.side_inv
    obtain ⟨q2, rfl, hq2⟩ := f2.side_inv
    have hX' := hide_le _ _ _ _ hX
    have hq1' := hide_le _ _ _ _ hq1
    have hq2' := hide_le _ _ _ _ hq2
    have s1k := hPV.bs _ hs1
    have s2k := hPV.bs _ hs2
    walk_at "w"
    refine ⟨szr rfl, fun r0 nr0 => ?_⟩
    have wr := (Wd.refl wX.st).new (o := .tup [.int s1.1, .int s2.1]) nr0
    walk_at "w"
    refine ⟨szr rfl, fun A0 nA => ?_⟩
    have ga : Lg z H3 A0 _ [.ref r0] ([(s1.1, s2.1)].map pairD) := Lg.copy wX.st wr nA (.one (DA.pair (e := (s1.1, s2.1)) ((Wd.refl wX.st).here nr0)))
    walk_at "w"
    refine ⟨szr rfl, fun B nB => ?_⟩
    have gb : Lg (z.add A0) _ B _ [] (([] : List Arc).map arcD) := Lg.start ga.st (Wd.refl ga.st) nB
    walk_at "w"
    refine ⟨szr rfl, fun C nC => ?_⟩
    have gc : Lg ((z.add A0).add B) _ C _ [] (([] : List Arc).map arcD) := Lg.start gb.st (Wd.refl gb.st) nC
    have g := G3.start ga (Wd.refl ga.st) gb gc
    walk_at "w"
    refine ⟨szr rfl, fun Y nY => ?_⟩
    have wY := (Wd.refl g.st).new (o := .lst [.ref B, .ref C]) nY
    have hY := (Wd.refl g.st).here (o := .lst [.ref B, .ref C]) nY
    replace g := g.step wY
    generalize upd (upd (upd (upd (upd H3 r0 (.tup [.int s1.1, .int s2.1])) A0 (.lst [.ref r0])) B (.lst [])) C (.lst [])) Y (.lst [.ref B, .ref C]) = H4 at *
    clear wY nY gb gc nB nC ga nA wr nr0
    walk_at "w"
    refine ⟨fun σ H' => ∃ n, n ≤ 7 ∧ MidW z H3 M p lim X A0 B C Y n σ H', ?_, ?_⟩
    · walk_at "w"
      refine ⟨by omega, by omega, for_range (lo := 0) (n := lim.toNat) (fun i σ H' => MidW z H3 M p lim X A0 B C Y i σ H') ?_ ?_ ?_⟩
      · exact ⟨_, _, _, _, _, _, _, _, _, _, rfl, g, hY, rfl, rfl, rfl, fun e h => (nomatch h), fun e h => (nomatch h)⟩
      · rintro i σ H5 hi ⟨ya, yb, yc, ps, p0, p1, x6, x7, x8, x9, rfl, g, hY, l0, l1, lp, i0, i1⟩
        have hpz := g.old _ _ hp1
        have hp5 := hide_le _ _ _ _ hpz
        have ha5 := hide_le _ _ _ _ (g.old _ _ ha1)
        have ja5 := ja.up g.old
        have hA5 := g.a
        have hyl := g.da.len
        rw [List.length_map] at hyl
        obtain ⟨vp, vp1, vp2⟩ := at_nn (xs := ya) (i := 0 + (i : Int)) (by omega) (by omega)
        obtain ⟨dp, dp1, dp2⟩ := g.da.mem (at_mem vp1)
        obtain ⟨pq, hpq, rfl⟩ := map_mem dp1
        obtain ⟨cp, rfl, hcp⟩ := dp2.pair_inv
        have hcp5 := hide_le _ _ _ _ hcp
        walk_at "w"
        refine ⟨⟨_, SqL.of ha5⟩, fun D nD => ?_⟩
        refine lc_some (Same.refl H5) nD ha5 (by omega) ?_ ?_ ?_ ?_
        · exact fun _ => rfl
        · exact fun _ => rfl
        · intro x H6 R hx s6 hR
          obtain ⟨d, e1, e2⟩ := ja5.mem hx
          obtain ⟨y, hy, rfl⟩ := map_mem e1
          obtain ⟨c, rfl, hc⟩ := e2.arc_inv
          have hc6 := s6 _ _ (hide_le _ _ _ _ hc)
          have hA6 := s6 _ _ hA5
          have hcp6 := s6 _ _ hcp5
          walk_at "w"
          refine ⟨_, _, _, _, rfl, rfl, SqL.of hA6, vp2, ?_⟩
          walk_at "w"
          exact hR _ _ (Same.refl _)
        intro H6 ys s6 hD hyl6 hym
        have w6 := Wd.of_same g.st s6
        have hDz := hide_of (g.st.ne nD) hD
        walk_at "w"
        refine ⟨!ys.isEmpty, .inl ⟨ys, SqL.of hD, rfl⟩, ?_⟩
        by_cases hne1 : ys = []
        · subst hne1
          refine iteT ?_
          exact ⟨i, by omega, _, _, _, _, _, _, _, _, _, _, rfl, g.step w6, w6.up _ _ hY, l0, l1, lp, i0, i1⟩
        rw [show (!ys.isEmpty) = true by cases ys with | nil => exact absurd rfl hne1 | cons a b => rfl]
        refine iteF ?_
        walk_at "w"
        refine ⟨Z3 z A0 B C, _, rfl, w6.st, Or.inl ⟨D, ys, rfl, hDz, hne1, by omega, fun v3 hv3 H7 w7 => ?_⟩⟩
        have w57 := w6.trans w7
        obtain ⟨d3, e3, f3⟩ := ja5.mem (hym _ hv3)
        obtain ⟨y3, hy3, rfl⟩ := map_mem e3
        replace f3 := w57.da f3
        obtain ⟨c3, rfl, hc3⟩ := f3.arc_inv
        have hc3' := hide_le _ _ _ _ hc3
        have hp7 := hide_le _ _ _ _ (w57.up _ _ hpz)
        have ha7 := hide_le _ _ _ _ (w57.up _ _ (g.old _ _ ha1))
        have g7 := g.step w57
        have hA7 := g7.a
        have hcp7 := hide_le _ _ _ _ (w57.up _ _ hcp)
        walk_at "w"
        refine ⟨⟨_, SqL.of ha7⟩, fun D2 nD2 => ?_⟩
        refine lc_some (Same.refl H7) nD2 ha7 (by omega) ?_ ?_ ?_ ?_
        · exact fun _ => rfl
        · exact fun _ => rfl
        · intro x H8 R hx s8 hR
          obtain ⟨d, e1, e2⟩ := (w57.das ja5).mem hx
          obtain ⟨y, hy, rfl⟩ := map_mem e1
          obtain ⟨c, rfl, hc⟩ := e2.arc_inv
          have hc8 := s8 _ _ (hide_le _ _ _ _ hc)
          have hA8 := s8 _ _ hA7
          have hcp8 := s8 _ _ hcp7
          have hc38 := s8 _ _ hc3'
          walk_at "w"
          refine ⟨_, _, _, _, rfl, rfl, SqL.of hA8, vp2, ?_⟩
          walk_at "w"
          walk_at "if"
          · walk_at "w"
            exact hR _ _ (Same.refl _)
          · exact hR _ _ (Same.refl _)
        intro H8 ys8 s8 hD2 hyl8 hym8
        have w8 := Wd.of_same g7.st s8
        have hDz2 := hide_of (g7.st.ne nD2) hD2
        have w58 := w57.trans w8
        walk_at "w"
        refine ⟨!ys8.isEmpty, .inl ⟨ys8, SqL.of hD2, rfl⟩, ?_⟩
        by_cases hne2 : ys8 = []
        · subst hne2
          refine iteT ?_
          exact ⟨i, by omega, _, _, _, _, _, _, _, _, _, _, rfl, g.step w58, w58.up _ _ hY, l0, l1, lp, i0, i1⟩
        rw [show (!ys8.isEmpty) = true by cases ys8 with | nil => exact absurd rfl hne2 | cons a b => rfl]
        refine iteF ?_
        walk_at "w"
        refine ⟨Z3 z A0 B C, _, rfl, w8.st, Or.inl ⟨D2, ys8, rfl, hDz2, hne2, by omega, fun v4 hv4 H9 w9 => ?_⟩⟩
        have w59 := w58.trans w9
        obtain ⟨d4, e4, f4⟩ := (w57.das ja5).mem (hym8 _ hv4)
        obtain ⟨y4, hy4, rfl⟩ := map_mem e4
        replace f4 := (w8.trans w9).da f4
        replace f3 := (w8.trans w9).da f3
        obtain ⟨c4, rfl, hc4⟩ := f4.arc_inv
        have g9 := g.step w59
        have hY9 := w59.up _ _ hY
        have hY9' := hide_le _ _ _ _ hY9
        walk_at "w"
        refine ⟨Or.inl ⟨rfl, _, SqL.of g9.b⟩, ?_⟩
        walk_at "w"
        refine ⟨B, yb, _, rfl, rfl, g9.b, small5 (by have := g9.db.len; rw [List.length_map] at this; omega), ?_⟩
        have g10 := g9.appB f3
        have hY10 : hide (Z3 z A0 B C) (upd H9 B (.lst (yb ++ [.ref c3]))) Y = _ := z3_put (.inr (.inl rfl)) _ _ hY9
        have f4' := f4.up (z3_put (A := A0) (B := B) (C := C) (p := B) (o := .lst (yb ++ [.ref c3])) (.inr (.inl rfl)))
        have f3' := f3.up (z3_put (A := A0) (B := B) (C := C) (p := B) (o := .lst (yb ++ [.ref c3])) (.inr (.inl rfl)))
        have hY10' := hide_le _ _ _ _ hY10
        walk_at "w"
        refine ⟨Or.inl ⟨rfl, _, SqL.of g10.c⟩, ?_⟩
        walk_at "w"
        refine ⟨C, yc, _, rfl, rfl, g10.c, small5 (by have := g10.dc.len; rw [List.length_map] at this; omega), ?_⟩
        have g11 := g10.appC f4'
        have hY11 := z3_put (A := A0) (B := B) (C := C) (p := C) (o := .lst (yc ++ [.ref c4])) (.inr (.inr rfl)) _ _ hY10
        have hA11 := g11.a
        replace f3' := f3'.up (z3_put (A := A0) (B := B) (C := C) (p := C) (o := .lst (yc ++ [.ref c4])) (.inr (.inr rfl)))
        replace f4' := f4'.up (z3_put (A := A0) (B := B) (C := C) (p := C) (o := .lst (yc ++ [.ref c4])) (.inr (.inr rfl)))
        generalize upd (upd H9 B (.lst (yb ++ [.ref c3]))) C (.lst (yc ++ [.ref c4])) = H11 at *
        obtain ⟨c3', e, hc3''⟩ := f3'.arc_inv
        cases e
        obtain ⟨c4', e, hc4''⟩ := f4'.arc_inv
        cases e
        have h3 := hide_le _ _ _ _ hc3''
        have h4 := hide_le _ _ _ _ hc4''
        walk_at "w"
        refine ⟨Or.inl ⟨rfl, _, SqL.of hA11⟩, ?_⟩
        walk_at "w"
        refine ⟨szr rfl, fun t nt => ?_⟩
        have wt := (Wd.refl g11.st).new (o := .tup [.int y3.2.2.2, .int y4.2.2.2]) nt
        have g12 := g11.step wt
        walk_at "w"
        refine ⟨A0, ya, _, rfl, rfl, g12.a, small5 (by omega), ?_⟩
        exact ⟨_, _, _, _, _, _, _, _, _, _, rfl, g12.appA (DA.pair (e := (y3.2.2.2, y4.2.2.2)) ((Wd.refl g11.st).here nt)), z3_put (.inl rfl) _ _ (wt.up _ _ hY11), by rw [List.length_append, l0]; rfl, by rw [List.length_append, l1]; rfl, by rw [List.length_append, lp]; rfl, mem_snoc i0 hy3, mem_snoc i1 hy4⟩
      · rintro σ H5 h5
        exact ⟨lim.toNat, by omega, h5⟩
    rintro σ H5 ⟨n, hn, ya, yb, yc, ps, p0, p1, x6, x7, x8, x9, rfl, g, hY, l0, l1, lp, i0, i1⟩
    have hyl := g.da.len
    rw [List.length_map] at hyl
    have w5 := wX.trans g.wd
    have hAz : hide z H5 A0 = _ := hide_of g.ea g.a
    have hAd := g.da.up (z3_drop z A0 B C H5)
    have dB : DA (hide z H5) (.ref B) (.list (p0.map arcD)) := .lst (hide_of g.eb g.b) (g.db.up (z3_drop z A0 B C H5))
    have dC : DA (hide z H5) (.ref C) (.list (p1.map arcD)) := .lst (hide_of g.ec g.c) (g.dc.up (z3_drop z A0 B C H5))
    replace hY := z3_drop z A0 B C H5 _ _ hY
    replace hX := g.wd.up _ _ hX
    replace f1 := g.wd.da f1
    replace f2 := g.wd.da f2
    clear g
    have hA5 := hide_le _ _ _ _ hAz
    obtain ⟨vn, vn1, vn2⟩ := at_nn (xs := ya) (i := (n : Int)) (by omega) (by omega)
    obtain ⟨dn, dn1, dn2⟩ := hAd.get vn1
    rw [List.getElem?_map] at dn1
    obtain ⟨qn, hqn, rfl⟩ : ∃ qn, ps[n]? = some qn ∧ pairD qn = dn := by
      rw [Int.toNat_natCast] at dn1
      cases q : ps[n]? with
      | none => rw [q] at dn1; cases dn1
      | some x => rw [q] at dn1; cases dn1; exact ⟨x, rfl, rfl⟩
    have hsz : (ya.length : Int) - 1 = n := by omega
    have vn2' : atI ya ((ya.length : Int) - 1) = some vn := by rw [hsz]; exact vn2
    walk_at "w"
    have hlt : ((ya.length : Int) - 1).toNat = n := by omega
    refine ⟨by omega, by omega, fun D nD => ?_⟩
    refine lc_rngF (lo := 0) (n := ((ya.length : Int) - 1).toNat) (Same.refl H5) nD (by omega) (fun i => ∀ qi, ps[i]? = some qi → PyData.eqv (pairD qi) (pairD qn) = true) ?_ ?_ ?_ ?_
    · exact fun _ => rfl
    · exact fun _ => rfl
    · intro i H6 R hi s6 hR
      have hA6 := s6 _ _ hA5
      obtain ⟨v, v1, v2⟩ := at_nn (xs := ya) (i := 0 + (i : Int)) (by omega) (by omega)
      obtain ⟨d, d1, d2⟩ := hAd.get v1
      rw [List.getElem?_map, show (0 + (i : Int)).toNat = i by omega] at d1
      cases q : ps[i]? with
      | none => rw [q] at d1; cases d1
      | some x =>
        rw [q] at d1
        cases d1
        walk_at "w"
        refine ⟨_, _, _, _, rfl, rfl, SqL.of hA6, v2, ?_⟩
        walk_at "w"
        refine ⟨_, _, _, _, rfl, rfl, SqL.of hA6, vn2', ?_⟩
        refine ⟨pairD x, pairD qn, (d2.up ((hide_le z H5).trans s6)).dp _, (dn2.up ((hide_le z H5).trans s6)).dp _, pairD_shaped x, pairD_shaped qn, ?_⟩
        refine ⟨_, rfl, hR _ _ (Same.refl _) ⟨fun h qi e => by rw [q] at e; cases e; exact h, fun h => h x q⟩⟩
    intro H6 ns s6 hD hnl hns
    have w6 := Wd.of_same w5.st s6
    have hDz := hide_of (w5.st.ne nD) hD
    replace hX := w6.up _ _ hX
    replace hY := w6.up _ _ hY
    replace dB := w6.da dB
    replace dC := w6.da dC
    replace f1 := w6.da f1
    replace f2 := w6.da f2
    have w06 := w5.trans w6
    walk_at "w"
    refine ⟨z, 0, _, rfl, w6.st, by omega, fun t H7 t0 t1 w7 => ?_⟩
    have ht6 : t ≤ 6 := by omega
    replace hX := w7.up _ _ hX
    replace hY := w7.up _ _ hY
    replace dB := w7.da dB
    replace dC := w7.da dC
    replace f1 := w7.da f1
    replace f2 := w7.da f2
    have w07 := w06.trans w7
    walk_at "w"
    refine ⟨fun σ H' => ∃ (t : Int), σ = [some (.ref z.s), some (.ref p), some (.int lim), some (.ref X), some (.ref A0), some (.ref Y), x6, x7, x8, x9, some (.int ((ya.length : Int) - 1)), some (.ref D), some (.int t), none] ∧ 0 ≤ t ∧ t ≤ 6 ∧ Wd z H7 H', ?_, ?_⟩
    · walk_at "w"
      have hD7 := w7.up _ _ hDz
      refine ⟨!(ns.map V.int).isEmpty, .inl ⟨_, SqL.of (hide_le _ _ _ _ hD7), rfl⟩, ?_⟩
      by_cases hne3 : ns = []
      · subst hne3
        refine iteF ?_
        refine iteF ?_
        exact ⟨_, rfl, t0, ht6, Wd.refl w7.st⟩
      rw [show (!(ns.map V.int).isEmpty) = true by cases ns with | nil => exact absurd rfl hne3 | cons a b => rfl]
      refine iteT ?_
      walk_at "w"
      refine ⟨z, _, rfl, w7.st, by decide, fun u H8 u0 u1 w8 => ?_⟩
      walk_at "w"
      walk_at "if"
      · walk_at "w"
        refine ⟨z, _, rfl, w8.st, Or.inl ⟨D, _, rfl, w8.up _ _ hD7, fun q => hne3 (List.map_eq_nil_iff.mp q), by rw [List.length_map]; omega, fun v hv H9 w9 => ?_⟩⟩
        obtain ⟨g, hg, rfl⟩ := List.mem_map.mp hv
        obtain ⟨i, i1, i2, -⟩ := (hns g).mp hg
        exact ⟨_, rfl, by omega, by omega, w8.trans w9⟩
      · exact ⟨_, rfl, t0, ht6, w8⟩
    rintro σ H8 ⟨t, rfl, t0, ht6, w8⟩
    replace hX := w8.up _ _ hX
    replace hY := w8.up _ _ hY
    replace dB := w8.da dB
    replace dC := w8.da dC
    replace f1 := w8.da f1
    replace f2 := w8.da f2
    have w08 := w07.trans w8
    have hX8 := hide_le _ _ _ _ hX
    have hY8 := hide_le _ _ _ _ hY
    walk_at "w"
    refine ⟨szr rfl, fun t1 nt1 => ?_⟩
    have u1 := (Wd.refl w08.st).new (o := .tup [.ref q1, .ref B]) nt1
    have hX9 := hide_le _ _ _ _ (u1.up _ _ hX)
    have hY9 := hide_le _ _ _ _ (u1.up _ _ hY)
    have d1 : DA _ (.ref t1) (wayD (s1, p0)) := .tup (w08.here (o := .tup [.ref q1, .ref B]) nt1) (.cons (u1.da f1) (.one (u1.da dB)))
    replace f2 := u1.da f2
    replace dC := u1.da dC
    generalize upd H8 t1 (.tup [.ref q1, .ref B]) = H9 at *
    walk_at "w"
    refine ⟨szr rfl, fun t2 nt2 => ?_⟩
    have u2 := (Wd.refl u1.st).new (o := .tup [.ref q2, .ref C]) nt2
    have d2 : DA _ (.ref t2) (wayD (s2, p1)) := .tup (u1.here (o := .tup [.ref q2, .ref C]) nt2) (.cons (u2.da f2) (.one (u2.da dC)))
    walk_at "w"
    refine ⟨szr rfl, fun t3 nt3 => ?_⟩
    have u3 := (Wd.refl u2.st).new (o := .tup [.ref t1, .ref t2, .int t]) nt3
    exact k _ _ ⟨(s1, p0), (s2, p1), t⟩ (((w08.trans u1).trans u2).trans u3) (.tup (u2.here nt3) (.cons (u3.da (u2.da d1)) (.cons (u3.da d2) (.one (.int t)))))
      ⟨hs1, hs2, i0, i1, by show p0.length ≤ 10; omega, by show p1.length ≤ 10; omega, t0, ht6⟩
end
end GJ


set_option Elab.async false
set_option linter.all false
set_option maxRecDepth 100000
set_option maxHeartbeats 4000000
namespace GJ
open PySem PySem.Spec PyProof.Rows L2 TL
theorem das_sub {H : Hp} {xs : List V} {ds : List PyData} (h : DAs H xs ds) : ∀ {ys : List V}, (∀ v ∈ ys, v ∈ xs) → ∃ es, DAs H ys es ∧ es.length = ys.length ∧ ∀ e ∈ es, e ∈ ds
  | [], _ => ⟨[], .nil, rfl, fun _ q => nomatch q⟩
  | y :: ys, g => by
    obtain ⟨es, e1, e2, e3⟩ := das_sub h (ys := ys) fun v hv => g v (List.mem_cons_of_mem _ hv)
    obtain ⟨d, d1, d2⟩ := h.mem (g y List.mem_cons_self)
    exact ⟨d :: es, .cons d2 e1, by rw [List.length_cons, e2]; rfl, fun e he => (List.mem_cons.mp he).elim (fun q => q ▸ d1) (e3 e)⟩
theorem das_subM {α : Type} {f : α → PyData} {H : Hp} {xs : List V} {l : List α} (h : DAs H xs (l.map f)) {ys : List V} (g : ∀ v ∈ ys, v ∈ xs) : ∃ l' : List α, DAs H ys (l'.map f) ∧ l'.length = ys.length ∧ ∀ e ∈ l', e ∈ l := by
  obtain ⟨es, e1, e2, e3⟩ := das_sub h g
  obtain ⟨l', rfl, h'⟩ := un_map e3
  exact ⟨l', e1, by rw [← e2, List.length_map], h'⟩
theorem cutV_mem {xs : List V} {lo hi : Option Int} {v : V} (h : v ∈ cutV xs lo hi) : v ∈ xs := List.mem_of_mem_drop (List.mem_of_mem_take h)
theorem cutV_len (xs : List V) (lo hi : Option Int) : (cutV xs lo hi).length ≤ xs.length := by
  unfold cutV
  rw [List.length_take, List.length_drop]
  omega
theorem rep_mem {xs : List V} {n : Nat} {v : V} (h : v ∈ (List.replicate n xs).flatten) : v ∈ xs := by
  obtain ⟨l, h1, h2⟩ := List.mem_flatten.mp h
  rw [List.eq_of_mem_replicate h1] at h2
  exact h2
theorem rep_len (xs : List V) (n : Nat) : (List.replicate n xs).flatten.length = n * xs.length := by
  rw [List.length_flatten, List.map_replicate, List.sum_replicate_nat]
theorem DA.way_inv {H : Hp} {v : V} {x : Way} (h : DA H v (wayD x)) : ∃ p q l xs, v = .ref p ∧ H p = some (.tup [.ref q, .ref l]) ∧ H q = some (.tup [.int x.1.1, .str x.1.2]) ∧ H l = some (.lst xs) ∧ DAs H xs (x.2.map arcD) := by
  obtain ⟨p, xs, rfl, hp, hx⟩ := h.tup_inv
  obtain ⟨v1, _, rfl, i1, hx⟩ := hx.cons_inv
  obtain ⟨v2, _, rfl, i2, hx⟩ := hx.cons_inv
  obtain rfl := hx.nil_inv
  obtain ⟨q, rfl, hq⟩ := i1.side_inv
  obtain ⟨l, xl, rfl, hl, jl⟩ := i2.lst_inv
  exact ⟨p, q, l, xl, rfl, hp, hq, hl, jl⟩
theorem DA.pap_inv {H : Hp} {v : V} {x : Pap} (h : DA H v (papD x)) : ∃ p v1 v2, v = .ref p ∧ H p = some (.tup [v1, v2, .int x.at_]) ∧ DA H v1 (wayD x.a) ∧ DA H v2 (wayD x.b) := by
  obtain ⟨p, xs, rfl, hp, hx⟩ := h.tup_inv
  obtain ⟨v1, _, rfl, i1, hx⟩ := hx.cons_inv
  obtain ⟨v2, _, rfl, i2, hx⟩ := hx.cons_inv
  obtain ⟨v3, _, rfl, i3, hx⟩ := hx.cons_inv
  obtain rfl := hx.nil_inv
  obtain rfl := i3.int_inv
  exact ⟨p, v1, v2, rfl, hp, i1, i2⟩
theorem DA.pap {H : Hp} {p : Addr} {v1 v2 : V} {x : Pap} (h : H p = some (.tup [v1, v2, .int x.at_])) (h1 : DA H v1 (wayD x.a)) (h2 : DA H v2 (wayD x.b)) : DA H (.ref p) (papD x) := .tup h (.cons h1 (.cons h2 (.one (.int _))))
theorem DA.way {H : Hp} {p : Addr} {v1 v2 : V} {x : Way} (h : H p = some (.tup [v1, v2])) (h1 : DA H v1 (sideD x.1)) (h2 : DA H v2 (.list (x.2.map arcD))) : DA H (.ref p) (wayD x) := .tup h (.cons h1 (.one h2))
end GJ

set_option Elab.async false
set_option linter.all false
set_option maxRecDepth 100000
set_option maxHeartbeats 4000000
namespace GJ
open PySem PySem.Spec PyProof.Rows L2 TL
set_option pp.maxSteps 300
def Gd (src w : Way) : Prop := w.1 = src.1 ∧ (∀ e ∈ w.2, e ∈ src.2) ∧ w.2.length ≤ 700
def WayOf (p : Pap) (i : Nat) : Way := match i with | 0 => p.a | _ => p.b
section
variable {P : Program} {w : World} {K : PySem.W.Frag} {mg : Str → Option Value} {base : Heap}
set_option hygiene false in
local macro_rules | `(tactic| walk_at "w") => `(tactic| repeat (first
  | refine ⟨_, rfl, ?_⟩
  | refine ⟨_, _, rfl, rfl, (by first | decide | omega), fun r r0 r1 re => ?_⟩
  | refine ⟨_, _, rfl, rfl, (by first | exact Or.inl ⟨by omega, by omega⟩ | exact Or.inr ⟨by omega, by omega⟩ : CMul _ _), ?_⟩
  | refine ⟨_, _, rfl, rfl, (by first | exact ⟨by decide, by decide⟩ | exact ⟨by omega, by omega⟩ : CDiv _ _), ?_⟩
  | refine ⟨_, _, rfl, rfl, (by exact ⟨by decide, by decide, by decide⟩ : CPow _ _), ?_⟩
  | refine ⟨_, _, rfl, rfl, ?_⟩
  | refine ⟨(by rfl : scal _ _ = true), ?_⟩
  | refine Or.inl ⟨_, rfl, ?_⟩
  | refine ⟨_, _, rfl, fun m m0 m1 m2 => ?_⟩
  | refine ⟨_, _, _, _, rfl, rfl, SqL.of (by first | assumption | exact upd_same | exact fx _ | exact fy _), rfl, ?_⟩
  | refine ⟨_, _, _, _, rfl, rfl, (by first | assumption | exact upd_same | exact fx _ | exact fy _), rfl, ?_⟩
  | refine ⟨_, _, _, _, rfl, rfl, SqT.of (by first | assumption | exact upd_same | exact fx _ | exact fy _), rfl, ?_⟩
  | refine ⟨(szle (by omega) : Str.length _ ≤ sizeLine), ?_⟩
  | refine ⟨(szle (by first | omega | (rw [sla]; omega) | (rw [sla, sla]; omega)) : Str.length _ + Str.length _ ≤ sizeLine), ?_⟩
  | refine ⟨_, _, rfl, len_lst (by first | assumption | exact upd_same | exact fx _ | exact fy _), ?_⟩))
set_option hygiene false in
local macro_rules | `(tactic| walk_at "if") => `(tactic| (refine ite2 (fun hc => ?_) (fun hc => ?_) <;>
  simp only [decide_eq_true_eq, Bool.not_eq_true', decide_eq_false_iff_not, V.int.injEq, V.str.injEq, V.bl.injEq, Decidable.not_not, Bool.not_eq_true, V.int_ne, Int.not_lt, Int.not_le, Bool.true_eq_false, Bool.false_eq_true, not_true_eq_false, not_false_eq_true] at hc))
set_option hygiene false in
local macro_rules | `(tactic| walk_at "new") => `(tactic| (refine ⟨by first | decide | (simp only [List.length_cons, List.length_nil, List.length_append, List.length_map]; first | decide | (rw [sizeLine_eq]; omega)), fun p np => ?_⟩))
set_option hygiene false in
local macro_rules | `(tactic| walk_at "yes") => `(tactic| refine itY (by first | rfl | exact decide_eq_true (by first | rfl | omega | assumption) | (simp only [decide_eq_true_eq, Bool.not_eq_true', decide_eq_false_iff_not, V.int.injEq, V.str.injEq, V.bl.injEq]; first | omega | assumption)) ?_)
set_option hygiene false in
local macro_rules | `(tactic| walk_at "no") => `(tactic| refine itN (by first | decide | (simp only [decide_eq_true_eq, Bool.not_eq_true', decide_eq_false_iff_not, V.int.injEq, V.str.injEq, V.bl.injEq, Bool.not_eq_true, Decidable.not_not]; first | omega | assumption)) ?_)
def sp_turnedPaper : Sp := fun vs H Q _ => ∃ (z : Zz) (v : V) (p : Pap) (m : Int) (M : Parts), vs = [v, .int m] ∧ St z H ∧ DA (hide z H) v (papD p) ∧ POk M 10 p ∧ 1 ≤ m ∧ m ≤ 60 ∧
  ∀ v' H' p', Wd z H H' → DA (hide z H') v' (papD p') → POk M 700 p' → Q v' H'
def N__law_turned_paper : List Str := ["_law_paper", "_law_turns", "_law_paths", "_law_path"]
theorem sc__law_turned_paper : FnScope N__law_turned_paper ["_law_paper", "_law_turns"] (defScope (top 78)) := ⟨rfl, rfl, rfl, by decide +kernel, rfl, by decide +kernel, by decide +kernel⟩
theorem ok__law_turned_paper (En : Env K mg fas fns prs) : Ok P w K mg base "_law_turned_paper" 1 ["_law_paper", "_law_turns"] sp_turnedPaper := by
  refine ok_mk 59 78 En sc__law_turned_paper (fun _ _ _ _ _ _ us hl => match us, hl with | [_, _], _ => rfl) (fun vs H Q E h => ?_) (fun f cdv A outer s H vs Q E hr h => ?_)
  · obtain ⟨z, v, p, m, M, rfl, _⟩ := h
    rfl
  · obtain ⟨z, v, p, m, M, rfl, hz, hv, hP, m0, m1, k⟩ := h
    obtain ⟨pa, v1, v2, rfl, hp, j1, j2⟩ := hv.pap_inv
    have hp0 := hide_le _ _ _ _ hp
    refine ⟨_, (pss_cons
        (ps_set (i := 2) sc__law_turned_paper.nd rfl (Or.inl rfl) (pe_lst pa_nil))
      (pss_cons
        (ps_for PassesOwn.never rfl (pi_tupK (K := K) rfl (pe_slice (sl_tupK (K := K) rfl) (pv 0) po_none (po_some pe_int))) (pg_name (i := 3) sc__law_turned_paper.nd rfl (Or.inl rfl)) (pss_one (ps_expr (pe_bm PySem.F.plainAttrs_list PySem.F.slot_list_append PySem.F.type_list_append mt_append (pv 2) (pa_cons (pe_tup (pa_cons (pe_ix (ix_tupK (K := K) rfl) (pv 3) pe_int (fun _ _ => rfl)) (pa_cons (pe_op op_cat (pe_ix (ix_tupK (K := K) rfl) (pv 3) pe_int (fun _ _ => rfl)) (pe_op op_rep (pe_slice (sl_listK (K := K) rfl) (pe_ix (ix_tupK (K := K) rfl) (pv 3) pe_int (fun _ _ => rfl)) (po_some (pe_ix (ix_tupK (K := K) rfl) (pv 0) pe_int (fun _ _ => rfl))) po_none) (pe_op op_sub (pv 1) pe_int))) pa_nil))) pa_nil)))))
      (pss_one
        (ps_ret (pe_tup (pa_cons (pe_ix (ix_listK (K := K) rfl) (pv 2) pe_int (fun _ _ => rfl)) (pa_cons (pe_ix (ix_listK (K := K) rfl) (pv 2) pe_int (fun _ _ => rfl)) (pa_cons (pe_ix (ix_tupK (K := K) rfl) (pv 0) pe_int (fun _ _ => rfl)) pa_nil)))))))), ?_⟩
    walk_at "w"
    refine ⟨szr rfl, fun D nD => ?_⟩
    have g := Lg.start hz (Wd.refl hz) nD
    have hp1 := hide_le _ _ _ _ (g.wd.up _ _ hp)
    walk_at "w"
    refine ⟨pa, _, rfl, SqT.of hp1, (by show ¬(HT.sIx 3 0 none = 0 ∧ HT.sIx 3 3 (some 2) = 3); decide), fun S nS => ?_⟩
    have wS := (Wd.refl g.st).new (o := .tup [v1, v2]) nS
    have hS := (Wd.refl g.st).here (o := .tup [v1, v2]) nS
    replace g := g.step wS
    have fact : cutV [v1, v2, V.int p.at_] none (some 2) = [v1, v2] := rfl
    rw [fact]
    generalize upd (upd H D (.lst [])) S (.tup [v1, v2]) = H2 at *
    have hS0 := hide_le _ _ _ _ hS
    walk_at "w"
    refine ⟨⟨_, SqT.of hS0⟩, for_tup (xs := [v1, v2]) (fun i σ H' => ∃ (ys : List V) (ws : List Way) (x : Option V), σ = [some (.ref pa), some (.int m), some (.ref D), x] ∧ Lg z H D H' ys (ws.map wayD) ∧ hide (z.add D) H' S = some (.tup [v1, v2]) ∧ ws.length = i ∧ ∀ (j : Nat) w, ws[j]? = some w → Gd (WayOf p j) w) ?_ ?_ ?_ ?_⟩
    · exact ⟨_, [], _, rfl, g, hS, rfl, fun j w h => by simp at h⟩
    · rintro i σ H3 hi ⟨ys, ws, x, rfl, g, hS, h1, h2⟩
      exact SqT.of (hide_le _ _ _ _ hS)
    · rintro i x σ H3 hi ⟨ys, ws, x0, rfl, g, hS, h1, h2⟩
      obtain ⟨hi2, jx, lx⟩ : i < 2 ∧ DA (hide z H) x (wayD (WayOf p i)) ∧ (WayOf p i).2.length ≤ 10 := by
        match i, hi with
        | 0, hi => cases hi; exact ⟨by decide, j1, hP.la⟩
        | 1, hi => cases hi; exact ⟨by decide, j2, hP.lb⟩
        | n + 2, hi => simp at hi
      obtain ⟨c, sd, l, xl, rfl, hc, hsd, hl, jl⟩ := (jx.up g.old).way_inv
      have hc0 := hide_le _ _ _ _ hc
      have hl0 := hide_le _ _ _ _ hl
      have hp3 := hide_le _ _ _ _ (g.old _ _ hp)
      have hll := jl.len
      rw [List.length_map] at hll
      walk_at "w"
      refine ⟨Or.inl ⟨rfl, _, SqL.of g.at_⟩, ?_⟩
      walk_at "w"
      refine ⟨l, xl, rfl, SqL.of hl0, fun T1 nT1 => ?_⟩
      have u1 := (Wd.refl g.st).new (o := .lst (cutV xl (some p.at_) none)) nT1
      have hT1 : upd H3 T1 (.lst (cutV xl (some p.at_) none)) T1 = _ := upd_same
      have hlc := cutV_len xl (some p.at_) none
      walk_at "w"
      have hml : (m - 1).toNat ≤ 59 := by omega
      have hmul : (cutV xl (some p.at_) none).length * (m - 1).toNat ≤ 10 * 59 := Nat.mul_le_mul (by omega) hml
      refine ⟨T1, _, _, rfl, rfl, hT1, by omega, by omega, szle (by omega), fun T2 nT2 => ?_⟩
      have u2 := u1.new (o := .lst (List.replicate (m - 1).toNat (cutV xl (some p.at_) none)).flatten) nT2
      have hl2 := hide_le _ _ _ _ (u2.up _ _ hl)
      have hrl := rep_len (cutV xl (some p.at_) none) (m - 1).toNat
      rw [Nat.mul_comm] at hrl
      refine ⟨l, T2, _, _, rfl, rfl, hl2, upd_same, by rw [hrl]; exact szle (by omega), fun T3 nT3 => ?_⟩
      have hT3 := u2.here (o := .lst (xl ++ (List.replicate (m - 1).toNat (cutV xl (some p.at_) none)).flatten)) nT3
      have u3 := u2.new (o := .lst (xl ++ (List.replicate (m - 1).toNat (cutV xl (some p.at_) none)).flatten)) nT3
      obtain ⟨l', jl', ll', ml'⟩ := das_subM jl (ys := xl ++ (List.replicate (m - 1).toNat (cutV xl (some p.at_) none)).flatten) fun v hv => (List.mem_append.mp hv).elim id fun q => cutV_mem (rep_mem q)
      rw [List.length_append, hrl] at ll'
      walk_at "w"
      refine ⟨szr rfl, fun T nT => ?_⟩
      have u4 := u3.new (o := .tup [.ref sd, .ref T3]) nT
      have g4 := g.step u4
      have hT := u3.here (o := .tup [.ref sd, .ref T3]) nT
      have e4 := (Wd.refl u3.st).new (o := .tup [.ref sd, .ref T3]) nT
      walk_at "w"
      refine ⟨D, ys, _, rfl, rfl, g4.at_, by rw [g4.len, List.length_map]; exact small5 (by omega), ?_⟩
      have gg := g4.app (DA.way (x := ((WayOf p i).1, l')) hT (DA.side (u4.up _ _ hsd)) (.lst (e4.up _ _ hT3) (u4.das jl')))
      refine ⟨_, ws ++ [((WayOf p i).1, l')], _, rfl, by rw [List.map_append]; exact gg, hide_upd z _ D _ _ _ (u4.up _ _ hS), by rw [List.length_append, h1]; rfl, fun j w hj => ?_⟩
      rcases get_snoc h1 hj with hj | ⟨rfl, rfl⟩
      · exact h2 j w hj
      · exact ⟨rfl, ml', by show l'.length ≤ 700; omega⟩
    · rintro σ H3 ⟨ys, ws, x, rfl, g, hS, h1, h2⟩
      match ws, h1, h2, g with
      | [wa, wb], _, h2, g =>
        have ga := h2 0 wa rfl
        have gb := h2 1 wb rfl
        have jt := g.it
        obtain ⟨u1, _, rfl, i1, jt⟩ := jt.cons_inv
        obtain ⟨u2, _, rfl, i2, jt⟩ := jt.cons_inv
        obtain rfl := jt.nil_inv
        have hD3 := g.at_
        have hp3 := hide_le _ _ _ _ (g.wd.up _ _ hp)
        walk_at "w"
        refine ⟨szr rfl, fun T nT => ?_⟩
        have wT := (Wd.refl g.wd.st).new (o := .tup [u1, u2, .int p.at_]) nT
        exact k _ _ ⟨wa, wb, p.at_⟩ (g.wd.trans wT) (DA.pap (x := ⟨wa, wb, p.at_⟩) (g.wd.here nT) (wT.da (i1.up (hide_drop _ _ _))) (wT.da (i2.up (hide_drop _ _ _))))
          ⟨by show wa.1 ∈ _; rw [ga.1]; exact hP.ha, by show wb.1 ∈ _; rw [gb.1]; exact hP.hb, fun e he => hP.ma e (ga.2.1 e he), fun e he => hP.mb e (gb.2.1 e he), ga.2.2, gb.2.2, hP.t0, hP.t1⟩
def sp_reread : Sp := fun vs H Q _ => ∃ (z : Zz) (v u : V) (p : Pap) (M : Parts), vs = [.ref z.s, v, u] ∧ St z H ∧ DA (hide z H) v (partsD M) ∧ PV M ∧ DA (hide z H) u (papD p) ∧ POk M 10 p ∧
  ∀ v' H' p', Wd z H H' → DA (hide z H') v' (papD p') → POk M 10 p' → Q v' H'
def N__law_reread : List Str := ["_law_store_here", "_law_parts", "_law_paper", "_law_path", "_law_at", "_law_link", "_law_links", "_law_x"]
theorem sc__law_reread : FnScope N__law_reread ["_law_store_here", "_law_parts", "_law_paper"] (defScope (top 80)) := ⟨rfl, rfl, rfl, by decide +kernel, rfl, by decide +kernel, by decide +kernel⟩
theorem ok__law_reread (En : Env K mg fas fns prs) : Ok P w K mg base "_law_reread" 4 ["_law_store_here", "_law_parts", "_law_paper"] sp_reread := by
  refine ok_mk 61 80 En sc__law_reread (fun _ _ _ _ _ _ us hl => match us, hl with | [_, _, _], _ => rfl) (fun vs H Q E h => ?_) (fun f cdv A outer s H vs Q E hr h => ?_)
  · obtain ⟨z, v, u, p, M, rfl, _⟩ := h
    rfl
  · obtain ⟨z, v, u, p, M, rfl, hz, hv, hPV, hu, hP, k⟩ := h
    obtain ⟨c, b, a, e, xb, xa, xe, rfl, hc, hb, ha, he, jb, ja, je⟩ := hv.parts_inv
    obtain ⟨q, v1, v2, rfl, hq, j1, j2⟩ := hu.pap_inv
    obtain ⟨q2, sd, l, xl, rfl, hq2, hsd, hl, jl⟩ := j2.way_inv
    have hq0 := hide_le _ _ _ _ hq
    have hq20 := hide_le _ _ _ _ hq2
    have hl0 := hide_le _ _ _ _ hl
    have la : xa.length ≤ 100 := by rw [ja.len, List.length_map]; exact hPV.ca
    have ll : xl.length ≤ 10 := by rw [jl.len, List.length_map]; exact hP.lb
    refine ⟨_, (pss_cons
        (ps_set (i := 3) sc__law_reread.nd rfl (Or.inl rfl) (pe_callTy (call_list_ofK (K := K) rfl) (by rfl) (fr_list En) bt_list (pa_cons (pe_ix (ix_tupK (K := K) rfl) (pe_ix (ix_tupK (K := K) rfl) (pv 2) pe_int (fun _ _ => rfl)) pe_int (fun _ _ => rfl)) pa_nil)))
      (C8.pss_cut
        (ps_if (pt_truth (pv 3) (by intro _; rfl)) (pss_cons
        (ps_set (i := 4) sc__law_reread.nd rfl (Or.inl rfl) (pe_fn (ok__law_take En) (hr.mono (by decide)) (pa_cons (pv 0) (pa_cons (pe_callB (call_lenK (K := K) rfl) (by rfl) (fr_len En) bt_len (pa_cons (pv 3) pa_nil)) pa_nil))))
      (pss_cons
        (ps_set (i := 5) sc__law_reread.nd rfl (Or.inr rfl) (pe_ix (ix_listK (K := K) rfl) (pv 3) (pv 4) (fun _ _ => rfl)))
      (pss_cons
        (ps_setLc (i := 6) (own := [("_law_x", 7)]) (g := gName 7) (tt := _) rfl sc__law_reread.nd rfl rfl (sw_true rfl rfl rfl (by decide +kernel)) (pi_listK (K := K) rfl (pe_ix (ix_tupK (K := K) rfl) (pv 1) pe_int (fun _ _ => rfl))) (blkOk_by (own := [("_law_x", 7)]) (N := N__law_reread) (sc := defScope (top 80)) (by decide +kernel)) (fun _ _ _ _ _ => (pg_name (i := 7) sc__law_reread.nd rfl (Or.inl rfl))) (fun _ _ _ _ _ => (pts_one (PW.pt (pw_and (pt_cmpR op_eq (pe_ix (ix_tupK (K := K) rfl) (pv 7) pe_int (fun _ _ => rfl)) (pe_ix (ix_tupK (K := K) rfl) (pv 5) pe_int (fun _ _ => rfl)) (nomark _)) (pw_and (pt_cmpR op_eq (pe_ix (ix_tupK (K := K) rfl) (pv 7) pe_int (fun _ _ => rfl)) (pe_ix (ix_tupK (K := K) rfl) (pv 5) pe_int (fun _ _ => rfl)) (nomark _)) (pw_and1 (pt_cmpR op_ne (pe_ix (ix_tupK (K := K) rfl) (pv 7) pe_int (fun _ _ => rfl)) (pe_ix (ix_tupK (K := K) rfl) (pv 5) pe_int (fun _ _ => rfl)) (nomark _)))))))) (fun _ _ _ _ _ => (pv 7)))
      (pss_one
        (ps_if (pt_truth (pv 6) (by intro _; rfl)) (pss_one (ps_asg (pe_fn (ok__law_pick En) (hr.mono (by decide)) (pa_cons (pv 0) (pa_cons (pv 6) pa_nil))) (pg_sub (pv 3) (pv 4) set_list))) pss_nil))))) pss_nil)
      (pss_one
        (ps_ret (pe_tup (pa_cons (pe_ix (ix_tupK (K := K) rfl) (pv 2) pe_int (fun _ _ => rfl)) (pa_cons (pe_tup (pa_cons (pe_ix (ix_tupK (K := K) rfl) (pe_ix (ix_tupK (K := K) rfl) (pv 2) pe_int (fun _ _ => rfl)) pe_int (fun _ _ => rfl)) (pa_cons (pv 3) pa_nil))) (pa_cons (pe_ix (ix_tupK (K := K) rfl) (pv 2) pe_int (fun _ _ => rfl)) pa_nil)))))))), ?_⟩
    walk_at "w"
    refine ⟨_, _, rfl, Or.inl (SqL.of hl0), fun D nD => ?_⟩
    have g : Lg z H D _ xl (p.b.2.map arcD) := Lg.copy hz (Wd.refl hz) nD jl
    generalize upd H D (.lst xl) = H1 at *
    walk_at "w"
    refine ⟨fun σ H' => ∃ (ys : List V) (as' : List Arc) (x4 x5 x6 x7 : Option V), σ = [some (.ref z.s), some (.ref c), some (.ref q), some (.ref D), x4, x5, x6, x7] ∧ Lg z H D H' ys (as'.map arcD) ∧ (∀ e ∈ as', e ∈ M.as) ∧ as'.length ≤ 10, ?_, ?_⟩
    · walk_at "w"
      refine ⟨!xl.isEmpty, .inl ⟨_, SqL.of g.at_, rfl⟩, ?_⟩
      by_cases hne : xl = []
      · subst hne
        refine iteF ?_
        exact ⟨_, _, _, _, _, _, rfl, g, hP.mb, hP.lb⟩
      rw [show (!xl.isEmpty) = true by cases xl with | nil => exact absurd rfl hne | cons a b => rfl]
      refine iteT ?_
      have hpos : 0 < xl.length := List.length_pos_iff.mpr hne
      have hD1 := g.at_
      walk_at "w"
      refine ⟨z.add D, _, rfl, g.st, by omega, fun t H2 t0 t1 w2 => ?_⟩
      have g2 := g.step w2
      have hD2 := g2.at_
      obtain ⟨y, y1, y2⟩ := at_nn (xs := xl) (i := t) t0 (by omega)
      obtain ⟨d, d1, d2⟩ := g2.it.mem (at_mem y1)
      obtain ⟨lk, hlk, rfl⟩ := map_mem d1
      obtain ⟨cl, rfl, hcl⟩ := d2.arc_inv
      have hcl2 := hide_le _ _ _ _ hcl
      have hc2 := hide_le _ _ _ _ (g2.wd.up _ _ hc)
      have haz := g2.old _ _ ha
      have ha2 := hide_le _ _ _ _ haz
      walk_at "w"
      refine ⟨_, _, _, _, rfl, rfl, SqL.of hD2, y2, ?_⟩
      walk_at "w"
      refine ⟨⟨_, SqL.of ha2⟩, fun D2 nD2 => ?_⟩
      refine lc_some (Same.refl H2) nD2 ha2 (by omega) ?_ ?_ ?_ ?_
      · exact fun _ => rfl
      · exact fun _ => rfl
      · intro x H8 R hx s8 hR
        obtain ⟨d, e1, e2⟩ := ja.mem hx
        obtain ⟨y, hy, rfl⟩ := map_mem e1
        obtain ⟨cx, rfl, hcx⟩ := (e2.up g2.old).arc_inv
        have hcx8 := s8 _ _ (hide_le _ _ _ _ hcx)
        have hcl8 := s8 _ _ hcl2
        walk_at "w"
        walk_at "if"
        · walk_at "w"
          walk_at "if"
          · walk_at "w"
            exact hR _ _ (Same.refl _)
          · exact hR _ _ (Same.refl _)
        · exact hR _ _ (Same.refl _)
      intro H8 ys8 s8 hE hyl8 hym8
      have w8 := Wd.of_same g2.st s8
      have hEz := hide_of (g2.st.ne nD2) hE
      have g8 := g2.step w8
      walk_at "w"
      refine ⟨!ys8.isEmpty, .inl ⟨ys8, SqL.of hE, rfl⟩, ?_⟩
      by_cases hne2 : ys8 = []
      · subst hne2
        refine iteF ?_
        exact ⟨_, _, _, _, _, _, rfl, g8, hP.mb, hP.lb⟩
      rw [show (!ys8.isEmpty) = true by cases ys8 with | nil => exact absurd rfl hne2 | cons a b => rfl]
      refine iteT ?_
      walk_at "w"
      refine ⟨z.add D, _, rfl, w8.st, Or.inl ⟨D2, ys8, rfl, hEz, hne2, by omega, fun v4 hv4 H9 w9 => ?_⟩⟩
      have g9 := g8.step w9
      obtain ⟨d4, e4, f4⟩ := (ja.up g9.old).mem (hym8 _ hv4)
      obtain ⟨y4, hy4, rfl⟩ := map_mem e4
      walk_at "w"
      have hix : ixN xl.length t = some t.toNat := by
        unfold ixN
        rw [if_pos t0, if_pos (by omega)]
      refine ⟨D, xl, t, t.toNat, rfl, rfl, g9.at_, hix, ?_⟩
      have gs := g9.set t.toNat f4
      rw [← List.map_set] at gs
      refine ⟨_, _, _, _, _, _, rfl, gs, fun e he => ?_, by rw [List.length_set]; exact hP.lb⟩
      rcases List.mem_or_eq_of_mem_set he with he | rfl
      · exact hP.mb e he
      · exact hy4
    rintro σ H3 ⟨ys, as', x4, x5, x6, x7, rfl, g, m1, m2⟩
    have hq3 := hide_le _ _ _ _ (g.wd.up _ _ hq)
    have hq23 := hide_le _ _ _ _ (g.wd.up _ _ hq2)
    walk_at "w"
    refine ⟨szr rfl, fun T1 nT1 => ?_⟩
    have u1 := (Wd.refl g.wd.st).new (o := .tup [.ref sd, .ref D]) nT1
    have hT1 := g.wd.here (o := .tup [.ref sd, .ref D]) nT1
    have hq4 := hide_le _ _ _ _ (u1.up _ _ (g.wd.up _ _ hq))
    walk_at "w"
    refine ⟨szr rfl, fun T nT => ?_⟩
    have u2 := (Wd.refl u1.st).new (o := .tup [v1, .ref T1, .int p.at_]) nT
    exact k _ _ ⟨p.a, (p.b.1, as'), p.at_⟩ ((g.wd.trans u1).trans u2) (DA.pap (x := ⟨p.a, (p.b.1, as'), p.at_⟩) (u1.here nT) (u2.da (u1.da (g.wd.da j1))) (u2.da (DA.way (x := (p.b.1, as')) hT1 (DA.side (u1.up _ _ (g.wd.up _ _ hsd))) (u1.da g.fin))))
      ⟨hP.ha, hP.hb, hP.ma, m1, hP.la, m2, hP.t0, hP.t1⟩
end
end GJ


set_option Elab.async false
set_option linter.all false
set_option maxRecDepth 100000
set_option maxHeartbeats 4000000
namespace GJ
open PySem PySem.Spec PyProof.Rows L2 TL
/-- a plain sign: a digit, a small letter -/
def okc (c : Nat) : Bool := (48 ≤ c && c ≤ 57) || (97 ≤ c && c ≤ 122)
mutual
def wt : PyData → Nat
  | .none => 8
  | .bool _ => 8
  | .int i => if -1000 ≤ i ∧ i ≤ 1000 then 16 else 1000000000
  | .str x => if (tl x).all okc then 8 + 2 * (tl x).length else 1000000000
  | .list xs => if xs.length ≤ 1000 then 8 + wts xs else 1000000000
  | .tuple xs => 8 + wts xs
  | .dict _ => 1000000000
def wts : List PyData → Nat
  | [] => 0
  | x :: xs => wt x + 4 + wts xs
end
def Bz (w n : Nat) (d : PyData) : Prop := wt d ≤ w ∧ d.depth ≤ n
theorem Bz.mono {w n w' n' : Nat} {d : PyData} (h : Bz w n d) (a : w ≤ w') (b : n ≤ n') : Bz w' n' d := ⟨Nat.le_trans h.1 a, Nat.le_trans h.2 b⟩
theorem Bz.none : Bz 8 0 .none := ⟨by simp [wt], by simp [PyData.depth]⟩
theorem Bz.bool (b : Bool) : Bz 8 0 (.bool b) := ⟨by simp [wt], by simp [PyData.depth]⟩
theorem Bz.int {i : Int} (h : -1000 ≤ i) (g : i ≤ 1000) : Bz 16 0 (.int i) := ⟨by simp [wt, h, g], by simp [PyData.depth]⟩
theorem Bz.str {x : Str} {n : Nat} (h : ∀ c ∈ tl x, okc c = true) (g : (tl x).length ≤ n) : Bz (8 + 2 * n) 0 (.str x) := ⟨by
  have : (tl x).all okc = true := List.all_eq_true.mpr h
  simp only [wt, this, if_true]
  omega, by simp [PyData.depth]⟩
theorem wts_le {w n : Nat} : ∀ {ds : List PyData}, (∀ d ∈ ds, Bz w n d) → wts ds ≤ ds.length * (w + 4) ∧ PyData.depthAll ds ≤ n
  | [], _ => ⟨by simp [wts], by simp [PyData.depthAll]⟩
  | d :: ds, h => by
    have h1 := h d List.mem_cons_self
    have h2 := wts_le (ds := ds) fun e he => h e (List.mem_cons_of_mem _ he)
    constructor
    · simp only [wts, List.length_cons, Nat.add_mul, Nat.one_mul]
      have := h1.1
      have := h2.1
      omega
    · simp only [PyData.depthAll]
      exact Nat.max_le.mpr ⟨h1.2, h2.2⟩
theorem Bz.list {w n L : Nat} {ds : List PyData} (h : ∀ d ∈ ds, Bz w n d) (l : ds.length ≤ L) (hL : L ≤ 1000 := by first | decide | omega) : Bz (8 + L * (w + 4)) (n + 1) (.list ds) := by
  have h2 := wts_le h
  have h3 : ds.length * (w + 4) ≤ L * (w + 4) := Nat.mul_le_mul_right _ l
  refine ⟨?_, ?_⟩
  · simp only [wt]
    rw [if_pos (by omega)]
    omega
  · simp only [PyData.depth]
    omega
theorem Bz.tuple {w n L : Nat} {ds : List PyData} (h : ∀ d ∈ ds, Bz w n d) (l : ds.length ≤ L) : Bz (8 + L * (w + 4)) (n + 1) (.tuple ds) := by
  have h2 := wts_le h
  have h3 : ds.length * (w + 4) ≤ L * (w + 4) := Nat.mul_le_mul_right _ l
  refine ⟨?_, ?_⟩
  · simp only [wt]
    omega
  · simp only [PyData.depth]
    omega
theorem Bz.all {w n : Nat} : (∀ d ∈ ([] : List PyData), Bz w n d) := fun _ h => nomatch h
theorem Bz.cons {w n : Nat} {d : PyData} {ds : List PyData} (h : Bz w n d) (g : ∀ e ∈ ds, Bz w n e) : ∀ e ∈ d :: ds, Bz w n e := fun e he => (List.mem_cons.mp he).elim (fun q => q ▸ h) (g e)
theorem Alpha.okc {wr : Str} (h : Alpha wr) {c : Nat} (hc : c ∈ tl wr) : okc c = true := by
  have := h.az c hc
  simp only [GJ.okc, Bool.or_eq_true, Bool.and_eq_true, decide_eq_true_eq]
  omega
theorem Wo.bz {wr x : Str} {n : Nat} (h : Wo wr n x) (a : Alpha wr) : Bz (8 + 2 * n) 0 (.str x) := .str (fun c hc => a.okc (h.2 c hc)) h.1
theorem SOk.bz {n : Int} {wr : Str} {e : Side} (h : SOk n wr 50 e) (a : Alpha wr) (hn : n ≤ 8) : Bz 256 1 (sideD e) :=
  (Bz.tuple (w := 120) (n := 0) (L := 2) (.cons ((Bz.int (by have := h.1; omega) (by have := h.2.1; omega)).mono (by decide) (by decide)) (.cons ((h.2.2.bz a).mono (by decide) (by decide)) .all)) (Nat.le_of_ble_eq_true rfl)).mono (by decide) (by decide)
theorem AOk.bz {n : Int} {rd wr : Str} {e : Arc} (h : AOk n rd wr 50 e) (b : Alpha rd) (a : Alpha wr) (hn : n ≤ 8) : Bz 510 1 (arcD e) := by
  obtain ⟨⟨h1, h2⟩, ⟨c, hc, h3⟩, h4, h5, h6⟩ := h
  refine (Bz.tuple (w := 120) (n := 0) (L := 4) (.cons ((Bz.int (by omega) (by omega)).mono (by decide) (by decide)) (.cons ?_ (.cons ((h4.bz a).mono (by decide) (by decide)) (.cons ((Bz.int (by omega) (by omega)).mono (by decide) (by decide)) .all)))) (Nat.le_of_ble_eq_true rfl)).mono (by decide) (by decide)
  rw [h3]
  exact (Bz.str (x := ⟨#[c]⟩) (n := 1) (fun d hd => by rw [List.mem_singleton.mp hd]; exact b.okc hc) (Nat.le_refl 1)).mono (by decide) (by decide)
theorem PV.bzs {M : Parts} (h : PV M) : ∀ e ∈ M.bs, Bz 256 1 (sideD e) := fun e he => (h.bs e he).bz h.awr h.n1
theorem PV.bze {M : Parts} (h : PV M) : ∀ e ∈ M.es, Bz 256 1 (sideD e) := fun e he => (h.es e he).bz h.awr h.n1
theorem PV.bza {M : Parts} (h : PV M) : ∀ e ∈ M.as, Bz 510 1 (arcD e) := fun e he => (h.as e he).bz h.ard h.awr h.n1
theorem bz_map {α : Type} {f : α → PyData} {w n : Nat} {l : List α} (h : ∀ e ∈ l, Bz w n (f e)) : ∀ d ∈ l.map f, Bz w n d := fun d hd => by
  obtain ⟨x, h1, rfl⟩ := List.mem_map.mp hd
  exact h x h1
theorem strOk_of {x : Str} (h : ∀ c ∈ tl x, c < 0x110000) : PyData.strOk x = true := by
  unfold PyData.strOk
  rw [Array.all_eq_true_iff_forall_mem]
  intro c hc
  exact decide_eq_true (h c (Array.mem_toList_iff.mpr hc))
theorem Wo.ok {wr x : Str} {n : Nat} (h : Wo wr n x) (a : Alpha wr) : PyData.strOk x = true := strOk_of fun c hc => by have := a.az c (h.2 c hc); omega
theorem SOk.shaped {n : Int} {wr : Str} {L : Nat} {e : Side} (h : SOk n wr L e) (a : Alpha wr) : SeqAt.shaped (sideD e) = true := by
  simp [sideD, SeqAt.shaped, PyData.canLay0, PyData.canLayAll0, PyData.depth, PyData.depthAll, h.2.2.ok a]
theorem AOk.shaped {n : Int} {rd wr : Str} {L : Nat} {e : Arc} (h : AOk n rd wr L e) (b : Alpha rd) (a : Alpha wr) : SeqAt.shaped (arcD e) = true := by
  obtain ⟨c, hc, h3⟩ := h.2.1
  have : PyData.strOk e.2.1 = true := by
    rw [h3]
    exact strOk_of fun d hd => by rw [List.mem_singleton.mp hd]; have := b.az c hc; omega
  simp [arcD, SeqAt.shaped, PyData.canLay0, PyData.canLayAll0, PyData.depth, PyData.depthAll, h.2.2.1.ok a, this]
/-- the papers' bound -/
abbrev Pz (d : PyData) : Prop := Bz 3000000 20 d
theorem POk.way {M : Parts} {L : Nat} {x : Way} (h : PV M) (a : x.1 ∈ M.bs) (b : ∀ e ∈ x.2, e ∈ M.as) (l : x.2.length ≤ 700) : Bz 730000 3 (wayD x) :=
  (Bz.tuple (w := 360000) (n := 2) (L := 2) (.cons ((h.bzs _ a).mono (by decide) (by decide)) (.cons ((Bz.list (bz_map fun e he => h.bza e (b e he)) (by rw [List.length_map]; exact l)).mono (by decide) (by decide)) .all)) (Nat.le_of_ble_eq_true rfl)).mono (by decide) (by decide)
theorem POk.bz {M : Parts} {p : Pap} (h : POk M 700 p) (g : PV M) : Pz (papD p) :=
  (Bz.tuple (w := 730000) (n := 3) (L := 3) (.cons (POk.way (L := 0) g h.ha h.ma h.la) (.cons (POk.way (L := 0) g h.hb h.mb h.lb) (.cons ((Bz.int (by have := h.t0; omega) (by have := h.t1; omega)).mono (by decide) (by decide)) .all))) (Nat.le_of_ble_eq_true rfl)).mono (by decide) (by decide)
theorem POk.mono {M : Parts} {L L' : Nat} {p : Pap} (h : POk M L p) (l : L ≤ L') : POk M L' p := ⟨h.ha, h.hb, h.ma, h.mb, Nat.le_trans h.la l, Nat.le_trans h.lb l, h.t0, h.t1⟩
end GJ

set_option Elab.async false
set_option linter.all false
set_option maxRecDepth 100000
set_option maxHeartbeats 4000000
namespace GJ
open PySem PySem.Spec PyProof.Rows L2 TL
set_option pp.maxSteps 300
theorem okA {wr x : Str} {n : Nat} (h : Wo wr n x) (a : Alpha wr) : Bz (8 + 2 * (n + 1)) 0 (.str (x ++ Str.ofString "a")) := by
  refine .str (fun c hc => ?_) ?_
  · rw [tl_append, List.mem_append] at hc
    rcases hc with hc | hc
    · exact a.okc (h.2 c hc)
    · rw [List.mem_singleton.mp (show c ∈ [97] from hc)]
      rfl
  · rw [tl_append, List.length_append]
    exact Nat.succ_le_succ h.1
section
variable {P : Program} {w : World} {K : PySem.W.Frag} {mg : Str → Option Value} {base : Heap}
set_option hygiene false in
local macro_rules | `(tactic| walk_at "w") => `(tactic| repeat (first
  | refine ⟨_, rfl, ?_⟩
  | refine ⟨_, _, rfl, rfl, (by first | decide | omega), fun r r0 r1 re => ?_⟩
  | refine ⟨_, _, rfl, rfl, (by first | exact Or.inl ⟨by omega, by omega⟩ | exact Or.inr ⟨by omega, by omega⟩ : CMul _ _), ?_⟩
  | refine ⟨_, _, rfl, rfl, (by first | exact ⟨by decide, by decide⟩ | exact ⟨by omega, by omega⟩ : CDiv _ _), ?_⟩
  | refine ⟨_, _, rfl, rfl, (by exact ⟨by decide, by decide, by decide⟩ : CPow _ _), ?_⟩
  | refine ⟨_, _, rfl, rfl, ?_⟩
  | refine ⟨(by rfl : scal _ _ = true), ?_⟩
  | refine Or.inl ⟨_, rfl, ?_⟩
  | refine ⟨_, _, rfl, fun m m0 m1 m2 => ?_⟩
  | refine ⟨_, _, _, _, rfl, rfl, SqL.of (by first | assumption | exact upd_same | exact fx _ | exact fy _), rfl, ?_⟩
  | refine ⟨_, _, _, _, rfl, rfl, (by first | assumption | exact upd_same | exact fx _ | exact fy _), rfl, ?_⟩
  | refine ⟨_, _, _, _, rfl, rfl, SqT.of (by first | assumption | exact upd_same | exact fx _ | exact fy _), rfl, ?_⟩
  | refine ⟨(szle (by omega) : Str.length _ ≤ sizeLine), ?_⟩
  | refine ⟨(szle (by first | omega | (rw [sla]; omega) | (rw [sla, sla]; omega)) : Str.length _ + Str.length _ ≤ sizeLine), ?_⟩
  | refine ⟨_, _, rfl, len_lst (by first | assumption | exact upd_same | exact fx _ | exact fy _), ?_⟩))
set_option hygiene false in
local macro_rules | `(tactic| walk_at "if") => `(tactic| (refine ite2 (fun hc => ?_) (fun hc => ?_) <;>
  simp only [decide_eq_true_eq, Bool.not_eq_true', decide_eq_false_iff_not, V.int.injEq, V.str.injEq, V.bl.injEq, Decidable.not_not, Bool.not_eq_true, V.int_ne, Int.not_lt, Int.not_le, Bool.true_eq_false, Bool.false_eq_true, not_true_eq_false, not_false_eq_true] at hc))
set_option hygiene false in
local macro_rules | `(tactic| walk_at "new") => `(tactic| (refine ⟨by first | decide | (simp only [List.length_cons, List.length_nil, List.length_append, List.length_map]; first | decide | (rw [sizeLine_eq]; omega)), fun p np => ?_⟩))
set_option hygiene false in
local macro_rules | `(tactic| walk_at "yes") => `(tactic| refine itY (by first | rfl | exact decide_eq_true (by first | rfl | omega | assumption) | (simp only [decide_eq_true_eq, Bool.not_eq_true', decide_eq_false_iff_not, V.int.injEq, V.str.injEq, V.bl.injEq]; first | omega | assumption)) ?_)
set_option hygiene false in
local macro_rules | `(tactic| walk_at "no") => `(tactic| refine itN (by first | decide | (simp only [decide_eq_true_eq, Bool.not_eq_true', decide_eq_false_iff_not, V.int.injEq, V.str.injEq, V.bl.injEq, Bool.not_eq_true, Decidable.not_not]; first | omega | assumption)) ?_)
def sp_spoilt : Sp := fun vs H Q _ => ∃ (z : Zz) (u : V) (p : Pap) (M : Parts), vs = [.ref z.s, u] ∧ St z H ∧ PV M ∧ DA (hide z H) u (papD p) ∧ POk M 10 p ∧
  ∀ v' H' d, Wd z H H' → DA (hide z H') v' d → Pz d → Q v' H'
def N__law_spoilt : List Str := ["_law_store_here", "_law_paper", "_law_pair", "_law_side", "_law_head", "_law_path", "_law_draw", "_law_at", "_law_link", "_law_links", "_law_heads", "_law_ways"]
theorem sc__law_spoilt : FnScope N__law_spoilt ["_law_store_here", "_law_paper"] (defScope (top 79)) := ⟨rfl, rfl, rfl, by decide +kernel, rfl, by decide +kernel, by decide +kernel⟩
theorem ok__law_spoilt (En : Env K mg fas fns prs) : Ok P w K mg base "_law_spoilt" 3 ["_law_store_here", "_law_paper"] sp_spoilt := by
  refine ok_mk 60 79 En sc__law_spoilt (fun _ _ _ _ _ _ us hl => match us, hl with | [_, _], _ => rfl) (fun vs H Q E h => ?_) (fun f cdv A outer s H vs Q E hr h => ?_)
  · obtain ⟨z, u, p, M, rfl, _⟩ := h
    rfl
  · obtain ⟨z, u, p, M, rfl, hz, hPV, hu, hP, k⟩ := h
    obtain ⟨q, v1, v2, rfl, hq, j1, j2⟩ := hu.pap_inv
    have hq0 := hide_le _ _ _ _ hq
    have ha1 : (Str.ofString "a").length = 1 := rfl
    refine ⟨_, (pss_cons
        (ps_set (i := 2) sc__law_spoilt.nd rfl (Or.inl rfl) (pe_lst (pa_cons (pe_ix (ix_tupK (K := K) rfl) (pv 1) pe_int (fun _ _ => rfl)) (pa_cons (pe_ix (ix_tupK (K := K) rfl) (pv 1) pe_int (fun _ _ => rfl)) pa_nil))))
      (pss_cons
        (ps_set (i := 3) sc__law_spoilt.nd rfl (Or.inl rfl) (pe_fn (ok__law_take En) (hr.mono (by decide)) (pa_cons (pv 0) (pa_cons pe_int pa_nil))))
      (pss_cons
        (ps_set (i := 4) sc__law_spoilt.nd rfl (Or.inl rfl) (pe_ix (ix_tupK (K := K) rfl) (pe_ix (ix_listK (K := K) rfl) (pv 2) (pv 3) (fun _ _ => rfl)) pe_int (fun _ _ => rfl)))
      (pss_cons
        (ps_set (i := 5) sc__law_spoilt.nd rfl (Or.inl rfl) (pe_callTy (call_list_ofK (K := K) rfl) (by rfl) (fr_list En) bt_list (pa_cons (pe_ix (ix_tupK (K := K) rfl) (pe_ix (ix_listK (K := K) rfl) (pv 2) (pv 3) (fun _ _ => rfl)) pe_int (fun _ _ => rfl)) pa_nil)))
      (pss_cons
        (ps_set (i := 6) sc__law_spoilt.nd rfl (Or.inl rfl) (pe_fn (ok__law_take En) (hr.mono (by decide)) (pa_cons (pv 0) (pa_cons pe_int pa_nil))))
      (C8.pss_cut
        (ps_if (PW.pt (pw_and (pt_truth (pv 5) (by intro _; rfl)) (pw_and1 (pt_cmpR op_lt (pv 6) pe_int (nomark _))))) (pss_cons
        (ps_set (i := 7) sc__law_spoilt.nd rfl (Or.inl rfl) (pe_fn (ok__law_take En) (hr.mono (by decide)) (pa_cons (pv 0) (pa_cons (pe_callB (call_lenK (K := K) rfl) (by rfl) (fr_len En) bt_len (pa_cons (pv 5) pa_nil)) pa_nil))))
      (pss_cons
        (ps_set (i := 8) sc__law_spoilt.nd rfl (Or.inl rfl) (pe_ix (ix_listK (K := K) rfl) (pv 5) (pv 7) (fun _ _ => rfl)))
      (pss_cons
        (ps_set (i := 9) sc__law_spoilt.nd rfl (Or.inl rfl) (pe_lst (pa_cons (pe_callTy (call_list_ofK (K := K) rfl) (by rfl) (fr_list En) bt_list (pa_cons (pv 8) pa_nil)) (pa_cons (pe_op (op_catTK (K := K) rfl) (pe_slice (sl_tupK (K := K) rfl) (pv 8) po_none (po_some pe_int)) (pe_tup (pa_cons (pe_op op_add_str (pe_ix (ix_tupK (K := K) rfl) (pv 8) pe_int (fun _ _ => rfl)) pe_str) (pa_cons (pe_ix (ix_tupK (K := K) rfl) (pv 8) pe_int (fun _ _ => rfl)) pa_nil)))) (pa_cons (pe_slice (sl_tupK (K := K) rfl) (pv 8) po_none (po_some pe_int)) (pa_cons (pe_op (op_catTK (K := K) rfl) (pe_tup (pa_cons (pe_cmpR op_eq (pe_ix (ix_tupK (K := K) rfl) (pv 8) pe_int (fun _ _ => rfl)) pe_int (nomark _)) pa_nil)) (pe_slice (sl_tupK (K := K) rfl) (pv 8) (po_some pe_int) po_none)) (pa_cons (pe_ix (ix_tupK (K := K) rfl) (pv 8) pe_int (fun _ _ => rfl)) pa_nil)))))))
      (pss_one
        (ps_asg (pe_ix (ix_listK (K := K) rfl) (pv 9) (pv 6) (fun _ _ => rfl)) (pg_sub (pv 5) (pv 7) set_list)))))) pss_nil)
      (pss_cons
        (ps_set (i := 10) sc__law_spoilt.nd rfl (Or.inl rfl) (pe_lst (pa_cons (pv 4) (pa_cons (pv 4) (pa_cons (pv 4) (pa_cons (pv 4) (pa_cons (pv 4) (pa_cons (pe_callTy (call_list_ofK (K := K) rfl) (by rfl) (fr_list En) bt_list (pa_cons (pv 4) pa_nil)) (pa_cons (pe_slice (sl_tupK (K := K) rfl) (pv 4) po_none (po_some pe_int)) (pa_cons (pe_tup (pa_cons (pe_cmpR op_eq (pe_ix (ix_tupK (K := K) rfl) (pv 4) pe_int (fun _ _ => rfl)) pe_int (nomark _)) (pa_cons (pe_ix (ix_tupK (K := K) rfl) (pv 4) pe_int (fun _ _ => rfl)) pa_nil))) (pa_cons (pe_tup (pa_cons (pe_ix (ix_tupK (K := K) rfl) (pv 4) pe_int (fun _ _ => rfl)) (pa_cons (pe_op op_add_str (pe_ix (ix_tupK (K := K) rfl) (pv 4) pe_int (fun _ _ => rfl)) pe_str) pa_nil))) pa_nil)))))))))))
      (pss_cons
        (ps_set (i := 4) sc__law_spoilt.nd rfl (Or.inl rfl) (pe_ix (ix_listK (K := K) rfl) (pe_op op_cat (pv 10) (pe_lst (pa_cons (pv 4) (pa_cons (pv 4) (pa_cons (pv 4) pa_nil))))) (pv 6) (fun _ _ => rfl)))
      (pss_cons
        (ps_set (i := 11) sc__law_spoilt.nd rfl (Or.inl rfl) (pe_lst (pa_cons (pe_tup (pa_cons (pv 4) (pa_cons (pv 5) pa_nil))) (pa_cons (pe_lst (pa_cons (pv 4) (pa_cons (pv 5) pa_nil))) (pa_cons (pe_tup (pa_cons (pv 4) (pa_cons (pe_callTy call_tuple_of (by rfl) (fr_tuple En) bt_tuple (pa_cons (pv 5) pa_nil)) pa_nil))) (pa_cons (pe_tup (pa_cons (pv 4) (pa_cons (pe_slice (sl_listK (K := K) rfl) (pv 5) (po_some pe_int) po_none) pa_nil))) (pa_cons (pe_tup (pa_cons (pv 4) (pa_cons (pe_op op_cat (pv 5) (pe_slice (sl_listK (K := K) rfl) (pv 5) (po_some (pe_un un_neg pe_int)) po_none)) pa_nil))) pa_nil)))))))
      (pss_cons
        (ps_asg (pe_ix (ix_listK (K := K) rfl) (pe_op op_cat (pv 11) (pe_lst (pa_cons (pe_tup (pa_cons (pv 4) (pa_cons (pv 5) (pa_cons (pv 4) pa_nil)))) pa_nil))) (pe_callB (call_maxR rfl) (by rfl) (fr_max En) bt_max (pa_cons pe_int (pa_cons (pe_op op_sub (pv 6) pe_int) pa_nil))) (fun _ _ => rfl)) (pg_sub (pv 2) (pv 3) set_list))
      (pss_cons
        (ps_if (pt_cmpR op_eq (pv 6) pe_int (nomark _)) (pss_one (ps_ret (pe_lst (pa_cons (pe_ix (ix_listK (K := K) rfl) (pv 2) pe_int (fun _ _ => rfl)) (pa_cons (pe_ix (ix_listK (K := K) rfl) (pv 2) pe_int (fun _ _ => rfl)) (pa_cons (pe_ix (ix_tupK (K := K) rfl) (pv 1) pe_int (fun _ _ => rfl)) pa_nil)))))) pss_nil)
      (pss_one
        (ps_ret (pe_tup (pa_cons (pe_ix (ix_listK (K := K) rfl) (pv 2) pe_int (fun _ _ => rfl)) (pa_cons (pe_ix (ix_listK (K := K) rfl) (pv 2) pe_int (fun _ _ => rfl)) (pa_cons (pe_ix (ix_tupK (K := K) rfl) (pv 1) pe_int (fun _ _ => rfl)) pa_nil))))))))))))))))), ?_⟩
    walk_at "w"
    refine ⟨szr rfl, fun Pa nP => ?_⟩
    have wP := (Wd.refl hz).new (o := .lst [v1, v2]) nP
    have sP : St (z.add Pa) (upd H Pa (.lst [v1, v2])) := wP.st.add upd_same
    have hPa : upd H Pa (.lst [v1, v2]) Pa = some (.lst [v1, v2]) := upd_same
    have oP : Same (hide z H) (hide (z.add Pa) (upd H Pa (.lst [v1, v2]))) := hide_add wP nP
    have neP := hz.ne nP
    generalize upd H Pa (.lst [v1, v2]) = H1 at *
    walk_at "w"
    refine ⟨z.add Pa, _, rfl, sP, by decide, fun t H2 t0 t1 w2 => ?_⟩
    obtain ⟨v, src, hv, ht, js, hsb, hsm, hsl⟩ : ∃ v src, atI [v1, v2] t = some v ∧ (t = 0 ∨ t = 1) ∧ DA (hide (z.add Pa) H2) v (wayD src) ∧ src.1 ∈ M.bs ∧ (∀ e ∈ src.2, e ∈ M.as) ∧ src.2.length ≤ 10 := by
      rcases (by omega : t = 0 ∨ t = 1) with rfl | rfl
      · exact ⟨v1, p.a, rfl, .inl rfl, w2.da (j1.up oP), hP.ha, hP.ma, hP.la⟩
      · exact ⟨v2, p.b, rfl, .inr rfl, w2.da (j2.up oP), hP.hb, hP.mb, hP.lb⟩
    have hPa2 := w2.kp _ _ neP.1 neP.2.1 hPa
    obtain ⟨c, sd, l, xl, rfl, hc, hsd, hl, jl⟩ := js.way_inv
    have hc0 := hide_le _ _ _ _ hc
    have hl0 := hide_le _ _ _ _ hl
    have ll : xl.length ≤ 10 := by rw [jl.len, List.length_map]; exact hsl
    walk_at "w"
    refine ⟨_, _, _, _, rfl, rfl, SqL.of hPa2, hv, ?_⟩
    walk_at "w"
    refine ⟨_, _, _, _, rfl, rfl, SqL.of hPa2, hv, ?_⟩
    walk_at "w"
    refine ⟨_, _, rfl, Or.inl (SqL.of hl0), fun D nD => ?_⟩
    have g : Lg (z.add Pa) H2 D _ xl (src.2.map arcD) := Lg.copy w2.st (Wd.refl w2.st) nD jl
    generalize upd H2 D (.lst xl) = H3 at *
    walk_at "w"
    refine ⟨(z.add Pa).add D, _, rfl, g.st, by decide, fun d H4 d0 d1 w4 => ?_⟩
    replace g := g.step w4
    walk_at "w"
    refine ⟨fun σ H' => ∃ (ys : List V) (ds : List PyData) (x7 x8 x9 : Option V), σ = [some (.ref z.s), some (.ref q), some (.ref Pa), some (.int t), some (.ref sd), some (.ref D), some (.int d), x7, x8, x9, none, none] ∧ Lg (z.add Pa) H2 D H' ys ds ∧ ds.length ≤ 10 ∧ ∀ e ∈ ds, Bz 600 2 e, ?_, ?_⟩
    · have base0 : ∀ e ∈ src.2.map arcD, Bz 600 2 e := bz_map fun e he => (hPV.bza e (hsm e he)).mono (by decide) (by decide)
      have hD4 := g.at_
      walk_at "w"
      refine ⟨!xl.isEmpty, .inl ⟨_, SqL.of g.at_, rfl⟩, ?_⟩
      by_cases hne : xl = []
      · subst hne
        refine iteF ?_
        refine iteF ?_
        exact ⟨_, _, _, _, _, rfl, g, by rw [List.length_map]; exact hsl, base0⟩
      rw [show (!xl.isEmpty) = true by cases xl with | nil => exact absurd rfl hne | cons a b => rfl]
      refine iteT ?_
      have hpos : 0 < xl.length := List.length_pos_iff.mpr hne
      walk_at "w"
      walk_at "if"
      · walk_at "w"
        refine ⟨(z.add Pa).add D, _, rfl, g.st, by omega, fun a H6 a0 a1 w6 => ?_⟩
        have g6 := g.step w6
        have hD6 := g6.at_
        obtain ⟨y, y1, y2⟩ := at_nn (xs := xl) (i := a) a0 (by omega)
        obtain ⟨dd, dd1, dd2⟩ := g6.it.mem (at_mem y1)
        obtain ⟨lk, hlk, rfl⟩ := map_mem dd1
        have hlkM := hsm lk hlk
        obtain ⟨⟨hk1, hk2⟩, ⟨lc, hlc, hk3⟩, hk4, hk5, hk6⟩ := hPV.as lk hlkM
        have hk4l : lk.2.2.1.length ≤ 50 := hk4.1
        have hn8 := hPV.n1
        obtain ⟨cl, rfl, hcl⟩ := dd2.arc_inv
        have hcl6 := hide_le _ _ _ _ hcl
        walk_at "w"
        refine ⟨_, _, _, _, rfl, rfl, SqL.of hD6, y2, ?_⟩
        walk_at "w"
        refine ⟨_, _, rfl, Or.inr (SqT.of hcl6), fun L1 nL1 => ?_⟩
        have uL1 := (Wd.refl g6.st).new (o := .lst [.int lk.1, .str lk.2.1, .str lk.2.2.1, .int lk.2.2.2]) nL1
        have hL1 := (Wd.refl g6.st).here (o := .lst [.int lk.1, .str lk.2.1, .str lk.2.2.1, .int lk.2.2.2]) nL1
        generalize upd H6 L1 (.lst [.int lk.1, .str lk.2.1, .str lk.2.2.1, .int lk.2.2.2]) = G1 at *
        replace hcl := uL1.up _ _ hcl
        replace hcl' := hide_le _ _ _ _ hcl
        replace g6 := g6.step uL1
        have hL1' := hide_le _ _ _ _ hL1
        walk_at "w"
        refine ⟨cl, _, rfl, SqT.of hcl', (by show ¬(HT.sIx 4 0 none = 0 ∧ HT.sIx 4 4 (some 2) = 4); decide), fun T1 nT1 => ?_⟩
        have uT1 := (Wd.refl uL1.st).new (o := .tup (cutV [.int lk.1, .str lk.2.1, .str lk.2.2.1, .int lk.2.2.2] none (some 2))) nT1
        have hT1 := (Wd.refl uL1.st).here (o := .tup (cutV [.int lk.1, .str lk.2.1, .str lk.2.2.1, .int lk.2.2.2] none (some 2))) nT1
        generalize upd G1 T1 (.tup (cutV [.int lk.1, .str lk.2.1, .str lk.2.2.1, .int lk.2.2.2] none (some 2))) = G2 at *
        replace hcl := uT1.up _ _ hcl
        replace hcl' := hide_le _ _ _ _ hcl
        replace hL1 := uT1.up _ _ hL1
        replace hL1' := hide_le _ _ _ _ hL1
        replace g6 := g6.step uT1
        replace hT1 : hide ((z.add Pa).add D) G2 T1 = some (.tup [.int lk.1, .str lk.2.1]) := hT1
        have hT1' := hide_le _ _ _ _ hT1
        walk_at "w"
        refine ⟨szr rfl, fun T2 nT2 => ?_⟩
        have uT2 := (Wd.refl uT1.st).new (o := .tup [.str (lk.2.2.1 ++ "a"), .int lk.2.2.2]) nT2
        have hT2 := (Wd.refl uT1.st).here (o := .tup [.str (lk.2.2.1 ++ "a"), .int lk.2.2.2]) nT2
        generalize upd G2 T2 (.tup [.str (lk.2.2.1 ++ "a"), .int lk.2.2.2]) = G3 at *
        replace hcl := uT2.up _ _ hcl
        replace hcl' := hide_le _ _ _ _ hcl
        replace hL1 := uT2.up _ _ hL1
        replace hL1' := hide_le _ _ _ _ hL1
        replace hT1 := uT2.up _ _ hT1
        replace hT1' := hide_le _ _ _ _ hT1
        replace g6 := g6.step uT2
        have hT2' := hide_le _ _ _ _ hT2
        refine ⟨T1, T2, _, _, rfl, rfl, SqT.of hT1', SqT.of hT2', (fun h => nomatch h), szr rfl, (fun h => nomatch h), fun _ T3 nT3 => ?_⟩
        have uT3 := (Wd.refl uT2.st).new (o := .tup ([.int lk.1, .str lk.2.1] ++ [.str (lk.2.2.1 ++ "a"), .int lk.2.2.2])) nT3
        have hT3 := (Wd.refl uT2.st).here (o := .tup ([.int lk.1, .str lk.2.1] ++ [.str (lk.2.2.1 ++ "a"), .int lk.2.2.2])) nT3
        generalize upd G3 T3 (.tup ([.int lk.1, .str lk.2.1] ++ [.str (lk.2.2.1 ++ "a"), .int lk.2.2.2])) = G4 at *
        replace hcl := uT3.up _ _ hcl
        replace hcl' := hide_le _ _ _ _ hcl
        replace hL1 := uT3.up _ _ hL1
        replace hL1' := hide_le _ _ _ _ hL1
        replace hT1 := uT3.up _ _ hT1
        replace hT1' := hide_le _ _ _ _ hT1
        replace hT2 := uT3.up _ _ hT2
        replace hT2' := hide_le _ _ _ _ hT2
        replace g6 := g6.step uT3
        replace hT3 : hide ((z.add Pa).add D) G4 T3 = some (.tup [.int lk.1, .str lk.2.1, .str (lk.2.2.1 ++ "a"), .int lk.2.2.2]) := hT3
        have hT3' := hide_le _ _ _ _ hT3
        walk_at "w"
        refine ⟨cl, _, rfl, SqT.of hcl', (by show ¬(HT.sIx 4 0 none = 0 ∧ HT.sIx 4 4 (some 3) = 4); decide), fun T4 nT4 => ?_⟩
        have uT4 := (Wd.refl uT3.st).new (o := .tup (cutV [.int lk.1, .str lk.2.1, .str lk.2.2.1, .int lk.2.2.2] none (some 3))) nT4
        have hT4 := (Wd.refl uT3.st).here (o := .tup (cutV [.int lk.1, .str lk.2.1, .str lk.2.2.1, .int lk.2.2.2] none (some 3))) nT4
        generalize upd G4 T4 (.tup (cutV [.int lk.1, .str lk.2.1, .str lk.2.2.1, .int lk.2.2.2] none (some 3))) = G5 at *
        replace hcl := uT4.up _ _ hcl
        replace hcl' := hide_le _ _ _ _ hcl
        replace hL1 := uT4.up _ _ hL1
        replace hL1' := hide_le _ _ _ _ hL1
        replace hT1 := uT4.up _ _ hT1
        replace hT1' := hide_le _ _ _ _ hT1
        replace hT2 := uT4.up _ _ hT2
        replace hT2' := hide_le _ _ _ _ hT2
        replace hT3 := uT4.up _ _ hT3
        replace hT3' := hide_le _ _ _ _ hT3
        replace g6 := g6.step uT4
        replace hT4 : hide ((z.add Pa).add D) G5 T4 = some (.tup [.int lk.1, .str lk.2.1, .str lk.2.2.1]) := hT4
        have hT4' := hide_le _ _ _ _ hT4
        walk_at "w"
        refine ⟨szr rfl, fun T5 nT5 => ?_⟩
        have uT5 := (Wd.refl uT4.st).new (o := .tup [.bl (decide (V.int lk.1 = V.int 1))]) nT5
        have hT5 := (Wd.refl uT4.st).here (o := .tup [.bl (decide (V.int lk.1 = V.int 1))]) nT5
        generalize upd G5 T5 (.tup [.bl (decide (V.int lk.1 = V.int 1))]) = G6 at *
        replace hcl := uT5.up _ _ hcl
        replace hcl' := hide_le _ _ _ _ hcl
        replace hL1 := uT5.up _ _ hL1
        replace hL1' := hide_le _ _ _ _ hL1
        replace hT1 := uT5.up _ _ hT1
        replace hT1' := hide_le _ _ _ _ hT1
        replace hT2 := uT5.up _ _ hT2
        replace hT2' := hide_le _ _ _ _ hT2
        replace hT3 := uT5.up _ _ hT3
        replace hT3' := hide_le _ _ _ _ hT3
        replace hT4 := uT5.up _ _ hT4
        replace hT4' := hide_le _ _ _ _ hT4
        replace g6 := g6.step uT5
        have hT5' := hide_le _ _ _ _ hT5
        walk_at "w"
        refine ⟨cl, _, rfl, SqT.of hcl', (by show ¬(HT.sIx 4 0 (some 1) = 0 ∧ HT.sIx 4 4 none = 4); decide), fun T6 nT6 => ?_⟩
        have uT6 := (Wd.refl uT5.st).new (o := .tup (cutV [.int lk.1, .str lk.2.1, .str lk.2.2.1, .int lk.2.2.2] (some 1) none)) nT6
        have hT6 := (Wd.refl uT5.st).here (o := .tup (cutV [.int lk.1, .str lk.2.1, .str lk.2.2.1, .int lk.2.2.2] (some 1) none)) nT6
        generalize upd G6 T6 (.tup (cutV [.int lk.1, .str lk.2.1, .str lk.2.2.1, .int lk.2.2.2] (some 1) none)) = G7 at *
        replace hcl := uT6.up _ _ hcl
        replace hcl' := hide_le _ _ _ _ hcl
        replace hL1 := uT6.up _ _ hL1
        replace hL1' := hide_le _ _ _ _ hL1
        replace hT1 := uT6.up _ _ hT1
        replace hT1' := hide_le _ _ _ _ hT1
        replace hT2 := uT6.up _ _ hT2
        replace hT2' := hide_le _ _ _ _ hT2
        replace hT3 := uT6.up _ _ hT3
        replace hT3' := hide_le _ _ _ _ hT3
        replace hT4 := uT6.up _ _ hT4
        replace hT4' := hide_le _ _ _ _ hT4
        replace hT5 := uT6.up _ _ hT5
        replace hT5' := hide_le _ _ _ _ hT5
        replace g6 := g6.step uT6
        replace hT6 : hide ((z.add Pa).add D) G7 T6 = some (.tup [.str lk.2.1, .str lk.2.2.1, .int lk.2.2.2]) := hT6
        have hT6' := hide_le _ _ _ _ hT6
        refine ⟨T5, T6, _, _, rfl, rfl, SqT.of hT5', SqT.of hT6', (fun h => nomatch h), szr rfl, (fun h => nomatch h), fun _ T7 nT7 => ?_⟩
        have uT7 := (Wd.refl uT6.st).new (o := .tup ([.bl (decide (V.int lk.1 = V.int 1))] ++ [.str lk.2.1, .str lk.2.2.1, .int lk.2.2.2])) nT7
        have hT7 := (Wd.refl uT6.st).here (o := .tup ([.bl (decide (V.int lk.1 = V.int 1))] ++ [.str lk.2.1, .str lk.2.2.1, .int lk.2.2.2])) nT7
        generalize upd G7 T7 (.tup ([.bl (decide (V.int lk.1 = V.int 1))] ++ [.str lk.2.1, .str lk.2.2.1, .int lk.2.2.2])) = G8 at *
        replace hcl := uT7.up _ _ hcl
        replace hcl' := hide_le _ _ _ _ hcl
        replace hL1 := uT7.up _ _ hL1
        replace hL1' := hide_le _ _ _ _ hL1
        replace hT1 := uT7.up _ _ hT1
        replace hT1' := hide_le _ _ _ _ hT1
        replace hT2 := uT7.up _ _ hT2
        replace hT2' := hide_le _ _ _ _ hT2
        replace hT3 := uT7.up _ _ hT3
        replace hT3' := hide_le _ _ _ _ hT3
        replace hT4 := uT7.up _ _ hT4
        replace hT4' := hide_le _ _ _ _ hT4
        replace hT5 := uT7.up _ _ hT5
        replace hT5' := hide_le _ _ _ _ hT5
        replace hT6 := uT7.up _ _ hT6
        replace hT6' := hide_le _ _ _ _ hT6
        replace g6 := g6.step uT7
        replace hT7 : hide ((z.add Pa).add D) G8 T7 = some (.tup [.bl (decide (V.int lk.1 = V.int 1)), .str lk.2.1, .str lk.2.2.1, .int lk.2.2.2]) := hT7
        have hT7' := hide_le _ _ _ _ hT7
        walk_at "w"
        refine ⟨szr rfl, fun LL nLL => ?_⟩
        have uLL := (Wd.refl uT7.st).new (o := .lst [.ref L1, .ref T3, .ref T4, .ref T7, .int lk.1]) nLL
        have hLL := (Wd.refl uT7.st).here (o := .lst [.ref L1, .ref T3, .ref T4, .ref T7, .int lk.1]) nLL
        generalize upd G8 LL (.lst [.ref L1, .ref T3, .ref T4, .ref T7, .int lk.1]) = G9 at *
        replace hcl := uLL.up _ _ hcl
        replace hcl' := hide_le _ _ _ _ hcl
        replace hL1 := uLL.up _ _ hL1
        replace hL1' := hide_le _ _ _ _ hL1
        replace hT1 := uLL.up _ _ hT1
        replace hT1' := hide_le _ _ _ _ hT1
        replace hT2 := uLL.up _ _ hT2
        replace hT2' := hide_le _ _ _ _ hT2
        replace hT3 := uLL.up _ _ hT3
        replace hT3' := hide_le _ _ _ _ hT3
        replace hT4 := uLL.up _ _ hT4
        replace hT4' := hide_le _ _ _ _ hT4
        replace hT5 := uLL.up _ _ hT5
        replace hT5' := hide_le _ _ _ _ hT5
        replace hT6 := uLL.up _ _ hT6
        replace hT6' := hide_le _ _ _ _ hT6
        replace hT7 := uLL.up _ _ hT7
        replace hT7' := hide_le _ _ _ _ hT7
        replace g6 := g6.step uLL
        have hLL' := hide_le _ _ _ _ hLL
        walk_at "w"
        obtain ⟨e, e1, e2⟩ := at_nn (xs := [V.ref L1, .ref T3, .ref T4, .ref T7, .int lk.1]) (i := d) d0 (by show d < 5; omega)
        refine ⟨_, _, _, _, rfl, rfl, SqL.of hLL', e2, ?_⟩
        walk_at "w"
        have hix : ixN xl.length a = some a.toNat := by
          unfold ixN
          rw [if_pos a0, if_pos (by omega)]
        refine ⟨D, xl, a, a.toNat, rfl, rfl, g6.at_, hix, ?_⟩
        have bk1 : Bz 16 0 (.int lk.1) := Bz.int (by omega) (by omega)
        have bk2 : Bz 16 0 (.str lk.2.1) := by
          rw [hk3]
          exact (Bz.str (x := ⟨#[lc]⟩) (n := 1) (fun d hd => by rw [List.mem_singleton.mp hd]; exact hPV.ard.okc hlc) (Nat.le_refl 1)).mono (by decide) (by decide)
        have bk3 : Bz 108 0 (.str lk.2.2.1) := hk4.bz hPV.awr
        have bk3a : Bz 110 0 (.str (lk.2.2.1 ++ Str.ofString "a")) := okA hk4 hPV.awr
        have bk4 : Bz 16 0 (.int lk.2.2.2) := Bz.int (by omega) (by omega)
        obtain ⟨d, j, bd⟩ : ∃ d, DA (hide ((z.add Pa).add D) G9) e d ∧ Bz 600 2 d := by
          have he := at_mem e1
          simp only [List.mem_cons, List.not_mem_nil, or_false] at he
          rcases he with rfl | rfl | rfl | rfl | rfl
          · exact ⟨_, .lst hL1 (.cons (.int _) (.cons (.str _) (.cons (.str _) (.one (.int _))))), (Bz.list (.cons (bk1.mono (w' := 110) (n' := 0) (by decide) (by decide)) (.cons (bk2.mono (by decide) (by decide)) (.cons (bk3.mono (by decide) (by decide)) (.cons (bk4.mono (by decide) (by decide)) .all)))) (L := 4) (Nat.le_of_ble_eq_true rfl)).mono (by decide) (by decide)⟩
          · exact ⟨_, .tup hT3 (.cons (.int _) (.cons (.str _) (.cons (.str _) (.one (.int _))))), (Bz.tuple (.cons (bk1.mono (w' := 110) (n' := 0) (by decide) (by decide)) (.cons (bk2.mono (by decide) (by decide)) (.cons (bk3a.mono (by decide) (by decide)) (.cons (bk4.mono (by decide) (by decide)) .all)))) (L := 4) (Nat.le_of_ble_eq_true rfl)).mono (by decide) (by decide)⟩
          · exact ⟨_, .tup hT4 (.cons (.int _) (.cons (.str _) (.one (.str _)))), (Bz.tuple (.cons (bk1.mono (w' := 110) (n' := 0) (by decide) (by decide)) (.cons (bk2.mono (by decide) (by decide)) (.cons (bk3.mono (by decide) (by decide)) .all))) (L := 4) (Nat.le_of_ble_eq_true rfl)).mono (by decide) (by decide)⟩
          · exact ⟨_, .tup hT7 (.cons (.bl _) (.cons (.str _) (.cons (.str _) (.one (.int _))))), (Bz.tuple (.cons ((Bz.bool _).mono (w' := 110) (n' := 0) (by decide) (by decide)) (.cons (bk2.mono (by decide) (by decide)) (.cons (bk3.mono (by decide) (by decide)) (.cons (bk4.mono (by decide) (by decide)) .all)))) (L := 4) (Nat.le_of_ble_eq_true rfl)).mono (by decide) (by decide)⟩
          · exact ⟨_, .int _, bk1.mono (by decide) (by decide)⟩
        refine ⟨_, _, _, _, _, rfl, g6.set a.toNat j, by rw [List.length_set, List.length_map]; exact hsl, fun x hx => ?_⟩
        rcases List.mem_or_eq_of_mem_set hx with hx | rfl
        · exact base0 x hx
        · exact bd
      · exact ⟨_, _, _, _, _, rfl, g, by rw [List.length_map]; exact hsl, base0⟩
    rintro σ H5 ⟨ys, ds, x7, x8, x9, rfl, g, bd1, bd2⟩
    have w5 := g.wd
    have dD := g.fin
    have hD := g.hd
    have hDi := g.it.up (hide_drop (z.add Pa) H5 D)
    have yl : ys.length ≤ 10 := by rw [g.len]; exact bd1
    have hqP := w5.up _ _ (w2.up _ _ (oP _ _ hq))
    replace hsd := w5.up _ _ hsd
    have hPa5 := w5.kp _ _ neP.1 neP.2.1 hPa2
    have jv1 := w5.da (w2.da (j1.up oP))
    have jv2 := w5.da (w2.da (j2.up oP))
    obtain ⟨sk1, sk2, sk3⟩ := hPV.bs _ hsb
    have hn8 := hPV.n1
    have sk3l : src.1.2.length ≤ 50 := sk3.1
    have w15 : Wd z H H5 := wP.trans (w2.trans w5).drop
    have hsd' := hide_le _ _ _ _ hsd
    have hD' := hide_le _ _ _ _ hD
    have hqP' := hide_le _ _ _ _ hqP
    walk_at "w"
    refine ⟨_, _, rfl, Or.inr (SqT.of hsd'), fun HL nHL => ?_⟩
    have uHL := (Wd.refl w5.st).new (o := .lst [.int src.1.1, .str src.1.2]) nHL
    have hHL := (Wd.refl w5.st).here (o := .lst [.int src.1.1, .str src.1.2]) nHL
    generalize upd H5 HL (.lst [.int src.1.1, .str src.1.2]) = J1 at *
    replace hsd := uHL.up _ _ hsd
    replace hsd' := hide_le _ _ _ _ hsd
    replace hD := uHL.up _ _ hD
    replace hD' := hide_le _ _ _ _ hD
    replace hqP := uHL.up _ _ hqP
    replace hqP' := hide_le _ _ _ _ hqP
    replace dD := uHL.da dD
    replace jv1 := uHL.da jv1
    replace jv2 := uHL.da jv2
    have hHL' := hide_le _ _ _ _ hHL
    walk_at "w"
    refine ⟨sd, _, rfl, SqT.of hsd', (by show ¬(HT.sIx 2 0 none = 0 ∧ HT.sIx 2 2 (some 1) = 2); decide), fun A1 nA1 => ?_⟩
    have uA1 := (Wd.refl uHL.st).new (o := .tup (cutV [.int src.1.1, .str src.1.2] none (some 1))) nA1
    have hA1 := (Wd.refl uHL.st).here (o := .tup (cutV [.int src.1.1, .str src.1.2] none (some 1))) nA1
    generalize upd J1 A1 (.tup (cutV [.int src.1.1, .str src.1.2] none (some 1))) = J2 at *
    replace hsd := uA1.up _ _ hsd
    replace hsd' := hide_le _ _ _ _ hsd
    replace hD := uA1.up _ _ hD
    replace hD' := hide_le _ _ _ _ hD
    replace hqP := uA1.up _ _ hqP
    replace hqP' := hide_le _ _ _ _ hqP
    replace hHL := uA1.up _ _ hHL
    replace hHL' := hide_le _ _ _ _ hHL
    replace dD := uA1.da dD
    replace jv1 := uA1.da jv1
    replace jv2 := uA1.da jv2
    replace hA1 : hide (z.add Pa) J2 A1 = some (.tup [.int src.1.1]) := hA1
    have hA1' := hide_le _ _ _ _ hA1
    walk_at "w"
    refine ⟨szr rfl, fun A2 nA2 => ?_⟩
    have uA2 := (Wd.refl uA1.st).new (o := .tup [.bl (decide (V.int src.1.1 = V.int 1)), .str src.1.2]) nA2
    have hA2 := (Wd.refl uA1.st).here (o := .tup [.bl (decide (V.int src.1.1 = V.int 1)), .str src.1.2]) nA2
    generalize upd J2 A2 (.tup [.bl (decide (V.int src.1.1 = V.int 1)), .str src.1.2]) = J3 at *
    replace hsd := uA2.up _ _ hsd
    replace hsd' := hide_le _ _ _ _ hsd
    replace hD := uA2.up _ _ hD
    replace hD' := hide_le _ _ _ _ hD
    replace hqP := uA2.up _ _ hqP
    replace hqP' := hide_le _ _ _ _ hqP
    replace hHL := uA2.up _ _ hHL
    replace hHL' := hide_le _ _ _ _ hHL
    replace hA1 := uA2.up _ _ hA1
    replace hA1' := hide_le _ _ _ _ hA1
    replace dD := uA2.da dD
    replace jv1 := uA2.da jv1
    replace jv2 := uA2.da jv2
    have hA2' := hide_le _ _ _ _ hA2
    walk_at "w"
    refine ⟨szr rfl, fun A3 nA3 => ?_⟩
    have uA3 := (Wd.refl uA2.st).new (o := .tup [.int src.1.1, .str (src.1.2 ++ Str.ofString "a")]) nA3
    have hA3 := (Wd.refl uA2.st).here (o := .tup [.int src.1.1, .str (src.1.2 ++ Str.ofString "a")]) nA3
    generalize upd J3 A3 (.tup [.int src.1.1, .str (src.1.2 ++ Str.ofString "a")]) = J4 at *
    replace hsd := uA3.up _ _ hsd
    replace hsd' := hide_le _ _ _ _ hsd
    replace hD := uA3.up _ _ hD
    replace hD' := hide_le _ _ _ _ hD
    replace hqP := uA3.up _ _ hqP
    replace hqP' := hide_le _ _ _ _ hqP
    replace hHL := uA3.up _ _ hHL
    replace hHL' := hide_le _ _ _ _ hHL
    replace hA1 := uA3.up _ _ hA1
    replace hA1' := hide_le _ _ _ _ hA1
    replace hA2 := uA3.up _ _ hA2
    replace hA2' := hide_le _ _ _ _ hA2
    replace dD := uA3.da dD
    replace jv1 := uA3.da jv1
    replace jv2 := uA3.da jv2
    have hA3' := hide_le _ _ _ _ hA3
    walk_at "w"
    refine ⟨szr rfl, fun HH nHH => ?_⟩
    have uHH := (Wd.refl uA3.st).new (o := .lst [.ref sd, .ref sd, .ref sd, .ref sd, .ref sd, .ref HL, .ref A1, .ref A2, .ref A3]) nHH
    have hHH := (Wd.refl uA3.st).here (o := .lst [.ref sd, .ref sd, .ref sd, .ref sd, .ref sd, .ref HL, .ref A1, .ref A2, .ref A3]) nHH
    generalize upd J4 HH (.lst [.ref sd, .ref sd, .ref sd, .ref sd, .ref sd, .ref HL, .ref A1, .ref A2, .ref A3]) = J5 at *
    replace hsd := uHH.up _ _ hsd
    replace hsd' := hide_le _ _ _ _ hsd
    replace hD := uHH.up _ _ hD
    replace hD' := hide_le _ _ _ _ hD
    replace hqP := uHH.up _ _ hqP
    replace hqP' := hide_le _ _ _ _ hqP
    replace hHL := uHH.up _ _ hHL
    replace hHL' := hide_le _ _ _ _ hHL
    replace hA1 := uHH.up _ _ hA1
    replace hA1' := hide_le _ _ _ _ hA1
    replace hA2 := uHH.up _ _ hA2
    replace hA2' := hide_le _ _ _ _ hA2
    replace hA3 := uHH.up _ _ hA3
    replace hA3' := hide_le _ _ _ _ hA3
    replace dD := uHH.da dD
    replace jv1 := uHH.da jv1
    replace jv2 := uHH.da jv2
    have hHH' := hide_le _ _ _ _ hHH
    walk_at "w"
    refine ⟨szr rfl, fun HX nHX => ?_⟩
    have uHX := (Wd.refl uHH.st).new (o := .lst [.ref sd, .ref sd, .ref sd]) nHX
    have hHX := (Wd.refl uHH.st).here (o := .lst [.ref sd, .ref sd, .ref sd]) nHX
    generalize upd J5 HX (.lst [.ref sd, .ref sd, .ref sd]) = J6 at *
    replace hsd := uHX.up _ _ hsd
    replace hsd' := hide_le _ _ _ _ hsd
    replace hD := uHX.up _ _ hD
    replace hD' := hide_le _ _ _ _ hD
    replace hqP := uHX.up _ _ hqP
    replace hqP' := hide_le _ _ _ _ hqP
    replace hHL := uHX.up _ _ hHL
    replace hHL' := hide_le _ _ _ _ hHL
    replace hA1 := uHX.up _ _ hA1
    replace hA1' := hide_le _ _ _ _ hA1
    replace hA2 := uHX.up _ _ hA2
    replace hA2' := hide_le _ _ _ _ hA2
    replace hA3 := uHX.up _ _ hA3
    replace hA3' := hide_le _ _ _ _ hA3
    replace hHH := uHX.up _ _ hHH
    replace hHH' := hide_le _ _ _ _ hHH
    replace dD := uHX.da dD
    replace jv1 := uHX.da jv1
    replace jv2 := uHX.da jv2
    have hHX' := hide_le _ _ _ _ hHX
    refine ⟨HH, HX, _, _, rfl, rfl, hHH', hHX', szr rfl, fun HC nHC => ?_⟩
    have uHC := (Wd.refl uHX.st).new (o := .lst ([.ref sd, .ref sd, .ref sd, .ref sd, .ref sd, .ref HL, .ref A1, .ref A2, .ref A3] ++ [.ref sd, .ref sd, .ref sd])) nHC
    have hHC := (Wd.refl uHX.st).here (o := .lst ([.ref sd, .ref sd, .ref sd, .ref sd, .ref sd, .ref HL, .ref A1, .ref A2, .ref A3] ++ [.ref sd, .ref sd, .ref sd])) nHC
    generalize upd J6 HC (.lst ([.ref sd, .ref sd, .ref sd, .ref sd, .ref sd, .ref HL, .ref A1, .ref A2, .ref A3] ++ [.ref sd, .ref sd, .ref sd])) = J7 at *
    replace hsd := uHC.up _ _ hsd
    replace hsd' := hide_le _ _ _ _ hsd
    replace hD := uHC.up _ _ hD
    replace hD' := hide_le _ _ _ _ hD
    replace hqP := uHC.up _ _ hqP
    replace hqP' := hide_le _ _ _ _ hqP
    replace hHL := uHC.up _ _ hHL
    replace hHL' := hide_le _ _ _ _ hHL
    replace hA1 := uHC.up _ _ hA1
    replace hA1' := hide_le _ _ _ _ hA1
    replace hA2 := uHC.up _ _ hA2
    replace hA2' := hide_le _ _ _ _ hA2
    replace hA3 := uHC.up _ _ hA3
    replace hA3' := hide_le _ _ _ _ hA3
    replace hHH := uHC.up _ _ hHH
    replace hHH' := hide_le _ _ _ _ hHH
    replace hHX := uHC.up _ _ hHX
    replace hHX' := hide_le _ _ _ _ hHX
    replace dD := uHC.da dD
    replace jv1 := uHC.da jv1
    replace jv2 := uHC.da jv2
    replace hHC : hide (z.add Pa) J7 HC = some (.lst [.ref sd, .ref sd, .ref sd, .ref sd, .ref sd, .ref HL, .ref A1, .ref A2, .ref A3, .ref sd, .ref sd, .ref sd]) := hHC
    have hHC' := hide_le _ _ _ _ hHC
    walk_at "w"
    obtain ⟨hv, e1, e2⟩ := at_nn (xs := [V.ref sd, .ref sd, .ref sd, .ref sd, .ref sd, .ref HL, .ref A1, .ref A2, .ref A3, .ref sd, .ref sd, .ref sd]) (i := d) d0 (by show d < 12; omega)
    refine ⟨_, _, _, _, rfl, rfl, SqL.of hHC', e2, ?_⟩
    have bk1 : Bz 16 0 (.int src.1.1) := Bz.int (by omega) (by omega)
    have bk2 : Bz 108 0 (.str src.1.2) := sk3.bz hPV.awr
    have bk2a : Bz 110 0 (.str (src.1.2 ++ Str.ofString "a")) := okA sk3 hPV.awr
    obtain ⟨hd, jh, bh⟩ : ∃ d, DA (hide (z.add Pa) J7) hv d ∧ Bz 300 2 d := by
      have he := at_mem e1
      have js : DA (hide (z.add Pa) J7) (.ref sd) (sideD src.1) ∧ Bz 300 2 (sideD src.1) := ⟨.side hsd, (hPV.bzs _ hsb).mono (by decide) (by decide)⟩
      simp only [List.mem_cons, List.not_mem_nil, or_false] at he
      rcases he with rfl | rfl | rfl | rfl | rfl | rfl | rfl | rfl | rfl | rfl | rfl | rfl
      · exact ⟨_, js⟩
      · exact ⟨_, js⟩
      · exact ⟨_, js⟩
      · exact ⟨_, js⟩
      · exact ⟨_, js⟩
      · exact ⟨_, .lst hHL (.cons (.int _) (.one (.str _))), (Bz.list (.cons (bk1.mono (w' := 110) (n' := 0) (by decide) (by decide)) (.cons (bk2.mono (by decide) (by decide)) .all)) (L := 2) (Nat.le_of_ble_eq_true rfl)).mono (by decide) (by decide)⟩
      · exact ⟨_, .tup hA1 (.one (.int _)), (Bz.tuple (.cons (bk1.mono (w' := 110) (n' := 0) (by decide) (by decide)) .all) (L := 1) (Nat.le_of_ble_eq_true rfl)).mono (by decide) (by decide)⟩
      · exact ⟨_, .tup hA2 (.cons (.bl _) (.one (.str _))), (Bz.tuple (.cons ((Bz.bool _).mono (w' := 110) (n' := 0) (by decide) (by decide)) (.cons (bk2.mono (by decide) (by decide)) .all)) (L := 2) (Nat.le_of_ble_eq_true rfl)).mono (by decide) (by decide)⟩
      · exact ⟨_, .tup hA3 (.cons (.int _) (.one (.str _))), (Bz.tuple (.cons (bk1.mono (w' := 110) (n' := 0) (by decide) (by decide)) (.cons (bk2a.mono (by decide) (by decide)) .all)) (L := 2) (Nat.le_of_ble_eq_true rfl)).mono (by decide) (by decide)⟩
      · exact ⟨_, js⟩
      · exact ⟨_, js⟩
      · exact ⟨_, js⟩
    clear hHL hA1 hA2 hA3 hHH hHX hHC
    walk_at "w"
    refine ⟨szr rfl, fun W1 nW1 => ?_⟩
    have uW1 := (Wd.refl uHC.st).new (o := .tup [hv, .ref D]) nW1
    have hW1 := (Wd.refl uHC.st).here (o := .tup [hv, .ref D]) nW1
    generalize upd J7 W1 (.tup [hv, .ref D]) = J8 at *
    replace hsd := uW1.up _ _ hsd
    replace hsd' := hide_le _ _ _ _ hsd
    replace hD := uW1.up _ _ hD
    replace hD' := hide_le _ _ _ _ hD
    replace hqP := uW1.up _ _ hqP
    replace hqP' := hide_le _ _ _ _ hqP
    replace dD := uW1.da dD
    replace jv1 := uW1.da jv1
    replace jv2 := uW1.da jv2
    replace jh := uW1.da jh
    have hW1' := hide_le _ _ _ _ hW1
    walk_at "w"
    refine ⟨szr rfl, fun W2 nW2 => ?_⟩
    have uW2 := (Wd.refl uW1.st).new (o := .lst [hv, .ref D]) nW2
    have hW2 := (Wd.refl uW1.st).here (o := .lst [hv, .ref D]) nW2
    generalize upd J8 W2 (.lst [hv, .ref D]) = J9 at *
    replace hsd := uW2.up _ _ hsd
    replace hsd' := hide_le _ _ _ _ hsd
    replace hD := uW2.up _ _ hD
    replace hD' := hide_le _ _ _ _ hD
    replace hqP := uW2.up _ _ hqP
    replace hqP' := hide_le _ _ _ _ hqP
    replace hW1 := uW2.up _ _ hW1
    replace hW1' := hide_le _ _ _ _ hW1
    replace dD := uW2.da dD
    replace jv1 := uW2.da jv1
    replace jv2 := uW2.da jv2
    replace jh := uW2.da jh
    have hW2' := hide_le _ _ _ _ hW2
    walk_at "w"
    refine ⟨D, ys, rfl, Or.inl ⟨SqL.of hD', fun TP nTP => ?_⟩⟩
    have uTP := (Wd.refl uW2.st).new (o := .tup ys) nTP
    have hTP := (Wd.refl uW2.st).here (o := .tup ys) nTP
    generalize upd J9 TP (.tup ys) = J10 at *
    replace hsd := uTP.up _ _ hsd
    replace hsd' := hide_le _ _ _ _ hsd
    replace hD := uTP.up _ _ hD
    replace hD' := hide_le _ _ _ _ hD
    replace hqP := uTP.up _ _ hqP
    replace hqP' := hide_le _ _ _ _ hqP
    replace hW1 := uTP.up _ _ hW1
    replace hW1' := hide_le _ _ _ _ hW1
    replace hW2 := uTP.up _ _ hW2
    replace hW2' := hide_le _ _ _ _ hW2
    replace dD := uTP.da dD
    replace jv1 := uTP.da jv1
    replace jv2 := uTP.da jv2
    replace jh := uTP.da jh
    have hTP' := hide_le _ _ _ _ hTP
    walk_at "w"
    refine ⟨szr rfl, fun W3 nW3 => ?_⟩
    have uW3 := (Wd.refl uTP.st).new (o := .tup [hv, .ref TP]) nW3
    have hW3 := (Wd.refl uTP.st).here (o := .tup [hv, .ref TP]) nW3
    generalize upd J10 W3 (.tup [hv, .ref TP]) = J11 at *
    replace hsd := uW3.up _ _ hsd
    replace hsd' := hide_le _ _ _ _ hsd
    replace hD := uW3.up _ _ hD
    replace hD' := hide_le _ _ _ _ hD
    replace hqP := uW3.up _ _ hqP
    replace hqP' := hide_le _ _ _ _ hqP
    replace hW1 := uW3.up _ _ hW1
    replace hW1' := hide_le _ _ _ _ hW1
    replace hW2 := uW3.up _ _ hW2
    replace hW2' := hide_le _ _ _ _ hW2
    replace hTP := uW3.up _ _ hTP
    replace hTP' := hide_le _ _ _ _ hTP
    replace dD := uW3.da dD
    replace jv1 := uW3.da jv1
    replace jv2 := uW3.da jv2
    replace jh := uW3.da jh
    have hW3' := hide_le _ _ _ _ hW3
    walk_at "w"
    refine ⟨D, ys, rfl, SqL.of hD', fun S1 nS1 => ?_⟩
    have uS1 := (Wd.refl uW3.st).new (o := .lst (cutV ys (some 1) none)) nS1
    have hS1 := (Wd.refl uW3.st).here (o := .lst (cutV ys (some 1) none)) nS1
    generalize upd J11 S1 (.lst (cutV ys (some 1) none)) = J12 at *
    replace hsd := uS1.up _ _ hsd
    replace hsd' := hide_le _ _ _ _ hsd
    replace hD := uS1.up _ _ hD
    replace hD' := hide_le _ _ _ _ hD
    replace hqP := uS1.up _ _ hqP
    replace hqP' := hide_le _ _ _ _ hqP
    replace hW1 := uS1.up _ _ hW1
    replace hW1' := hide_le _ _ _ _ hW1
    replace hW2 := uS1.up _ _ hW2
    replace hW2' := hide_le _ _ _ _ hW2
    replace hTP := uS1.up _ _ hTP
    replace hTP' := hide_le _ _ _ _ hTP
    replace hW3 := uS1.up _ _ hW3
    replace hW3' := hide_le _ _ _ _ hW3
    replace dD := uS1.da dD
    replace jv1 := uS1.da jv1
    replace jv2 := uS1.da jv2
    replace jh := uS1.da jh
    have hS1' := hide_le _ _ _ _ hS1
    walk_at "w"
    refine ⟨szr rfl, fun W4 nW4 => ?_⟩
    have uW4 := (Wd.refl uS1.st).new (o := .tup [hv, .ref S1]) nW4
    have hW4 := (Wd.refl uS1.st).here (o := .tup [hv, .ref S1]) nW4
    generalize upd J12 W4 (.tup [hv, .ref S1]) = J13 at *
    replace hsd := uW4.up _ _ hsd
    replace hsd' := hide_le _ _ _ _ hsd
    replace hD := uW4.up _ _ hD
    replace hD' := hide_le _ _ _ _ hD
    replace hqP := uW4.up _ _ hqP
    replace hqP' := hide_le _ _ _ _ hqP
    replace hW1 := uW4.up _ _ hW1
    replace hW1' := hide_le _ _ _ _ hW1
    replace hW2 := uW4.up _ _ hW2
    replace hW2' := hide_le _ _ _ _ hW2
    replace hTP := uW4.up _ _ hTP
    replace hTP' := hide_le _ _ _ _ hTP
    replace hW3 := uW4.up _ _ hW3
    replace hW3' := hide_le _ _ _ _ hW3
    replace hS1 := uW4.up _ _ hS1
    replace hS1' := hide_le _ _ _ _ hS1
    replace dD := uW4.da dD
    replace jv1 := uW4.da jv1
    replace jv2 := uW4.da jv2
    replace jh := uW4.da jh
    have hW4' := hide_le _ _ _ _ hW4
    walk_at "w"
    refine ⟨D, ys, rfl, SqL.of hD', fun S2 nS2 => ?_⟩
    have uS2 := (Wd.refl uW4.st).new (o := .lst (cutV ys (some (-1)) none)) nS2
    have hS2 := (Wd.refl uW4.st).here (o := .lst (cutV ys (some (-1)) none)) nS2
    generalize upd J13 S2 (.lst (cutV ys (some (-1)) none)) = J14 at *
    replace hsd := uS2.up _ _ hsd
    replace hsd' := hide_le _ _ _ _ hsd
    replace hD := uS2.up _ _ hD
    replace hD' := hide_le _ _ _ _ hD
    replace hqP := uS2.up _ _ hqP
    replace hqP' := hide_le _ _ _ _ hqP
    replace hW1 := uS2.up _ _ hW1
    replace hW1' := hide_le _ _ _ _ hW1
    replace hW2 := uS2.up _ _ hW2
    replace hW2' := hide_le _ _ _ _ hW2
    replace hTP := uS2.up _ _ hTP
    replace hTP' := hide_le _ _ _ _ hTP
    replace hW3 := uS2.up _ _ hW3
    replace hW3' := hide_le _ _ _ _ hW3
    replace hS1 := uS2.up _ _ hS1
    replace hS1' := hide_le _ _ _ _ hS1
    replace hW4 := uS2.up _ _ hW4
    replace hW4' := hide_le _ _ _ _ hW4
    replace dD := uS2.da dD
    replace jv1 := uS2.da jv1
    replace jv2 := uS2.da jv2
    replace jh := uS2.da jh
    have hS2' := hide_le _ _ _ _ hS2
    refine ⟨D, S2, _, _, rfl, rfl, hD', hS2', by have := cutV_len ys (some (-1)) none; exact szle (by omega), fun C2 nC2 => ?_⟩
    have uC2 := (Wd.refl uS2.st).new (o := .lst (ys ++ cutV ys (some (-1)) none)) nC2
    have hC2 := (Wd.refl uS2.st).here (o := .lst (ys ++ cutV ys (some (-1)) none)) nC2
    generalize upd J14 C2 (.lst (ys ++ cutV ys (some (-1)) none)) = J15 at *
    replace hsd := uC2.up _ _ hsd
    replace hsd' := hide_le _ _ _ _ hsd
    replace hD := uC2.up _ _ hD
    replace hD' := hide_le _ _ _ _ hD
    replace hqP := uC2.up _ _ hqP
    replace hqP' := hide_le _ _ _ _ hqP
    replace hW1 := uC2.up _ _ hW1
    replace hW1' := hide_le _ _ _ _ hW1
    replace hW2 := uC2.up _ _ hW2
    replace hW2' := hide_le _ _ _ _ hW2
    replace hTP := uC2.up _ _ hTP
    replace hTP' := hide_le _ _ _ _ hTP
    replace hW3 := uC2.up _ _ hW3
    replace hW3' := hide_le _ _ _ _ hW3
    replace hS1 := uC2.up _ _ hS1
    replace hS1' := hide_le _ _ _ _ hS1
    replace hW4 := uC2.up _ _ hW4
    replace hW4' := hide_le _ _ _ _ hW4
    replace hS2 := uC2.up _ _ hS2
    replace hS2' := hide_le _ _ _ _ hS2
    replace dD := uC2.da dD
    replace jv1 := uC2.da jv1
    replace jv2 := uC2.da jv2
    replace jh := uC2.da jh
    have hC2' := hide_le _ _ _ _ hC2
    walk_at "w"
    refine ⟨szr rfl, fun W5 nW5 => ?_⟩
    have uW5 := (Wd.refl uC2.st).new (o := .tup [hv, .ref C2]) nW5
    have hW5 := (Wd.refl uC2.st).here (o := .tup [hv, .ref C2]) nW5
    generalize upd J15 W5 (.tup [hv, .ref C2]) = J16 at *
    replace hsd := uW5.up _ _ hsd
    replace hsd' := hide_le _ _ _ _ hsd
    replace hD := uW5.up _ _ hD
    replace hD' := hide_le _ _ _ _ hD
    replace hqP := uW5.up _ _ hqP
    replace hqP' := hide_le _ _ _ _ hqP
    replace hW1 := uW5.up _ _ hW1
    replace hW1' := hide_le _ _ _ _ hW1
    replace hW2 := uW5.up _ _ hW2
    replace hW2' := hide_le _ _ _ _ hW2
    replace hTP := uW5.up _ _ hTP
    replace hTP' := hide_le _ _ _ _ hTP
    replace hW3 := uW5.up _ _ hW3
    replace hW3' := hide_le _ _ _ _ hW3
    replace hS1 := uW5.up _ _ hS1
    replace hS1' := hide_le _ _ _ _ hS1
    replace hW4 := uW5.up _ _ hW4
    replace hW4' := hide_le _ _ _ _ hW4
    replace hS2 := uW5.up _ _ hS2
    replace hS2' := hide_le _ _ _ _ hS2
    replace hC2 := uW5.up _ _ hC2
    replace hC2' := hide_le _ _ _ _ hC2
    replace dD := uW5.da dD
    replace jv1 := uW5.da jv1
    replace jv2 := uW5.da jv2
    replace jh := uW5.da jh
    have hW5' := hide_le _ _ _ _ hW5
    walk_at "w"
    refine ⟨szr rfl, fun WL nWL => ?_⟩
    have uWL := (Wd.refl uW5.st).new (o := .lst [.ref W1, .ref W2, .ref W3, .ref W4, .ref W5]) nWL
    have hWL := (Wd.refl uW5.st).here (o := .lst [.ref W1, .ref W2, .ref W3, .ref W4, .ref W5]) nWL
    generalize upd J16 WL (.lst [.ref W1, .ref W2, .ref W3, .ref W4, .ref W5]) = J17 at *
    replace hsd := uWL.up _ _ hsd
    replace hsd' := hide_le _ _ _ _ hsd
    replace hD := uWL.up _ _ hD
    replace hD' := hide_le _ _ _ _ hD
    replace hqP := uWL.up _ _ hqP
    replace hqP' := hide_le _ _ _ _ hqP
    replace hW1 := uWL.up _ _ hW1
    replace hW1' := hide_le _ _ _ _ hW1
    replace hW2 := uWL.up _ _ hW2
    replace hW2' := hide_le _ _ _ _ hW2
    replace hTP := uWL.up _ _ hTP
    replace hTP' := hide_le _ _ _ _ hTP
    replace hW3 := uWL.up _ _ hW3
    replace hW3' := hide_le _ _ _ _ hW3
    replace hS1 := uWL.up _ _ hS1
    replace hS1' := hide_le _ _ _ _ hS1
    replace hW4 := uWL.up _ _ hW4
    replace hW4' := hide_le _ _ _ _ hW4
    replace hS2 := uWL.up _ _ hS2
    replace hS2' := hide_le _ _ _ _ hS2
    replace hC2 := uWL.up _ _ hC2
    replace hC2' := hide_le _ _ _ _ hC2
    replace hW5 := uWL.up _ _ hW5
    replace hW5' := hide_le _ _ _ _ hW5
    replace dD := uWL.da dD
    replace jv1 := uWL.da jv1
    replace jv2 := uWL.da jv2
    replace jh := uWL.da jh
    have hWL' := hide_le _ _ _ _ hWL
    walk_at "w"
    refine ⟨szr rfl, fun W6 nW6 => ?_⟩
    have uW6 := (Wd.refl uWL.st).new (o := .tup [hv, .ref D, hv]) nW6
    have hW6 := (Wd.refl uWL.st).here (o := .tup [hv, .ref D, hv]) nW6
    generalize upd J17 W6 (.tup [hv, .ref D, hv]) = J18 at *
    replace hsd := uW6.up _ _ hsd
    replace hsd' := hide_le _ _ _ _ hsd
    replace hD := uW6.up _ _ hD
    replace hD' := hide_le _ _ _ _ hD
    replace hqP := uW6.up _ _ hqP
    replace hqP' := hide_le _ _ _ _ hqP
    replace hW1 := uW6.up _ _ hW1
    replace hW1' := hide_le _ _ _ _ hW1
    replace hW2 := uW6.up _ _ hW2
    replace hW2' := hide_le _ _ _ _ hW2
    replace hTP := uW6.up _ _ hTP
    replace hTP' := hide_le _ _ _ _ hTP
    replace hW3 := uW6.up _ _ hW3
    replace hW3' := hide_le _ _ _ _ hW3
    replace hS1 := uW6.up _ _ hS1
    replace hS1' := hide_le _ _ _ _ hS1
    replace hW4 := uW6.up _ _ hW4
    replace hW4' := hide_le _ _ _ _ hW4
    replace hS2 := uW6.up _ _ hS2
    replace hS2' := hide_le _ _ _ _ hS2
    replace hC2 := uW6.up _ _ hC2
    replace hC2' := hide_le _ _ _ _ hC2
    replace hW5 := uW6.up _ _ hW5
    replace hW5' := hide_le _ _ _ _ hW5
    replace hWL := uW6.up _ _ hWL
    replace hWL' := hide_le _ _ _ _ hWL
    replace dD := uW6.da dD
    replace jv1 := uW6.da jv1
    replace jv2 := uW6.da jv2
    replace jh := uW6.da jh
    have hW6' := hide_le _ _ _ _ hW6
    walk_at "w"
    refine ⟨szr rfl, fun WX nWX => ?_⟩
    have uWX := (Wd.refl uW6.st).new (o := .lst [.ref W6]) nWX
    have hWX := (Wd.refl uW6.st).here (o := .lst [.ref W6]) nWX
    generalize upd J18 WX (.lst [.ref W6]) = J19 at *
    replace hsd := uWX.up _ _ hsd
    replace hsd' := hide_le _ _ _ _ hsd
    replace hD := uWX.up _ _ hD
    replace hD' := hide_le _ _ _ _ hD
    replace hqP := uWX.up _ _ hqP
    replace hqP' := hide_le _ _ _ _ hqP
    replace hW1 := uWX.up _ _ hW1
    replace hW1' := hide_le _ _ _ _ hW1
    replace hW2 := uWX.up _ _ hW2
    replace hW2' := hide_le _ _ _ _ hW2
    replace hTP := uWX.up _ _ hTP
    replace hTP' := hide_le _ _ _ _ hTP
    replace hW3 := uWX.up _ _ hW3
    replace hW3' := hide_le _ _ _ _ hW3
    replace hS1 := uWX.up _ _ hS1
    replace hS1' := hide_le _ _ _ _ hS1
    replace hW4 := uWX.up _ _ hW4
    replace hW4' := hide_le _ _ _ _ hW4
    replace hS2 := uWX.up _ _ hS2
    replace hS2' := hide_le _ _ _ _ hS2
    replace hC2 := uWX.up _ _ hC2
    replace hC2' := hide_le _ _ _ _ hC2
    replace hW5 := uWX.up _ _ hW5
    replace hW5' := hide_le _ _ _ _ hW5
    replace hWL := uWX.up _ _ hWL
    replace hWL' := hide_le _ _ _ _ hWL
    replace hW6 := uWX.up _ _ hW6
    replace hW6' := hide_le _ _ _ _ hW6
    replace dD := uWX.da dD
    replace jv1 := uWX.da jv1
    replace jv2 := uWX.da jv2
    replace jh := uWX.da jh
    have hWX' := hide_le _ _ _ _ hWX
    refine ⟨WL, WX, _, _, rfl, rfl, hWL', hWX', szr rfl, fun WC nWC => ?_⟩
    have uWC := (Wd.refl uWX.st).new (o := .lst ([.ref W1, .ref W2, .ref W3, .ref W4, .ref W5] ++ [.ref W6])) nWC
    have hWC := (Wd.refl uWX.st).here (o := .lst ([.ref W1, .ref W2, .ref W3, .ref W4, .ref W5] ++ [.ref W6])) nWC
    generalize upd J19 WC (.lst ([.ref W1, .ref W2, .ref W3, .ref W4, .ref W5] ++ [.ref W6])) = J20 at *
    replace hsd := uWC.up _ _ hsd
    replace hsd' := hide_le _ _ _ _ hsd
    replace hD := uWC.up _ _ hD
    replace hD' := hide_le _ _ _ _ hD
    replace hqP := uWC.up _ _ hqP
    replace hqP' := hide_le _ _ _ _ hqP
    replace hW1 := uWC.up _ _ hW1
    replace hW1' := hide_le _ _ _ _ hW1
    replace hW2 := uWC.up _ _ hW2
    replace hW2' := hide_le _ _ _ _ hW2
    replace hTP := uWC.up _ _ hTP
    replace hTP' := hide_le _ _ _ _ hTP
    replace hW3 := uWC.up _ _ hW3
    replace hW3' := hide_le _ _ _ _ hW3
    replace hS1 := uWC.up _ _ hS1
    replace hS1' := hide_le _ _ _ _ hS1
    replace hW4 := uWC.up _ _ hW4
    replace hW4' := hide_le _ _ _ _ hW4
    replace hS2 := uWC.up _ _ hS2
    replace hS2' := hide_le _ _ _ _ hS2
    replace hC2 := uWC.up _ _ hC2
    replace hC2' := hide_le _ _ _ _ hC2
    replace hW5 := uWC.up _ _ hW5
    replace hW5' := hide_le _ _ _ _ hW5
    replace hWL := uWC.up _ _ hWL
    replace hWL' := hide_le _ _ _ _ hWL
    replace hW6 := uWC.up _ _ hW6
    replace hW6' := hide_le _ _ _ _ hW6
    replace hWX := uWC.up _ _ hWX
    replace hWX' := hide_le _ _ _ _ hWX
    replace dD := uWC.da dD
    replace jv1 := uWC.da jv1
    replace jv2 := uWC.da jv2
    replace jh := uWC.da jh
    replace hWC : hide (z.add Pa) J20 WC = some (.lst [.ref W1, .ref W2, .ref W3, .ref W4, .ref W5, .ref W6]) := hWC
    have hWC' := hide_le _ _ _ _ hWC
    walk_at "w"
    obtain ⟨wv, e3, e4⟩ := at_nn (xs := [V.ref W1, .ref W2, .ref W3, .ref W4, .ref W5, .ref W6]) (i := m) (by omega) (by show m < 6; omega)
    refine ⟨_, _, _, _, rfl, rfl, SqL.of hWC', e4, ?_⟩
    obtain ⟨es1, q1, q2, q3⟩ := das_sub hDi (ys := cutV ys (some 1) none) fun v hv => cutV_mem hv
    obtain ⟨es2, q4, q5, q6⟩ := das_sub hDi (ys := ys ++ cutV ys (some (-1)) none) fun v hv => (List.mem_append.mp hv).elim id cutV_mem
    have l1 := cutV_len ys (some 1) none
    have l2 := cutV_len ys (some (-1)) none
    rw [List.length_append] at q5
    have uu := (((((((((((((((((((uHL.trans uA1).trans uA2).trans uA3).trans uHH).trans uHX).trans uHC).trans uW1).trans uW2).trans uTP).trans uW3).trans uS1).trans uW4).trans uS2).trans uC2).trans uW5).trans uWL).trans uW6).trans uWX).trans uWC)
    obtain ⟨wd, jw, bw⟩ : ∃ d, DA (hide (z.add Pa) J20) wv d ∧ Bz 45000 4 d := by
      have he := at_mem e3
      have bD : Bz 14000 3 (.list ds) := (Bz.list bd2 bd1).mono (by decide) (by decide)
      have bh2 := bh.mono (w' := 14000) (n' := 3) (by decide) (by decide)
      simp only [List.mem_cons, List.not_mem_nil, or_false] at he
      rcases he with rfl | rfl | rfl | rfl | rfl | rfl
      · exact ⟨_, .tup hW1 (.cons jh (.one dD)), (Bz.tuple (.cons bh2 (.cons bD .all)) (L := 2) (Nat.le_of_ble_eq_true rfl)).mono (by decide) (by decide)⟩
      · exact ⟨_, .lst hW2 (.cons jh (.one dD)), (Bz.list (.cons bh2 (.cons bD .all)) (L := 2) (Nat.le_of_ble_eq_true rfl)).mono (by decide) (by decide)⟩
      · exact ⟨_, .tup hW3 (.cons jh (.one (.tup hTP (uu.das hDi)))), (Bz.tuple (.cons bh2 (.cons ((Bz.tuple bd2 bd1).mono (by decide) (by decide)) .all)) (L := 2) (Nat.le_of_ble_eq_true rfl)).mono (by decide) (by decide)⟩
      · exact ⟨_, .tup hW4 (.cons jh (.one (.lst hS1 (uu.das q1)))), (Bz.tuple (.cons bh2 (.cons ((Bz.list (L := 10) (fun e he => bd2 e (q3 e he)) (by omega)).mono (by decide) (by decide)) .all)) (L := 2) (Nat.le_of_ble_eq_true rfl)).mono (by decide) (by decide)⟩
      · exact ⟨_, .tup hW5 (.cons jh (.one (.lst hC2 (uu.das q4)))), (Bz.tuple (.cons bh2 (.cons ((Bz.list (L := 20) (fun e he => bd2 e (q6 e he)) (by omega)).mono (by decide) (by decide)) .all)) (L := 2) (Nat.le_of_ble_eq_true rfl)).mono (by decide) (by decide)⟩
      · exact ⟨_, .tup hW6 (.cons jh (.cons dD (.one jh))), (Bz.tuple (.cons bh2 (.cons bD (.cons bh2 .all))) (L := 3) (Nat.le_of_ble_eq_true rfl)).mono (by decide) (by decide)⟩
    have hPaE := uu.kp _ _ neP.1 neP.2.1 hPa5
    have wzE := (w15.trans uu.drop)
    have nPa : H Pa = none := nP
    clear hW1 hW2 hTP hW3 hS1 hW4 hS2 hC2 hW5 hWL hW6 hWX hWC
    have hix : ixN [v1, v2].length t = some t.toNat := by
      unfold ixN
      rw [if_pos t0, if_pos (by show t < 2; omega)]
    have mP : Pa ∈ (z.add Pa).m := List.mem_cons_self
    have bp1 : Bz 730000 3 (wayD p.a) := POk.way (L := 0) hPV hP.ha hP.ma (Nat.le_trans hP.la (by decide))
    have bp2 : Bz 730000 3 (wayD p.b) := POk.way (L := 0) hPV hP.hb hP.mb (Nat.le_trans hP.lb (by decide))
    have bat : Bz 16 0 (.int p.at_) := Bz.int (by have := hP.t0; omega) (by have := hP.t1; omega)
    have fin : ∀ (p1 p2 : V) (dd1 dd2 : PyData) (Hn : Hp), Wd z H Hn → DA (hide (z.add Pa) Hn) p1 dd1 → DA (hide (z.add Pa) Hn) p2 dd2 → Bz 730000 4 dd1 → Bz 730000 4 dd2 → ∀ T, Hn T = none → Q (.ref T) (upd Hn T (.tup [p1, p2, .int p.at_])) ∧ Q (.ref T) (upd Hn T (.lst [p1, p2, .int p.at_])) := by
      intro p1 p2 dd1 dd2 Hn wn y1 y2 b1 b2 T nT
      have c1 := (Wd.refl wn.st).new (o := .tup [p1, p2, .int p.at_]) nT
      have c2 := (Wd.refl wn.st).new (o := .lst [p1, p2, .int p.at_]) nT
      have z1 := y1.up (hide_drop z Hn Pa)
      have z2 := y2.up (hide_drop z Hn Pa)
      exact ⟨k _ _ _ (wn.trans c1) (.tup (wn.here nT) (.cons (c1.da z1) (.cons (c1.da z2) (.one (.int _))))) ((Bz.tuple (.cons b1 (.cons b2 (.cons (bat.mono (by decide) (by decide)) .all))) (L := 3) (Nat.le_of_ble_eq_true rfl)).mono (by decide) (by decide)),
        k _ _ _ (wn.trans c2) (.lst (wn.here nT) (.cons (c2.da z1) (.cons (c2.da z2) (.one (.int _))))) ((Bz.list (.cons b1 (.cons b2 (.cons (bat.mono (by decide) (by decide)) .all))) (L := 3) (Nat.le_of_ble_eq_true rfl)).mono (by decide) (by decide))⟩
    walk_at "w"
    refine ⟨Pa, _, _, _, rfl, rfl, hPaE, hix, ?_⟩
    have bw2 := bw.mono (w' := 730000) (n' := 4) (by decide) (by decide)
    rcases ht with rfl | rfl
    · have wF := wzE.put (o := .lst [wv, v2]) nPa neP.1 neP.2.1
      have hqF := hide_le _ _ _ _ (hide_mem (o := .lst [wv, v2]) mP _ _ hqP)
      have jwF := jw.up (hide_mem (o := .lst [wv, v2]) mP)
      have jvF := jv2.up (hide_mem (o := .lst [wv, v2]) mP)
      have hPF : upd J20 Pa (.lst [wv, v2]) Pa = some (.lst [wv, v2]) := upd_same
      generalize hgen : upd J20 Pa (.lst [wv, v2]) = HF at *
      have hgen2 : upd J20 Pa (.lst ([v1, v2].set (0 : Int).toNat wv)) = HF := hgen
      rw [hgen2]
      walk_at "w"
      walk_at "if"
      · walk_at "w"
        refine ⟨szr rfl, fun T nT => ?_⟩
        exact (fin _ _ _ _ _ wF jwF jvF bw2 (bp2.mono (by decide) (by decide)) T nT).2
      · walk_at "w"
        refine ⟨szr rfl, fun T nT => ?_⟩
        exact (fin _ _ _ _ _ wF jwF jvF bw2 (bp2.mono (by decide) (by decide)) T nT).1
    · have wF := wzE.put (o := .lst [v1, wv]) nPa neP.1 neP.2.1
      have hqF := hide_le _ _ _ _ (hide_mem (o := .lst [v1, wv]) mP _ _ hqP)
      have jwF := jw.up (hide_mem (o := .lst [v1, wv]) mP)
      have jvF := jv1.up (hide_mem (o := .lst [v1, wv]) mP)
      have hPF : upd J20 Pa (.lst [v1, wv]) Pa = some (.lst [v1, wv]) := upd_same
      generalize hgen : upd J20 Pa (.lst [v1, wv]) = HF at *
      have hgen2 : upd J20 Pa (.lst ([v1, v2].set (1 : Int).toNat wv)) = HF := hgen
      rw [hgen2]
      walk_at "w"
      walk_at "if"
      · walk_at "w"
        refine ⟨szr rfl, fun T nT => ?_⟩
        exact (fin _ _ _ _ _ wF jvF jwF (bp1.mono (by decide) (by decide)) bw2 T nT).2
      · walk_at "w"
        refine ⟨szr rfl, fun T nT => ?_⟩
        exact (fin _ _ _ _ _ wF jvF jwF (bp1.mono (by decide) (by decide)) bw2 T nT).1
end
end GJ


set_option Elab.async false
set_option linter.all false
set_option maxRecDepth 100000
set_option maxHeartbeats 4000000
namespace GJ
open PySem PySem.Spec PyProof.Rows L2 TL
set_option pp.maxSteps 300
theorem shm {α : Type} {f : α → PyData} {l : List α} (h : ∀ e ∈ l, SeqAt.shaped (f e) = true) : ∀ d ∈ l.map f, SeqAt.shaped d = true := fun d hd => by
  obtain ⟨x, h1, rfl⟩ := List.mem_map.mp hd
  exact h x h1
section
variable {P : Program} {w : World} {K : PySem.W.Frag} {mg : Str → Option Value} {base : Heap}
set_option hygiene false in
local macro_rules | `(tactic| walk_at "w") => `(tactic| repeat (first
  | refine ⟨_, rfl, ?_⟩
  | refine ⟨_, _, rfl, rfl, (by first | decide | omega), fun r r0 r1 re => ?_⟩
  | refine ⟨_, _, rfl, rfl, (by first | exact Or.inl ⟨by omega, by omega⟩ | exact Or.inr ⟨by omega, by omega⟩ : CMul _ _), ?_⟩
  | refine ⟨_, _, rfl, rfl, (by first | exact ⟨by decide, by decide⟩ | exact ⟨by omega, by omega⟩ : CDiv _ _), ?_⟩
  | refine ⟨_, _, rfl, rfl, (by exact ⟨by decide, by decide, by decide⟩ : CPow _ _), ?_⟩
  | refine ⟨_, _, rfl, rfl, ?_⟩
  | refine ⟨(by rfl : scal _ _ = true), ?_⟩
  | refine Or.inl ⟨_, rfl, ?_⟩
  | refine ⟨_, _, rfl, fun m m0 m1 m2 => ?_⟩
  | refine ⟨_, _, _, _, rfl, rfl, SqL.of (by first | assumption | exact upd_same | exact fx _ | exact fy _), rfl, ?_⟩
  | refine ⟨_, _, _, _, rfl, rfl, (by first | assumption | exact upd_same | exact fx _ | exact fy _), rfl, ?_⟩
  | refine ⟨_, _, _, _, rfl, rfl, SqT.of (by first | assumption | exact upd_same | exact fx _ | exact fy _), rfl, ?_⟩
  | refine ⟨(szle (by omega) : Str.length _ ≤ sizeLine), ?_⟩
  | refine ⟨(szle (by first | omega | (rw [sla]; omega) | (rw [sla, sla]; omega)) : Str.length _ + Str.length _ ≤ sizeLine), ?_⟩
  | refine ⟨_, _, rfl, len_lst (by first | assumption | exact upd_same | exact fx _ | exact fy _), ?_⟩))
set_option hygiene false in
local macro_rules | `(tactic| walk_at "if") => `(tactic| (refine ite2 (fun hc => ?_) (fun hc => ?_) <;>
  simp only [decide_eq_true_eq, Bool.not_eq_true', decide_eq_false_iff_not, V.int.injEq, V.str.injEq, V.bl.injEq, Decidable.not_not, Bool.not_eq_true, V.int_ne, Int.not_lt, Int.not_le, Bool.true_eq_false, Bool.false_eq_true, not_true_eq_false, not_false_eq_true] at hc))
set_option hygiene false in
local macro_rules | `(tactic| walk_at "new") => `(tactic| (refine ⟨by first | decide | (simp only [List.length_cons, List.length_nil, List.length_append, List.length_map]; first | decide | (rw [sizeLine_eq]; omega)), fun p np => ?_⟩))
set_option hygiene false in
local macro_rules | `(tactic| walk_at "yes") => `(tactic| refine itY (by first | rfl | exact decide_eq_true (by first | rfl | omega | assumption) | (simp only [decide_eq_true_eq, Bool.not_eq_true', decide_eq_false_iff_not, V.int.injEq, V.str.injEq, V.bl.injEq]; first | omega | assumption)) ?_)
set_option hygiene false in
local macro_rules | `(tactic| walk_at "no") => `(tactic| refine itN (by first | decide | (simp only [decide_eq_true_eq, Bool.not_eq_true', decide_eq_false_iff_not, V.int.injEq, V.str.injEq, V.bl.injEq, Bool.not_eq_true, Decidable.not_not]; first | omega | assumption)) ?_)
def sp_lessened : Sp := fun vs H Q _ => ∃ (z : Zz) (v : V) (M : Parts), vs = [.ref z.s, v] ∧ St z H ∧ DA (hide z H) v (partsD M) ∧ PV M ∧
  ∀ v' H' M', Wd z H H' → DA (hide z H') v' (partsD M') → PV M' → Q v' H'
def N__law_lessened : List Str := ["_law_store_here", "_law_parts", "_law_lists", "_law_row", "_law_entry", "_law_many", "_law_x"]
theorem sc__law_lessened : FnScope N__law_lessened ["_law_store_here", "_law_parts"] (defScope (top 77)) := ⟨rfl, rfl, rfl, by decide +kernel, rfl, by decide +kernel, by decide +kernel⟩
theorem ok__law_lessened (En : Env K mg fas fns prs) : Ok P w K mg base "_law_lessened" 4 ["_law_store_here", "_law_parts"] sp_lessened := by
  refine ok_mk 58 77 En sc__law_lessened (fun _ _ _ _ _ _ us hl => match us, hl with | [_, _], _ => rfl) (fun vs H Q E h => ?_) (fun f cdv A outer s H vs Q E hr h => ?_)
  · obtain ⟨z, v, M, rfl, _⟩ := h
    rfl
  · obtain ⟨z, v, M, rfl, hz, hv, hPV, k⟩ := h
    obtain ⟨p, b, a, e, xb, xa, xe, rfl, hp, hb, ha, he, jb, ja, je⟩ := hv.parts_inv
    have hp0 := hide_le _ _ _ _ hp
    have lb : xb.length ≤ 100 := by rw [jb.len, List.length_map]; exact hPV.cb
    have la : xa.length ≤ 100 := by rw [ja.len, List.length_map]; exact hPV.ca
    have le : xe.length ≤ 100 := by rw [je.len, List.length_map]; exact hPV.ce
    refine ⟨_, (pss_cons
        (ps_set (i := 2) sc__law_lessened.nd rfl (Or.inl rfl) (pe_lst (pa_cons (pe_callTy (call_list_ofK (K := K) rfl) (by rfl) (fr_list En) bt_list (pa_cons (pe_ix (ix_tupK (K := K) rfl) (pv 1) pe_int (fun _ _ => rfl)) pa_nil)) (pa_cons (pe_callTy (call_list_ofK (K := K) rfl) (by rfl) (fr_list En) bt_list (pa_cons (pe_ix (ix_tupK (K := K) rfl) (pv 1) pe_int (fun _ _ => rfl)) pa_nil)) (pa_cons (pe_callTy (call_list_ofK (K := K) rfl) (by rfl) (fr_list En) bt_list (pa_cons (pe_ix (ix_tupK (K := K) rfl) (pv 1) pe_int (fun _ _ => rfl)) pa_nil)) pa_nil)))))
      (pss_cons
        (ps_for PassesOwn.never rfl (pi_listK (K := K) rfl (pe_lst (pa_cons (pe_fn (ok__law_pick En) (hr.mono (by decide)) (pa_cons (pv 0) (pa_cons (pv 2) pa_nil))) pa_nil))) (pg_name (i := 3) sc__law_lessened.nd rfl (Or.inl rfl)) (pss_one (ps_if (pt_truth (pv 3) (by intro _; rfl)) (pss_cons
        (ps_set (i := 4) sc__law_lessened.nd rfl (Or.inr rfl) (pe_fn (ok__law_pick En) (hr.mono (by decide)) (pa_cons (pv 0) (pa_cons (pv 3) pa_nil))))
      (pss_one
        (ps_ret (pe_op (op_catTK (K := K) rfl) (pe_slice (sl_tupK (K := K) rfl) (pv 1) po_none (po_some pe_int)) (pe_callTy call_tuple_of (by rfl) (fr_tuple En) bt_tuple (pa_cons (pe_lc (own := [("_law_many", 5)]) (g := gName 5) (tt := tYes) rfl sc__law_lessened.nd (pi_listK (K := K) rfl (pv 2)) (blkOk_by (own := [("_law_many", 5)]) (N := N__law_lessened) (sc := defScope (top 77)) (by decide +kernel)) (fun _ _ _ _ _ => (pg_name (i := 5) sc__law_lessened.nd rfl (Or.inl rfl))) (fun _ _ _ _ _ => pts_nil) (fun _ _ _ _ _ => (pe_lc (own := [("_law_x", 6)]) (g := gName 6) (tt := _) rfl sc__law_lessened.nd (pi_listK (K := K) rfl (pv 5)) (blkOk_by (own := [("_law_x", 6)]) (N := N__law_lessened) (sc := { kind := .function, names := [(".0", .local), ("_law_many", .local), ("_law_entry", .cell)], isGenerator := false, isCoroutine := false }) (by decide +kernel)) (fun _ _ _ _ _ => (pg_name (i := 6) sc__law_lessened.nd rfl (Or.inl rfl))) (fun _ _ _ _ _ => (pts_one (pt_cmpR (op_neDK (K := K) rfl hr.units) (pv 6) (pv 4) (nomark _)))) (fun _ _ _ _ _ => (pv 6))))) pa_nil)))))) pss_nil)))
      (pss_one
        (ps_ret (pv 1))))), ?_⟩
    have hp' := hide_le _ _ _ _ hp
    have hb' := hide_le _ _ _ _ hb
    have ha' := hide_le _ _ _ _ ha
    have he' := hide_le _ _ _ _ he
    clear hp0
    walk_at "w"
    refine ⟨_, _, rfl, Or.inl (SqL.of hb'), fun L0 nL0 => ?_⟩
    have uL0 := (Wd.refl hz).new (o := .lst xb) nL0
    have hL0 := (Wd.refl hz).here (o := .lst xb) nL0
    generalize upd H L0 (.lst xb) = G1 at *
    replace hp := uL0.up _ _ hp
    replace hp' := hide_le _ _ _ _ hp
    replace hb := uL0.up _ _ hb
    replace hb' := hide_le _ _ _ _ hb
    replace ha := uL0.up _ _ ha
    replace ha' := hide_le _ _ _ _ ha
    replace he := uL0.up _ _ he
    replace he' := hide_le _ _ _ _ he
    replace jb := uL0.das jb
    replace ja := uL0.das ja
    replace je := uL0.das je
    have hL0' := hide_le _ _ _ _ hL0
    walk_at "w"
    refine ⟨_, _, rfl, Or.inl (SqL.of ha'), fun L1 nL1 => ?_⟩
    have uL1 := (Wd.refl uL0.st).new (o := .lst xa) nL1
    have hL1 := (Wd.refl uL0.st).here (o := .lst xa) nL1
    generalize upd G1 L1 (.lst xa) = G2 at *
    replace hp := uL1.up _ _ hp
    replace hp' := hide_le _ _ _ _ hp
    replace hb := uL1.up _ _ hb
    replace hb' := hide_le _ _ _ _ hb
    replace ha := uL1.up _ _ ha
    replace ha' := hide_le _ _ _ _ ha
    replace he := uL1.up _ _ he
    replace he' := hide_le _ _ _ _ he
    replace hL0 := uL1.up _ _ hL0
    replace hL0' := hide_le _ _ _ _ hL0
    replace jb := uL1.das jb
    replace ja := uL1.das ja
    replace je := uL1.das je
    have hL1' := hide_le _ _ _ _ hL1
    walk_at "w"
    refine ⟨_, _, rfl, Or.inl (SqL.of he'), fun L2 nL2 => ?_⟩
    have uL2 := (Wd.refl uL1.st).new (o := .lst xe) nL2
    have hL2 := (Wd.refl uL1.st).here (o := .lst xe) nL2
    generalize upd G2 L2 (.lst xe) = G3 at *
    replace hp := uL2.up _ _ hp
    replace hp' := hide_le _ _ _ _ hp
    replace hb := uL2.up _ _ hb
    replace hb' := hide_le _ _ _ _ hb
    replace ha := uL2.up _ _ ha
    replace ha' := hide_le _ _ _ _ ha
    replace he := uL2.up _ _ he
    replace he' := hide_le _ _ _ _ he
    replace hL0 := uL2.up _ _ hL0
    replace hL0' := hide_le _ _ _ _ hL0
    replace hL1 := uL2.up _ _ hL1
    replace hL1' := hide_le _ _ _ _ hL1
    replace jb := uL2.das jb
    replace ja := uL2.das ja
    replace je := uL2.das je
    have hL2' := hide_le _ _ _ _ hL2
    walk_at "w"
    refine ⟨szr rfl, fun X nX => ?_⟩
    have uX := (Wd.refl uL2.st).new (o := .lst [.ref L0, .ref L1, .ref L2]) nX
    have hX := (Wd.refl uL2.st).here (o := .lst [.ref L0, .ref L1, .ref L2]) nX
    generalize upd G3 X (.lst [.ref L0, .ref L1, .ref L2]) = G4 at *
    replace hp := uX.up _ _ hp
    replace hp' := hide_le _ _ _ _ hp
    replace hb := uX.up _ _ hb
    replace hb' := hide_le _ _ _ _ hb
    replace ha := uX.up _ _ ha
    replace ha' := hide_le _ _ _ _ ha
    replace he := uX.up _ _ he
    replace he' := hide_le _ _ _ _ he
    replace hL0 := uX.up _ _ hL0
    replace hL0' := hide_le _ _ _ _ hL0
    replace hL1 := uX.up _ _ hL1
    replace hL1' := hide_le _ _ _ _ hL1
    replace hL2 := uX.up _ _ hL2
    replace hL2' := hide_le _ _ _ _ hL2
    replace jb := uX.das jb
    replace ja := uX.das ja
    replace je := uX.das je
    have hX' := hide_le _ _ _ _ hX
    have w0 := (((uL0.trans uL1).trans uL2).trans uX)
    walk_at "w"
    refine ⟨z, _, rfl, uX.st, Or.inl ⟨X, _, rfl, hX, (fun h => nomatch h), Nat.le_of_ble_eq_true rfl, fun rv hrv H1 w1 => ?_⟩⟩
    replace hp := w1.up _ _ hp
    replace hp' := hide_le _ _ _ _ hp
    replace hb := w1.up _ _ hb
    replace hb' := hide_le _ _ _ _ hb
    replace ha := w1.up _ _ ha
    replace ha' := hide_le _ _ _ _ ha
    replace he := w1.up _ _ he
    replace he' := hide_le _ _ _ _ he
    replace hL0 := w1.up _ _ hL0
    replace hL0' := hide_le _ _ _ _ hL0
    replace hL1 := w1.up _ _ hL1
    replace hL1' := hide_le _ _ _ _ hL1
    replace hL2 := w1.up _ _ hL2
    replace hL2' := hide_le _ _ _ _ hL2
    replace hX := w1.up _ _ hX
    replace hX' := hide_le _ _ _ _ hX
    replace jb := w1.das jb
    replace ja := w1.das ja
    replace je := w1.das je
    replace w0 := w0.trans w1
    walk_at "w"
    refine ⟨szr rfl, fun R nR => ?_⟩
    have uR := (Wd.refl w1.st).new (o := .lst [rv]) nR
    have hR := (Wd.refl w1.st).here (o := .lst [rv]) nR
    generalize upd H1 R (.lst [rv]) = G5 at *
    replace hp := uR.up _ _ hp
    replace hp' := hide_le _ _ _ _ hp
    replace hb := uR.up _ _ hb
    replace hb' := hide_le _ _ _ _ hb
    replace ha := uR.up _ _ ha
    replace ha' := hide_le _ _ _ _ ha
    replace he := uR.up _ _ he
    replace he' := hide_le _ _ _ _ he
    replace hL0 := uR.up _ _ hL0
    replace hL0' := hide_le _ _ _ _ hL0
    replace hL1 := uR.up _ _ hL1
    replace hL1' := hide_le _ _ _ _ hL1
    replace hL2 := uR.up _ _ hL2
    replace hL2' := hide_le _ _ _ _ hL2
    replace hX := uR.up _ _ hX
    replace hX' := hide_le _ _ _ _ hX
    replace jb := uR.das jb
    replace ja := uR.das ja
    replace je := uR.das je
    have hR' := hide_le _ _ _ _ hR
    replace w0 := w0.trans uR
    walk_at "w"
    refine ⟨⟨_, SqL.of hR'⟩, for_list (xs := [rv]) (fun i σ H' => ∃ (x3 : Option V), σ = [some (.ref z.s), some (.ref p), some (.ref X), x3, none, none, none] ∧ H' = G5) ?_ ?_ ?_ ?_⟩
    · exact ⟨_, rfl, rfl⟩
    · rintro i σ H3 hi ⟨x3, rfl, rfl⟩
      exact SqL.of hR'
    · rintro i x σ H3 hi ⟨x3, rfl, rfl⟩
      obtain ⟨rfl, rfl⟩ : i = 0 ∧ x = rv := by
        match i, hi with
        | 0, hi => exact ⟨rfl, (Option.some.inj hi).symm⟩
        | n + 1, hi => simp at hi
      obtain ⟨Lr, rl, rd, rfl, hLr, jr, rok, rlen⟩ : ∃ Lr rl rd, x = .ref Lr ∧ hide z H3 Lr = some (.lst rl) ∧ DAs (hide z H3) rl rd ∧ (∀ d ∈ rd, SeqAt.shaped d = true) ∧ rl.length ≤ 100 := by
        simp only [List.mem_cons, List.not_mem_nil, or_false] at hrv
        rcases hrv with rfl | rfl | rfl
        · exact ⟨_, _, _, rfl, hL0, jb, shm fun e he => (hPV.bs e he).shaped hPV.awr, lb⟩
        · exact ⟨_, _, _, rfl, hL1, ja, shm fun e he => (hPV.as e he).shaped hPV.ard hPV.awr, la⟩
        · exact ⟨_, _, _, rfl, hL2, je, shm fun e he => (hPV.es e he).shaped hPV.awr, le⟩
      have hLr' := hide_le _ _ _ _ hLr
      walk_at "w"
      refine ⟨!rl.isEmpty, .inl ⟨rl, SqL.of hLr', rfl⟩, ?_⟩
      by_cases hne : rl = []
      · subst hne
        refine iteF ?_
        exact ⟨_, rfl, rfl⟩
      rw [show (!rl.isEmpty) = true by cases rl with | nil => exact absurd rfl hne | cons a b => rfl]
      refine iteT ?_
      walk_at "w"
      refine ⟨z, _, rfl, uR.st, Or.inl ⟨Lr, rl, rfl, hLr, hne, by omega, fun ev hev H4 w4 => ?_⟩⟩
      obtain ⟨ed, ed1, ed2⟩ := jr.mem hev
      have eok := rok ed ed1
      replace ed2 := w4.da ed2
      replace hp := w4.up _ _ hp
      replace hp' := hide_le _ _ _ _ hp
      replace hb := w4.up _ _ hb
      replace hb' := hide_le _ _ _ _ hb
      replace ha := w4.up _ _ ha
      replace ha' := hide_le _ _ _ _ ha
      replace he := w4.up _ _ he
      replace he' := hide_le _ _ _ _ he
      replace hL0 := w4.up _ _ hL0
      replace hL0' := hide_le _ _ _ _ hL0
      replace hL1 := w4.up _ _ hL1
      replace hL1' := hide_le _ _ _ _ hL1
      replace hL2 := w4.up _ _ hL2
      replace hL2' := hide_le _ _ _ _ hL2
      replace hX := w4.up _ _ hX
      replace hX' := hide_le _ _ _ _ hX
      replace hR := w4.up _ _ hR
      replace hR' := hide_le _ _ _ _ hR
      replace jb := w4.das jb
      replace ja := w4.das ja
      replace je := w4.das je
      replace w0 := w0.trans w4
      walk_at "w"
      refine ⟨p, _, rfl, SqT.of hp', (by show ¬(HT.sIx 6 0 none = 0 ∧ HT.sIx 6 6 (some 3) = 6); decide), fun T1 nT1 => ?_⟩
      have uT1 := (Wd.refl w4.st).new (o := .tup (cutV [.str M.rd, .str M.wr, .int M.n, .ref b, .ref a, .ref e] none (some 3))) nT1
      have hT1 := (Wd.refl w4.st).here (o := .tup (cutV [.str M.rd, .str M.wr, .int M.n, .ref b, .ref a, .ref e] none (some 3))) nT1
      generalize upd H4 T1 (.tup (cutV [.str M.rd, .str M.wr, .int M.n, .ref b, .ref a, .ref e] none (some 3))) = G6 at *
      replace hp := uT1.up _ _ hp
      replace hp' := hide_le _ _ _ _ hp
      replace hb := uT1.up _ _ hb
      replace hb' := hide_le _ _ _ _ hb
      replace ha := uT1.up _ _ ha
      replace ha' := hide_le _ _ _ _ ha
      replace he := uT1.up _ _ he
      replace he' := hide_le _ _ _ _ he
      replace hL0 := uT1.up _ _ hL0
      replace hL0' := hide_le _ _ _ _ hL0
      replace hL1 := uT1.up _ _ hL1
      replace hL1' := hide_le _ _ _ _ hL1
      replace hL2 := uT1.up _ _ hL2
      replace hL2' := hide_le _ _ _ _ hL2
      replace hX := uT1.up _ _ hX
      replace hX' := hide_le _ _ _ _ hX
      replace hR := uT1.up _ _ hR
      replace hR' := hide_le _ _ _ _ hR
      replace jb := uT1.das jb
      replace ja := uT1.das ja
      replace je := uT1.das je
      replace hT1 : hide z G6 T1 = some (.tup [.str M.rd, .str M.wr, .int M.n]) := hT1
      have hT1' := hide_le _ _ _ _ hT1
      replace ed2 := uT1.da ed2
      replace w0 := w0.trans uT1
      walk_at "w"
      refine ⟨⟨_, SqL.of hX'⟩, fun D nD => lc_lstW (xs := [.ref L0, .ref L1, .ref L2]) uT1.st (Wd.refl uT1.st) nD hX (Nat.le_of_ble_eq_true rfl) (fun i d => (i = 0 → ∃ l : List Side, d = .list (l.map sideD) ∧ l.length ≤ 100 ∧ ∀ e ∈ l, e ∈ M.bs) ∧ (i = 1 → ∃ l : List Arc, d = .list (l.map arcD) ∧ l.length ≤ 100 ∧ ∀ e ∈ l, e ∈ M.as) ∧ (i = 2 → ∃ l : List Side, d = .list (l.map sideD) ∧ l.length ≤ 100 ∧ ∀ e ∈ l, e ∈ M.es)) (fun _ => rfl) ?_ ?_⟩
      · intro i v H5 R hi w5 old hR5
        have ed5 := ed2.up old
        obtain ⟨La, xl, dl, rfl, hLa, jl, dok, dlen, hfin⟩ : ∃ La xl dl, v = .ref La ∧ hide z G6 La = some (.lst xl) ∧ DAs (hide z G6) xl dl ∧ (∀ d ∈ dl, SeqAt.shaped d = true) ∧ xl.length ≤ 100 ∧ ∀ es : List PyData, es.length ≤ 100 → (∀ e ∈ es, e ∈ dl) → ((i = 0 → ∃ l : List Side, PyData.list es = PyData.list (l.map sideD) ∧ l.length ≤ 100 ∧ ∀ e ∈ l, e ∈ M.bs) ∧ (i = 1 → ∃ l : List Arc, PyData.list es = PyData.list (l.map arcD) ∧ l.length ≤ 100 ∧ ∀ e ∈ l, e ∈ M.as) ∧ (i = 2 → ∃ l : List Side, PyData.list es = PyData.list (l.map sideD) ∧ l.length ≤ 100 ∧ ∀ e ∈ l, e ∈ M.es)) := by
          match i, hi with
          | 0, hi =>
            cases hi
            exact ⟨_, _, _, rfl, hL0, jb, shm fun e he => (hPV.bs e he).shaped hPV.awr, lb, fun es n m => ⟨fun _ => let ⟨l, e, m⟩ := un_map m; ⟨l, by rw [e], by rw [e, List.length_map] at n; exact n, m⟩, fun h => by omega, fun h => by omega⟩⟩
          | 1, hi =>
            cases hi
            exact ⟨_, _, _, rfl, hL1, ja, shm fun e he => (hPV.as e he).shaped hPV.ard hPV.awr, la, fun es n m => ⟨fun h => by omega, fun _ => let ⟨l, e, m⟩ := un_map m; ⟨l, by rw [e], by rw [e, List.length_map] at n; exact n, m⟩, fun h => by omega⟩⟩
          | 2, hi =>
            cases hi
            exact ⟨_, _, _, rfl, hL2, je, shm fun e he => (hPV.es e he).shaped hPV.awr, le, fun es n m => ⟨fun h => by omega, fun h => by omega, fun _ => let ⟨l, e, m⟩ := un_map m; ⟨l, by rw [e], by rw [e, List.length_map] at n; exact n, m⟩⟩⟩
          | n + 3, hi => simp at hi
        have hLa5 := old _ _ hLa
        have hLa5' := hide_le _ _ _ _ hLa5
        walk_at "w"
        refine ⟨⟨_, SqL.of hLa5'⟩, fun Dn nDn => ?_⟩
        refine lc_some (Same.refl H5) nDn hLa5' (by omega) ?_ ?_ ?_ ?_
        · exact fun _ => rfl
        · exact fun _ => rfl
        · intro x H6 R6 hx s6 hR6
          obtain ⟨xd, xd1, xd2⟩ := jl.mem hx
          walk_at "w"
          refine ⟨xd, ed, ((xd2.up old).up ((hide_le _ _).trans s6)).dp _, (ed5.up ((hide_le _ _).trans s6)).dp _, dok xd xd1, eok, ?_⟩
          exact ⟨_, rfl, hR6 _ _ (Same.refl _)⟩
        intro H6 ys s6 hDn hyl hym
        have w6 := Wd.of_same w5.st s6
        obtain ⟨es, e1, e2, e3⟩ := das_sub ((jl.up old).up w6.up) hym
        exact hR5 _ _ (.list es) w6 (.lst (hide_of (w5.st.ne nDn) hDn) e1) (hfin es (by omega) e3)
      intro H5 ys es gg hl hP
      have w05 := w0.trans gg.wd
      match es, hl, gg with
      | [d1, d2, d3], _, gg =>
        obtain ⟨lb1, rfl, c1, r1⟩ := (hP 0 d1 rfl).1 rfl
        obtain ⟨la1, rfl, c2, r2⟩ := (hP 1 d2 rfl).2.1 rfl
        obtain ⟨le1, rfl, c3, r3⟩ := (hP 2 d3 rfl).2.2 rfl
        have it := gg.it.up (hide_drop z H5 D)
        have g_at := gg.at_
        have hT5 := hide_le _ _ _ _ (gg.wd.up _ _ hT1)
        obtain ⟨u1, _, rfl, i1, it⟩ := it.cons_inv
        obtain ⟨u2, _, rfl, i2, it⟩ := it.cons_inv
        obtain ⟨u3, _, rfl, i3, it⟩ := it.cons_inv
        obtain rfl := it.nil_inv
        walk_at "w"
        refine ⟨D, _, rfl, Or.inl ⟨SqL.of g_at, fun T2 nT2 => ?_⟩⟩
        have uT2 := (Wd.refl gg.wd.st).new (o := .tup [u1, u2, u3]) nT2
        have hT6 := (Same.new (o := .tup [u1, u2, u3]) nT2) _ _ hT5
        refine ⟨T1, T2, _, _, rfl, rfl, SqT.of hT6, SqT.of upd_same, (fun h => nomatch h), szr rfl, (fun h => nomatch h), fun _ T nT => ?_⟩
        have uT := (Wd.refl uT2.st).new (o := .tup ([.str M.rd, .str M.wr, .int M.n] ++ [u1, u2, u3])) nT
        exact k _ _ ⟨M.rd, M.wr, M.n, lb1, la1, le1⟩ ((w05.trans uT2).trans uT) (DA.parts (M := ⟨M.rd, M.wr, M.n, lb1, la1, le1⟩) (uT2.here nT) (uT.da (uT2.da i1)) (uT.da (uT2.da i2)) (uT.da (uT2.da i3)))
          ⟨hPV.ard, hPV.awr, hPV.n0, hPV.n1, fun e he => hPV.bs e (r1 e he), fun e he => hPV.as e (r2 e he), fun e he => hPV.es e (r3 e he), c1, c2, c3⟩
    · rintro σ H3 ⟨x3, rfl, rfl⟩
      walk_at "w"
      exact k _ _ M w0 (DA.parts hp (.lst hb jb) (.lst ha ja) (.lst he je)) hPV
end
end GJ


set_option Elab.async false
set_option linter.all false
set_option maxRecDepth 100000
set_option maxHeartbeats 4000000
namespace GJ
open PySem PySem.Spec PyProof.Rows L2 TL
set_option pp.maxSteps 300
theorem Pz.str6 : ∀ t : Nat, t ≤ 6 → Bz 30 0 (.str (toString (t : Int))) ∧ ((t : Int).natAbs.log2 < 1920) := by
  intro t h
  match t, h with
  | 0, _ => exact ⟨⟨by decide +kernel, by decide +kernel⟩, by decide +kernel⟩
  | 1, _ => exact ⟨⟨by decide +kernel, by decide +kernel⟩, by decide +kernel⟩
  | 2, _ => exact ⟨⟨by decide +kernel, by decide +kernel⟩, by decide +kernel⟩
  | 3, _ => exact ⟨⟨by decide +kernel, by decide +kernel⟩, by decide +kernel⟩
  | 4, _ => exact ⟨⟨by decide +kernel, by decide +kernel⟩, by decide +kernel⟩
  | 5, _ => exact ⟨⟨by decide +kernel, by decide +kernel⟩, by decide +kernel⟩
  | 6, _ => exact ⟨⟨by decide +kernel, by decide +kernel⟩, by decide +kernel⟩
section
variable {P : Program} {w : World} {K : PySem.W.Frag} {mg : Str → Option Value} {base : Heap}
set_option hygiene false in
local macro_rules | `(tactic| walk_at "w") => `(tactic| repeat (first
  | refine ⟨_, rfl, ?_⟩
  | refine ⟨_, _, rfl, rfl, (by first | decide | omega), fun r r0 r1 re => ?_⟩
  | refine ⟨_, _, rfl, rfl, (by first | exact Or.inl ⟨by omega, by omega⟩ | exact Or.inr ⟨by omega, by omega⟩ : CMul _ _), ?_⟩
  | refine ⟨_, _, rfl, rfl, (by first | exact ⟨by decide, by decide⟩ | exact ⟨by omega, by omega⟩ : CDiv _ _), ?_⟩
  | refine ⟨_, _, rfl, rfl, (by exact ⟨by decide, by decide, by decide⟩ : CPow _ _), ?_⟩
  | refine ⟨_, _, rfl, rfl, ?_⟩
  | refine ⟨(by rfl : scal _ _ = true), ?_⟩
  | refine Or.inl ⟨_, rfl, ?_⟩
  | refine ⟨_, _, rfl, fun m m0 m1 m2 => ?_⟩
  | refine ⟨_, _, _, _, rfl, rfl, SqL.of (by first | assumption | exact upd_same | exact fx _ | exact fy _), rfl, ?_⟩
  | refine ⟨_, _, _, _, rfl, rfl, (by first | assumption | exact upd_same | exact fx _ | exact fy _), rfl, ?_⟩
  | refine ⟨_, _, _, _, rfl, rfl, SqT.of (by first | assumption | exact upd_same | exact fx _ | exact fy _), rfl, ?_⟩
  | refine ⟨(szle (by omega) : Str.length _ ≤ sizeLine), ?_⟩
  | refine ⟨(szle (by first | omega | (rw [sla]; omega) | (rw [sla, sla]; omega)) : Str.length _ + Str.length _ ≤ sizeLine), ?_⟩
  | refine ⟨_, _, rfl, len_lst (by first | assumption | exact upd_same | exact fx _ | exact fy _), ?_⟩))
set_option hygiene false in
local macro_rules | `(tactic| walk_at "if") => `(tactic| (refine ite2 (fun hc => ?_) (fun hc => ?_) <;>
  simp only [decide_eq_true_eq, Bool.not_eq_true', decide_eq_false_iff_not, V.int.injEq, V.str.injEq, V.bl.injEq, Decidable.not_not, Bool.not_eq_true, V.int_ne, Int.not_lt, Int.not_le, Bool.true_eq_false, Bool.false_eq_true, not_true_eq_false, not_false_eq_true] at hc))
set_option hygiene false in
local macro_rules | `(tactic| walk_at "new") => `(tactic| (refine ⟨by first | decide | (simp only [List.length_cons, List.length_nil, List.length_append, List.length_map]; first | decide | (rw [sizeLine_eq]; omega)), fun p np => ?_⟩))
set_option hygiene false in
local macro_rules | `(tactic| walk_at "yes") => `(tactic| refine itY (by first | rfl | exact decide_eq_true (by first | rfl | omega | assumption) | (simp only [decide_eq_true_eq, Bool.not_eq_true', decide_eq_false_iff_not, V.int.injEq, V.str.injEq, V.bl.injEq]; first | omega | assumption)) ?_)
set_option hygiene false in
local macro_rules | `(tactic| walk_at "no") => `(tactic| refine itN (by first | decide | (simp only [decide_eq_true_eq, Bool.not_eq_true', decide_eq_false_iff_not, V.int.injEq, V.str.injEq, V.bl.injEq, Bool.not_eq_true, Decidable.not_not]; first | omega | assumption)) ?_)
def sp_papers : Sp := fun vs H Q _ => ∃ (z : Zz) (v : V) (M : Parts), vs = [.ref z.s, v] ∧ St z H ∧ DA (hide z H) v (partsD M) ∧ PV M ∧
  ∀ v' H' ds, Wd z H H' → DA (hide z H') v' (.list ds) → ds.length ≤ 30 → (∀ d ∈ ds, Pz d) → 2 ≤ ds.length + 1 → Q v' H'
def N__law_papers : List Str := ["_law_store_here", "_law_parts", "_law_papers_here", "_law_k", "_law_paper", "_law_at", "_law_places", "_law_turns"]
theorem sc__law_papers : FnScope N__law_papers ["_law_store_here", "_law_parts"] (defScope (top 81)) := ⟨rfl, rfl, rfl, by decide +kernel, rfl, by decide +kernel, by decide +kernel⟩
theorem ok__law_papers (En : Env K mg fas fns prs) : Ok P w K mg base "_law_papers" 5 ["_law_store_here", "_law_parts"] sp_papers := by
  refine ok_mk 62 81 En sc__law_papers (fun _ _ _ _ _ _ us hl => match us, hl with | [_, _], _ => rfl) (fun vs H Q E h => ?_) (fun f cdv A outer s H vs Q E hr h => ?_)
  · obtain ⟨z, v, M, rfl, _⟩ := h
    rfl
  · obtain ⟨z, v, M, rfl, hz, hv, hPV, k⟩ := h
    refine ⟨_, (pss_cons
        (ps_set (i := 2) sc__law_papers.nd rfl (Or.inl rfl) (pe_lst (pa_cons (pe_fn (ok__law_pick En) (hr.mono (by decide)) (pa_cons (pv 0) (pa_cons (pe_lst (pa_cons pe_non (pa_cons pe_bl (pa_cons pe_int (pa_cons pe_str (pa_cons pe_str (pa_cons (pe_lst pa_nil) (pa_cons (pe_tup pa_nil) (pa_cons (pe_tup (pa_cons (pe_tup pa_nil) (pa_cons (pe_tup pa_nil) (pa_cons pe_int pa_nil)))) (pa_cons (pe_lst (pa_cons (pe_lst pa_nil) (pa_cons (pe_lst pa_nil) (pa_cons pe_int pa_nil)))) (pa_cons (pe_tup (pa_cons (pe_tup (pa_cons pe_int (pa_cons (pe_lst pa_nil) pa_nil))) (pa_cons (pe_tup (pa_cons pe_int (pa_cons (pe_lst pa_nil) pa_nil))) (pa_cons pe_int pa_nil)))) pa_nil))))))))))) pa_nil))) pa_nil)))
      (pss_cons
        (ps_for PassesOwn.never rfl (pi_range1 rfl (fr_range En) (pa_cons pe_int pa_nil)) (pg_name (i := 3) sc__law_papers.nd rfl (Or.inl rfl)) (pss_cons
        (ps_set (i := 4) sc__law_papers.nd rfl (Or.inl rfl) (pe_fn (ok__law_way_pair En) (hr.mono (by decide)) (pa_cons (pv 0) (pa_cons (pv 1) (pa_cons (pe_op op_add pe_int (pe_fn (ok__law_take En) (hr.mono (by decide)) (pa_cons (pv 0) (pa_cons pe_int pa_nil)))) pa_nil)))))
      (pss_one
        (ps_if (pt_cmp (pc_notN (pv 4))) (pss_cons
        (ps_set (i := 5) sc__law_papers.nd rfl (Or.inl rfl) (pe_ix (ix_tupK (K := K) rfl) (pv 4) pe_int (fun _ _ => rfl)))
      (pss_cons
        (ps_set (i := 6) sc__law_papers.nd rfl (Or.inl rfl) (pe_lst (pa_cons (pe_op op_add (pv 5) pe_int) (pa_cons (pe_op op_sub (pv 5) pe_int) (pa_cons (pe_cmpR op_gt (pv 5) pe_int (nomark _)) (pa_cons (pe_op op_add (pv 5) (pe_callB (call_lenK (K := K) rfl) (by rfl) (fr_len En) bt_len (pa_cons (pe_ix (ix_tupK (K := K) rfl) (pe_ix (ix_tupK (K := K) rfl) (pv 4) pe_int (fun _ _ => rfl)) pe_int (fun _ _ => rfl)) pa_nil))) (pa_cons pe_non (pa_cons (pe_callTy call_str_int (by rfl) (fr_str En) bt_str (pa_cons (pv 5) pa_nil)) (pa_cons (pe_tup (pa_cons (pv 5) pa_nil)) pa_nil)))))))))
      (pss_cons
        (ps_set (i := 7) sc__law_papers.nd rfl (Or.inl rfl) (pe_fn (ok__law_pick En) (hr.mono (by decide)) (pa_cons (pv 0) (pa_cons (pe_lst (pa_cons pe_int (pa_cons pe_int (pa_cons pe_int (pa_cons pe_int (pa_cons pe_int (pa_cons pe_int (pa_cons pe_int (pa_cons pe_int pa_nil))))))))) pa_nil))))
      (pss_cons
        (ps_set (i := 2) sc__law_papers.nd rfl (Or.inl rfl) (pe_op op_cat (pv 2) (pe_lst (pa_cons (pv 4) (pa_cons (pe_fn (ok__law_turned_paper En) (hr.mono (by decide)) (pa_cons (pv 4) (pa_cons (pv 7) pa_nil))) (pa_cons (pe_tup (pa_cons (pe_ix (ix_tupK (K := K) rfl) (pv 4) pe_int (fun _ _ => rfl)) (pa_cons (pe_ix (ix_tupK (K := K) rfl) (pv 4) pe_int (fun _ _ => rfl)) (pa_cons (pv 5) pa_nil)))) pa_nil))))))
      (pss_cons
        (ps_set (i := 2) sc__law_papers.nd rfl (Or.inl rfl) (pe_op op_cat (pv 2) (pe_lst (pa_cons (pe_op (op_catTK (K := K) rfl) (pe_slice (sl_tupK (K := K) rfl) (pv 4) po_none (po_some pe_int)) (pe_tup (pa_cons (pe_fn (ok__law_pick En) (hr.mono (by decide)) (pa_cons (pv 0) (pa_cons (pv 6) pa_nil))) pa_nil))) (pa_cons (pe_fn (ok__law_spoilt En) (hr.mono (by decide)) (pa_cons (pv 0) (pa_cons (pv 4) pa_nil))) pa_nil)))))
      (pss_one
        (ps_set (i := 2) sc__law_papers.nd rfl (Or.inl rfl) (pe_op op_cat (pv 2) (pe_lst (pa_cons (pe_fn (ok__law_reread En) (hr.mono (by decide)) (pa_cons (pv 0) (pa_cons (pv 1) (pa_cons (pv 4) pa_nil)))) (pa_cons (pe_tup (pa_cons (pe_ix (ix_tupK (K := K) rfl) (pv 4) pe_int (fun _ _ => rfl)) (pa_cons (pe_ix (ix_tupK (K := K) rfl) (pv 4) pe_int (fun _ _ => rfl)) (pa_cons (pv 5) pa_nil)))) pa_nil))))))))))) pss_nil))))
      (pss_one
        (ps_ret (pv 2))))), ?_⟩
    walk_at "w"
    refine ⟨szr rfl, fun a1 na1 => ?_⟩
    have ua1 := (Wd.refl hz).new (o := .lst []) na1
    have ha1 := (Wd.refl hz).here (o := .lst []) na1
    generalize upd H a1 (.lst []) = G1 at *
    replace hv := ua1.da hv
    have ha1' := hide_le _ _ _ _ ha1
    walk_at "w"
    refine ⟨szr rfl, fun a2 na2 => ?_⟩
    have ua2 := (Wd.refl ua1.st).new (o := .tup []) na2
    have ha2 := (Wd.refl ua1.st).here (o := .tup []) na2
    generalize upd G1 a2 (.tup []) = G2 at *
    replace ha1 := ua2.up _ _ ha1
    replace ha1' := hide_le _ _ _ _ ha1
    replace hv := ua2.da hv
    have ha2' := hide_le _ _ _ _ ha2
    walk_at "w"
    refine ⟨szr rfl, fun b1 nb1 => ?_⟩
    have ub1 := (Wd.refl ua2.st).new (o := .tup []) nb1
    have hb1 := (Wd.refl ua2.st).here (o := .tup []) nb1
    generalize upd G2 b1 (.tup []) = G3 at *
    replace ha1 := ub1.up _ _ ha1
    replace ha1' := hide_le _ _ _ _ ha1
    replace ha2 := ub1.up _ _ ha2
    replace ha2' := hide_le _ _ _ _ ha2
    replace hv := ub1.da hv
    have hb1' := hide_le _ _ _ _ hb1
    walk_at "w"
    refine ⟨szr rfl, fun b2 nb2 => ?_⟩
    have ub2 := (Wd.refl ub1.st).new (o := .tup []) nb2
    have hb2 := (Wd.refl ub1.st).here (o := .tup []) nb2
    generalize upd G3 b2 (.tup []) = G4 at *
    replace ha1 := ub2.up _ _ ha1
    replace ha1' := hide_le _ _ _ _ ha1
    replace ha2 := ub2.up _ _ ha2
    replace ha2' := hide_le _ _ _ _ ha2
    replace hb1 := ub2.up _ _ hb1
    replace hb1' := hide_le _ _ _ _ hb1
    replace hv := ub2.da hv
    have hb2' := hide_le _ _ _ _ hb2
    walk_at "w"
    refine ⟨szr rfl, fun b3 nb3 => ?_⟩
    have ub3 := (Wd.refl ub2.st).new (o := .tup [.ref b1, .ref b2, .int 0]) nb3
    have hb3 := (Wd.refl ub2.st).here (o := .tup [.ref b1, .ref b2, .int 0]) nb3
    generalize upd G4 b3 (.tup [.ref b1, .ref b2, .int 0]) = G5 at *
    replace ha1 := ub3.up _ _ ha1
    replace ha1' := hide_le _ _ _ _ ha1
    replace ha2 := ub3.up _ _ ha2
    replace ha2' := hide_le _ _ _ _ ha2
    replace hb1 := ub3.up _ _ hb1
    replace hb1' := hide_le _ _ _ _ hb1
    replace hb2 := ub3.up _ _ hb2
    replace hb2' := hide_le _ _ _ _ hb2
    replace hv := ub3.da hv
    have hb3' := hide_le _ _ _ _ hb3
    walk_at "w"
    refine ⟨szr rfl, fun c1 nc1 => ?_⟩
    have uc1 := (Wd.refl ub3.st).new (o := .lst []) nc1
    have hc1 := (Wd.refl ub3.st).here (o := .lst []) nc1
    generalize upd G5 c1 (.lst []) = G6 at *
    replace ha1 := uc1.up _ _ ha1
    replace ha1' := hide_le _ _ _ _ ha1
    replace ha2 := uc1.up _ _ ha2
    replace ha2' := hide_le _ _ _ _ ha2
    replace hb1 := uc1.up _ _ hb1
    replace hb1' := hide_le _ _ _ _ hb1
    replace hb2 := uc1.up _ _ hb2
    replace hb2' := hide_le _ _ _ _ hb2
    replace hb3 := uc1.up _ _ hb3
    replace hb3' := hide_le _ _ _ _ hb3
    replace hv := uc1.da hv
    have hc1' := hide_le _ _ _ _ hc1
    walk_at "w"
    refine ⟨szr rfl, fun c2 nc2 => ?_⟩
    have uc2 := (Wd.refl uc1.st).new (o := .lst []) nc2
    have hc2 := (Wd.refl uc1.st).here (o := .lst []) nc2
    generalize upd G6 c2 (.lst []) = G7 at *
    replace ha1 := uc2.up _ _ ha1
    replace ha1' := hide_le _ _ _ _ ha1
    replace ha2 := uc2.up _ _ ha2
    replace ha2' := hide_le _ _ _ _ ha2
    replace hb1 := uc2.up _ _ hb1
    replace hb1' := hide_le _ _ _ _ hb1
    replace hb2 := uc2.up _ _ hb2
    replace hb2' := hide_le _ _ _ _ hb2
    replace hb3 := uc2.up _ _ hb3
    replace hb3' := hide_le _ _ _ _ hb3
    replace hc1 := uc2.up _ _ hc1
    replace hc1' := hide_le _ _ _ _ hc1
    replace hv := uc2.da hv
    have hc2' := hide_le _ _ _ _ hc2
    walk_at "w"
    refine ⟨szr rfl, fun c3 nc3 => ?_⟩
    have uc3 := (Wd.refl uc2.st).new (o := .lst [.ref c1, .ref c2, .int 1]) nc3
    have hc3 := (Wd.refl uc2.st).here (o := .lst [.ref c1, .ref c2, .int 1]) nc3
    generalize upd G7 c3 (.lst [.ref c1, .ref c2, .int 1]) = G8 at *
    replace ha1 := uc3.up _ _ ha1
    replace ha1' := hide_le _ _ _ _ ha1
    replace ha2 := uc3.up _ _ ha2
    replace ha2' := hide_le _ _ _ _ ha2
    replace hb1 := uc3.up _ _ hb1
    replace hb1' := hide_le _ _ _ _ hb1
    replace hb2 := uc3.up _ _ hb2
    replace hb2' := hide_le _ _ _ _ hb2
    replace hb3 := uc3.up _ _ hb3
    replace hb3' := hide_le _ _ _ _ hb3
    replace hc1 := uc3.up _ _ hc1
    replace hc1' := hide_le _ _ _ _ hc1
    replace hc2 := uc3.up _ _ hc2
    replace hc2' := hide_le _ _ _ _ hc2
    replace hv := uc3.da hv
    have hc3' := hide_le _ _ _ _ hc3
    walk_at "w"
    refine ⟨szr rfl, fun d1 nd1 => ?_⟩
    have ud1 := (Wd.refl uc3.st).new (o := .lst []) nd1
    have hd1 := (Wd.refl uc3.st).here (o := .lst []) nd1
    generalize upd G8 d1 (.lst []) = G9 at *
    replace ha1 := ud1.up _ _ ha1
    replace ha1' := hide_le _ _ _ _ ha1
    replace ha2 := ud1.up _ _ ha2
    replace ha2' := hide_le _ _ _ _ ha2
    replace hb1 := ud1.up _ _ hb1
    replace hb1' := hide_le _ _ _ _ hb1
    replace hb2 := ud1.up _ _ hb2
    replace hb2' := hide_le _ _ _ _ hb2
    replace hb3 := ud1.up _ _ hb3
    replace hb3' := hide_le _ _ _ _ hb3
    replace hc1 := ud1.up _ _ hc1
    replace hc1' := hide_le _ _ _ _ hc1
    replace hc2 := ud1.up _ _ hc2
    replace hc2' := hide_le _ _ _ _ hc2
    replace hc3 := ud1.up _ _ hc3
    replace hc3' := hide_le _ _ _ _ hc3
    replace hv := ud1.da hv
    have hd1' := hide_le _ _ _ _ hd1
    walk_at "w"
    refine ⟨szr rfl, fun d2 nd2 => ?_⟩
    have ud2 := (Wd.refl ud1.st).new (o := .tup [.int 0, .ref d1]) nd2
    have hd2 := (Wd.refl ud1.st).here (o := .tup [.int 0, .ref d1]) nd2
    generalize upd G9 d2 (.tup [.int 0, .ref d1]) = G10 at *
    replace ha1 := ud2.up _ _ ha1
    replace ha1' := hide_le _ _ _ _ ha1
    replace ha2 := ud2.up _ _ ha2
    replace ha2' := hide_le _ _ _ _ ha2
    replace hb1 := ud2.up _ _ hb1
    replace hb1' := hide_le _ _ _ _ hb1
    replace hb2 := ud2.up _ _ hb2
    replace hb2' := hide_le _ _ _ _ hb2
    replace hb3 := ud2.up _ _ hb3
    replace hb3' := hide_le _ _ _ _ hb3
    replace hc1 := ud2.up _ _ hc1
    replace hc1' := hide_le _ _ _ _ hc1
    replace hc2 := ud2.up _ _ hc2
    replace hc2' := hide_le _ _ _ _ hc2
    replace hc3 := ud2.up _ _ hc3
    replace hc3' := hide_le _ _ _ _ hc3
    replace hd1 := ud2.up _ _ hd1
    replace hd1' := hide_le _ _ _ _ hd1
    replace hv := ud2.da hv
    have hd2' := hide_le _ _ _ _ hd2
    walk_at "w"
    refine ⟨szr rfl, fun d3 nd3 => ?_⟩
    have ud3 := (Wd.refl ud2.st).new (o := .lst []) nd3
    have hd3 := (Wd.refl ud2.st).here (o := .lst []) nd3
    generalize upd G10 d3 (.lst []) = G11 at *
    replace ha1 := ud3.up _ _ ha1
    replace ha1' := hide_le _ _ _ _ ha1
    replace ha2 := ud3.up _ _ ha2
    replace ha2' := hide_le _ _ _ _ ha2
    replace hb1 := ud3.up _ _ hb1
    replace hb1' := hide_le _ _ _ _ hb1
    replace hb2 := ud3.up _ _ hb2
    replace hb2' := hide_le _ _ _ _ hb2
    replace hb3 := ud3.up _ _ hb3
    replace hb3' := hide_le _ _ _ _ hb3
    replace hc1 := ud3.up _ _ hc1
    replace hc1' := hide_le _ _ _ _ hc1
    replace hc2 := ud3.up _ _ hc2
    replace hc2' := hide_le _ _ _ _ hc2
    replace hc3 := ud3.up _ _ hc3
    replace hc3' := hide_le _ _ _ _ hc3
    replace hd1 := ud3.up _ _ hd1
    replace hd1' := hide_le _ _ _ _ hd1
    replace hd2 := ud3.up _ _ hd2
    replace hd2' := hide_le _ _ _ _ hd2
    replace hv := ud3.da hv
    have hd3' := hide_le _ _ _ _ hd3
    walk_at "w"
    refine ⟨szr rfl, fun d4 nd4 => ?_⟩
    have ud4 := (Wd.refl ud3.st).new (o := .tup [.int 0, .ref d3]) nd4
    have hd4 := (Wd.refl ud3.st).here (o := .tup [.int 0, .ref d3]) nd4
    generalize upd G11 d4 (.tup [.int 0, .ref d3]) = G12 at *
    replace ha1 := ud4.up _ _ ha1
    replace ha1' := hide_le _ _ _ _ ha1
    replace ha2 := ud4.up _ _ ha2
    replace ha2' := hide_le _ _ _ _ ha2
    replace hb1 := ud4.up _ _ hb1
    replace hb1' := hide_le _ _ _ _ hb1
    replace hb2 := ud4.up _ _ hb2
    replace hb2' := hide_le _ _ _ _ hb2
    replace hb3 := ud4.up _ _ hb3
    replace hb3' := hide_le _ _ _ _ hb3
    replace hc1 := ud4.up _ _ hc1
    replace hc1' := hide_le _ _ _ _ hc1
    replace hc2 := ud4.up _ _ hc2
    replace hc2' := hide_le _ _ _ _ hc2
    replace hc3 := ud4.up _ _ hc3
    replace hc3' := hide_le _ _ _ _ hc3
    replace hd1 := ud4.up _ _ hd1
    replace hd1' := hide_le _ _ _ _ hd1
    replace hd2 := ud4.up _ _ hd2
    replace hd2' := hide_le _ _ _ _ hd2
    replace hd3 := ud4.up _ _ hd3
    replace hd3' := hide_le _ _ _ _ hd3
    replace hv := ud4.da hv
    have hd4' := hide_le _ _ _ _ hd4
    walk_at "w"
    refine ⟨szr rfl, fun d5 nd5 => ?_⟩
    have ud5 := (Wd.refl ud4.st).new (o := .tup [.ref d2, .ref d4, .int 0]) nd5
    have hd5 := (Wd.refl ud4.st).here (o := .tup [.ref d2, .ref d4, .int 0]) nd5
    generalize upd G12 d5 (.tup [.ref d2, .ref d4, .int 0]) = G13 at *
    replace ha1 := ud5.up _ _ ha1
    replace ha1' := hide_le _ _ _ _ ha1
    replace ha2 := ud5.up _ _ ha2
    replace ha2' := hide_le _ _ _ _ ha2
    replace hb1 := ud5.up _ _ hb1
    replace hb1' := hide_le _ _ _ _ hb1
    replace hb2 := ud5.up _ _ hb2
    replace hb2' := hide_le _ _ _ _ hb2
    replace hb3 := ud5.up _ _ hb3
    replace hb3' := hide_le _ _ _ _ hb3
    replace hc1 := ud5.up _ _ hc1
    replace hc1' := hide_le _ _ _ _ hc1
    replace hc2 := ud5.up _ _ hc2
    replace hc2' := hide_le _ _ _ _ hc2
    replace hc3 := ud5.up _ _ hc3
    replace hc3' := hide_le _ _ _ _ hc3
    replace hd1 := ud5.up _ _ hd1
    replace hd1' := hide_le _ _ _ _ hd1
    replace hd2 := ud5.up _ _ hd2
    replace hd2' := hide_le _ _ _ _ hd2
    replace hd3 := ud5.up _ _ hd3
    replace hd3' := hide_le _ _ _ _ hd3
    replace hd4 := ud5.up _ _ hd4
    replace hd4' := hide_le _ _ _ _ hd4
    replace hv := ud5.da hv
    have hd5' := hide_le _ _ _ _ hd5
    walk_at "w"
    refine ⟨szr rfl, fun X nX => ?_⟩
    have uX := (Wd.refl ud5.st).new (o := .lst [.non, .bl true, .int 0, .str "", .str "abc", .ref a1, .ref a2, .ref b3, .ref c3, .ref d5]) nX
    have hX := (Wd.refl ud5.st).here (o := .lst [.non, .bl true, .int 0, .str "", .str "abc", .ref a1, .ref a2, .ref b3, .ref c3, .ref d5]) nX
    generalize upd G13 X (.lst [.non, .bl true, .int 0, .str "", .str "abc", .ref a1, .ref a2, .ref b3, .ref c3, .ref d5]) = G14 at *
    replace ha1 := uX.up _ _ ha1
    replace ha1' := hide_le _ _ _ _ ha1
    replace ha2 := uX.up _ _ ha2
    replace ha2' := hide_le _ _ _ _ ha2
    replace hb1 := uX.up _ _ hb1
    replace hb1' := hide_le _ _ _ _ hb1
    replace hb2 := uX.up _ _ hb2
    replace hb2' := hide_le _ _ _ _ hb2
    replace hb3 := uX.up _ _ hb3
    replace hb3' := hide_le _ _ _ _ hb3
    replace hc1 := uX.up _ _ hc1
    replace hc1' := hide_le _ _ _ _ hc1
    replace hc2 := uX.up _ _ hc2
    replace hc2' := hide_le _ _ _ _ hc2
    replace hc3 := uX.up _ _ hc3
    replace hc3' := hide_le _ _ _ _ hc3
    replace hd1 := uX.up _ _ hd1
    replace hd1' := hide_le _ _ _ _ hd1
    replace hd2 := uX.up _ _ hd2
    replace hd2' := hide_le _ _ _ _ hd2
    replace hd3 := uX.up _ _ hd3
    replace hd3' := hide_le _ _ _ _ hd3
    replace hd4 := uX.up _ _ hd4
    replace hd4' := hide_le _ _ _ _ hd4
    replace hd5 := uX.up _ _ hd5
    replace hd5' := hide_le _ _ _ _ hd5
    replace hv := uX.da hv
    have hX' := hide_le _ _ _ _ hX
    have w0 := (((((((((((((ua1.trans ua2).trans ub1).trans ub2).trans ub3).trans uc1).trans uc2).trans uc3).trans ud1).trans ud2).trans ud3).trans ud4).trans ud5).trans uX)
    refine ⟨z, _, rfl, uX.st, Or.inl ⟨X, _, rfl, hX, (fun h => nomatch h), Nat.le_of_ble_eq_true rfl, fun rv hrv H1 w1 => ?_⟩⟩
    obtain ⟨rd, jr, br⟩ : ∃ d, DA (hide z G14) rv d ∧ Pz d := by
      simp only [List.mem_cons, List.not_mem_nil, or_false] at hrv
      have be : Bz 8 1 (.list []) := (Bz.list (w := 0) (n := 0) .all (L := 0) (Nat.le_refl 0)).mono (by decide) (by decide)
      have bt : Bz 8 1 (.tuple []) := (Bz.tuple (w := 0) (n := 0) .all (L := 0) (Nat.le_refl 0)).mono (by decide) (by decide)
      have bi : ∀ i : Int, i = 0 ∨ i = 1 → Bz 16 1 (.int i) := fun i h => (Bz.int (by omega) (by omega)).mono (by decide) (by decide)
      have b2e : Bz 100 2 (.tuple [.int 0, .list []]) := (Bz.tuple (w := 16) (n := 1) (.cons (bi 0 (.inl rfl)) (.cons (be.mono (by decide) (by decide)) .all)) (L := 2) (Nat.le_refl 2)).mono (by decide) (by decide)
      rcases hrv with rfl | rfl | rfl | rfl | rfl | rfl | rfl | rfl | rfl | rfl
      · exact ⟨_, .non, Bz.none.mono (by decide) (by decide)⟩
      · exact ⟨_, .bl true, (Bz.bool true).mono (by decide) (by decide)⟩
      · exact ⟨_, .int 0, (bi 0 (.inl rfl)).mono (by decide) (by decide)⟩
      · exact ⟨_, .str "", (Bz.str (x := "") (n := 0) (fun c h => nomatch (show c ∈ ([] : List Nat) from h)) (Nat.le_refl 0)).mono (by decide) (by decide)⟩
      · exact ⟨_, .str "abc", ⟨by decide +kernel, by decide +kernel⟩⟩
      · exact ⟨_, .lst ha1 .nil, be.mono (by decide) (by decide)⟩
      · exact ⟨_, .tup ha2 .nil, bt.mono (by decide) (by decide)⟩
      · exact ⟨_, .tup hb3 (.cons (.tup hb1 .nil) (.cons (.tup hb2 .nil) (.one (.int 0)))), (Bz.tuple (w := 16) (n := 1) (.cons (bt.mono (by decide) (by decide)) (.cons (bt.mono (by decide) (by decide)) (.cons (bi 0 (.inl rfl)) .all))) (L := 3) (Nat.le_refl 3)).mono (by decide) (by decide)⟩
      · exact ⟨_, .lst hc3 (.cons (.lst hc1 .nil) (.cons (.lst hc2 .nil) (.one (.int 1)))), (Bz.list (w := 16) (n := 1) (.cons (be.mono (by decide) (by decide)) (.cons (be.mono (by decide) (by decide)) (.cons (bi 1 (.inr rfl)) .all))) (L := 3) (Nat.le_refl 3)).mono (by decide) (by decide)⟩
      · exact ⟨_, .tup hd5 (.cons (.tup hd2 (.cons (.int 0) (.one (.lst hd1 .nil)))) (.cons (.tup hd4 (.cons (.int 0) (.one (.lst hd3 .nil)))) (.one (.int 0)))), (Bz.tuple (w := 100) (n := 2) (.cons b2e (.cons b2e (.cons ((bi 0 (.inl rfl)).mono (by decide) (by decide)) .all))) (L := 3) (Nat.le_refl 3)).mono (by decide) (by decide)⟩
    replace jr := w1.da jr
    replace hv := w1.da hv
    replace w0 := w0.trans w1
    clear ha1 ha2 hb1 hb2 hb3 hc1 hc2 hc3 hd1 hd2 hd3 hd4 hd5 hX
    clear ha1' ha2' hb1' hb2' hb3' hc1' hc2' hc3' hd1' hd2' hd3' hd4' hd5' hX'
    clear uX ud5 ud4 ud3 ud2 ud1 uc3 uc2 uc1 ub3 ub2 ub1 ua2 ua1
    clear nX nd5 nd4 nd3 nd2 nd1 nc3 nc2 nc1 nb3 nb2 nb1 na2 na1
    walk_at "w"
    refine ⟨szr rfl, fun L0 nL0 => ?_⟩
    have uL0 := (Wd.refl w1.st).new (o := .lst [rv]) nL0
    have hL0 := w1.here (o := .lst [rv]) nL0
    walk_at "w"
    refine ⟨by omega, by omega, for_range (lo := 0) (n := (3 : Int).toNat) (fun i σ H' => ∃ (Lp : Addr) (ds : List PyData) (x3 x4 x5 x6 x7 : Option V), σ = [some (.ref z.s), some v, some (.ref Lp), x3, x4, x5, x6, x7] ∧ Wd z H H' ∧ DA (hide z H') v (partsD M) ∧ DA (hide z H') (.ref Lp) (.list ds) ∧ 1 ≤ ds.length ∧ ds.length ≤ 1 + 7 * i ∧ ∀ d ∈ ds, Pz d) ?_ ?_ ?_⟩
    · exact ⟨_, _, _, _, _, _, _, rfl, w0.trans uL0, uL0.da hv, .lst hL0 (.one (uL0.da jr)), Nat.le_refl 1, Nat.le_refl 1, mem_one br⟩
    · rintro i σ H3 hi ⟨Lp, ds, x3, x4, x5, x6, x7, rfl, w3, hv, jL, l0, l1, bL⟩
      have hi3 : i < 3 := hi
      walk_at "w"
      refine ⟨z, _, rfl, w3.st, by decide, fun t H4 t0 t1 w4 => ?_⟩
      replace hv := w4.da hv
      replace jL := w4.da jL
      replace w3 := w3.trans w4
      walk_at "w"
      refine ⟨z, v, M, _, rfl, w4.st, hv, hPV, by omega, by omega, fun H5 w5 => ?_, fun v5 H5 p w5 jp hP => ?_⟩
      · walk_at "w"
        refine iteF ?_
        exact ⟨_, _, _, _, _, _, _, rfl, w3.trans w5, w5.da hv, w5.da jL, l0, by omega, bL⟩
      replace hv := w5.da hv
      replace jL := w5.da jL
      replace w3 := w3.trans w5
      obtain ⟨q, v1, v2, rfl, hq, j1, j2⟩ := jp.pap_inv
      obtain ⟨c, sd, l, xl, rfl, hc, hsd, hl, jl⟩ := j1.way_inv
      obtain ⟨_, yl, e, hL, jLi⟩ := jL.lst_inv
      cases e
      have hyl := jLi.len
      have hxl : xl.length ≤ 10 := by rw [jl.len, List.length_map]; exact hP.la
      have pt0 := hP.t0
      have pt1 := hP.t1
      have hPb := hP.mono (L' := 700) (by decide)
      have bp := hPb.bz hPV
      have hq' := hide_le _ _ _ _ hq
      have hc' := hide_le _ _ _ _ hc
      have hl' := hide_le _ _ _ _ hl
      have hL' := hide_le _ _ _ _ hL
      obtain ⟨pn, hpn⟩ : ∃ n : Nat, p.at_ = (n : Int) := ⟨p.at_.toNat, by omega⟩
      have sx := Pz.str6 pn (by omega)
      rw [← hpn] at sx
      walk_at "w"
      refine ⟨sx.2, ?_⟩
      walk_at "w"
      refine ⟨szr rfl, fun tt ntt => ?_⟩
      have utt := (Wd.refl w5.st).new (o := .tup [.int p.at_]) ntt
      have htt := (Wd.refl w5.st).here (o := .tup [.int p.at_]) ntt
      generalize upd H5 tt (.tup [.int p.at_]) = G15 at *
      replace hq := utt.up _ _ hq
      replace hq' := hide_le _ _ _ _ hq
      replace hc := utt.up _ _ hc
      replace hc' := hide_le _ _ _ _ hc
      replace hl := utt.up _ _ hl
      replace hl' := hide_le _ _ _ _ hl
      replace hL := utt.up _ _ hL
      replace hL' := hide_le _ _ _ _ hL
      replace hv := utt.da hv
      replace jp := utt.da jp
      replace j1 := utt.da j1
      replace j2 := utt.da j2
      replace jLi := utt.das jLi
      have htt' := hide_le _ _ _ _ htt
      walk_at "w"
      refine ⟨szr rfl, fun Y nY => ?_⟩
      have uY := (Wd.refl utt.st).new (o := .lst [.int (p.at_ + 1), .int (p.at_ - 1), .bl (decide (0 < p.at_)), .int (p.at_ + xl.length), .non, .str (toString p.at_), .ref tt]) nY
      have hY := (Wd.refl utt.st).here (o := .lst [.int (p.at_ + 1), .int (p.at_ - 1), .bl (decide (0 < p.at_)), .int (p.at_ + xl.length), .non, .str (toString p.at_), .ref tt]) nY
      generalize upd G15 Y (.lst [.int (p.at_ + 1), .int (p.at_ - 1), .bl (decide (0 < p.at_)), .int (p.at_ + xl.length), .non, .str (toString p.at_), .ref tt]) = G16 at *
      replace hq := uY.up _ _ hq
      replace hq' := hide_le _ _ _ _ hq
      replace hc := uY.up _ _ hc
      replace hc' := hide_le _ _ _ _ hc
      replace hl := uY.up _ _ hl
      replace hl' := hide_le _ _ _ _ hl
      replace hL := uY.up _ _ hL
      replace hL' := hide_le _ _ _ _ hL
      replace htt := uY.up _ _ htt
      replace htt' := hide_le _ _ _ _ htt
      replace hv := uY.da hv
      replace jp := uY.da jp
      replace j1 := uY.da j1
      replace j2 := uY.da j2
      replace jLi := uY.das jLi
      have hY' := hide_le _ _ _ _ hY
      walk_at "w"
      refine ⟨szr rfl, fun Z nZ => ?_⟩
      have uZ := (Wd.refl uY.st).new (o := .lst [.int 2, .int 2, .int 2, .int 3, .int 3, .int 4, .int 4, .int 60]) nZ
      have hZ := (Wd.refl uY.st).here (o := .lst [.int 2, .int 2, .int 2, .int 3, .int 3, .int 4, .int 4, .int 60]) nZ
      generalize upd G16 Z (.lst [.int 2, .int 2, .int 2, .int 3, .int 3, .int 4, .int 4, .int 60]) = G17 at *
      replace hq := uZ.up _ _ hq
      replace hq' := hide_le _ _ _ _ hq
      replace hc := uZ.up _ _ hc
      replace hc' := hide_le _ _ _ _ hc
      replace hl := uZ.up _ _ hl
      replace hl' := hide_le _ _ _ _ hl
      replace hL := uZ.up _ _ hL
      replace hL' := hide_le _ _ _ _ hL
      replace htt := uZ.up _ _ htt
      replace htt' := hide_le _ _ _ _ htt
      replace hY := uZ.up _ _ hY
      replace hY' := hide_le _ _ _ _ hY
      replace hv := uZ.da hv
      replace jp := uZ.da jp
      replace j1 := uZ.da j1
      replace j2 := uZ.da j2
      replace jLi := uZ.das jLi
      have hZ' := hide_le _ _ _ _ hZ
      refine ⟨z, _, rfl, uZ.st, Or.inl ⟨Z, _, rfl, hZ, (fun h => nomatch h), Nat.le_of_ble_eq_true rfl, fun tv htv H6 w6 => ?_⟩⟩
      replace hq := w6.up _ _ hq
      replace hq' := hide_le _ _ _ _ hq
      replace hc := w6.up _ _ hc
      replace hc' := hide_le _ _ _ _ hc
      replace hl := w6.up _ _ hl
      replace hl' := hide_le _ _ _ _ hl
      replace hL := w6.up _ _ hL
      replace hL' := hide_le _ _ _ _ hL
      replace htt := w6.up _ _ htt
      replace htt' := hide_le _ _ _ _ htt
      replace hY := w6.up _ _ hY
      replace hY' := hide_le _ _ _ _ hY
      replace hZ := w6.up _ _ hZ
      replace hZ' := hide_le _ _ _ _ hZ
      replace hv := w6.da hv
      replace jp := w6.da jp
      replace j1 := w6.da j1
      replace j2 := w6.da j2
      replace jLi := w6.das jLi
      obtain ⟨tn, rfl, tn0, tn1⟩ : ∃ tn : Int, tv = .int tn ∧ 1 ≤ tn ∧ tn ≤ 60 := by
        simp only [List.mem_cons, List.not_mem_nil, or_false] at htv
        rcases htv with rfl | rfl | rfl | rfl | rfl | rfl | rfl | rfl <;> exact ⟨_, rfl, by decide, by decide⟩
      walk_at "w"
      refine ⟨z, _, p, tn, M, rfl, w6.st, jp, hP, tn0, tn1, fun v7 H7 p7 w7 jp7 hP7 => ?_⟩
      replace hq := w7.up _ _ hq
      replace hq' := hide_le _ _ _ _ hq
      replace hc := w7.up _ _ hc
      replace hc' := hide_le _ _ _ _ hc
      replace hl := w7.up _ _ hl
      replace hl' := hide_le _ _ _ _ hl
      replace hL := w7.up _ _ hL
      replace hL' := hide_le _ _ _ _ hL
      replace htt := w7.up _ _ htt
      replace htt' := hide_le _ _ _ _ htt
      replace hY := w7.up _ _ hY
      replace hY' := hide_le _ _ _ _ hY
      replace hZ := w7.up _ _ hZ
      replace hZ' := hide_le _ _ _ _ hZ
      replace hv := w7.da hv
      replace jp := w7.da jp
      replace j1 := w7.da j1
      replace j2 := w7.da j2
      replace jLi := w7.das jLi
      have bp7 := hP7.bz hPV
      walk_at "w"
      refine ⟨szr rfl, fun S nS => ?_⟩
      have uS := (Wd.refl w7.st).new (o := .tup [v2, .ref c, .int p.at_]) nS
      have hS := (Wd.refl w7.st).here (o := .tup [v2, .ref c, .int p.at_]) nS
      generalize upd H7 S (.tup [v2, .ref c, .int p.at_]) = G18 at *
      replace hq := uS.up _ _ hq
      replace hq' := hide_le _ _ _ _ hq
      replace hc := uS.up _ _ hc
      replace hc' := hide_le _ _ _ _ hc
      replace hl := uS.up _ _ hl
      replace hl' := hide_le _ _ _ _ hl
      replace hL := uS.up _ _ hL
      replace hL' := hide_le _ _ _ _ hL
      replace htt := uS.up _ _ htt
      replace htt' := hide_le _ _ _ _ htt
      replace hY := uS.up _ _ hY
      replace hY' := hide_le _ _ _ _ hY
      replace hZ := uS.up _ _ hZ
      replace hZ' := hide_le _ _ _ _ hZ
      replace hv := uS.da hv
      replace jp := uS.da jp
      replace j1 := uS.da j1
      replace j2 := uS.da j2
      replace jp7 := uS.da jp7
      replace jLi := uS.das jLi
      have hS' := hide_le _ _ _ _ hS
      have jS : DA (hide z G18) (.ref S) (papD ⟨p.b, p.a, p.at_⟩) := DA.pap (x := ⟨p.b, p.a, p.at_⟩) hS j2 j1
      have bS : Pz (papD ⟨p.b, p.a, p.at_⟩) := POk.bz (M := M) ⟨hPb.hb, hPb.ha, hPb.mb, hPb.ma, hPb.lb, hPb.la, hPb.t0, hPb.t1⟩ hPV
      walk_at "w"
      refine ⟨szr rfl, fun N1 nN1 => ?_⟩
      have uN1 := (Wd.refl uS.st).new (o := .lst [.ref q, v7, .ref S]) nN1
      have hN1 := (Wd.refl uS.st).here (o := .lst [.ref q, v7, .ref S]) nN1
      generalize upd G18 N1 (.lst [.ref q, v7, .ref S]) = G19 at *
      replace hq := uN1.up _ _ hq
      replace hq' := hide_le _ _ _ _ hq
      replace hc := uN1.up _ _ hc
      replace hc' := hide_le _ _ _ _ hc
      replace hl := uN1.up _ _ hl
      replace hl' := hide_le _ _ _ _ hl
      replace hL := uN1.up _ _ hL
      replace hL' := hide_le _ _ _ _ hL
      replace htt := uN1.up _ _ htt
      replace htt' := hide_le _ _ _ _ htt
      replace hY := uN1.up _ _ hY
      replace hY' := hide_le _ _ _ _ hY
      replace hZ := uN1.up _ _ hZ
      replace hZ' := hide_le _ _ _ _ hZ
      replace hS := uN1.up _ _ hS
      replace hS' := hide_le _ _ _ _ hS
      replace hv := uN1.da hv
      replace jp := uN1.da jp
      replace j1 := uN1.da j1
      replace j2 := uN1.da j2
      replace jp7 := uN1.da jp7
      replace jS := uN1.da jS
      replace jLi := uN1.das jLi
      have hN1' := hide_le _ _ _ _ hN1
      have jL1 : DAs (hide z G19) (yl ++ [.ref q, v7, .ref S]) (ds ++ [papD p, papD p7, papD ⟨p.b, p.a, p.at_⟩]) := jLi.append (.cons jp (.cons jp7 (.one jS)))
      refine ⟨Lp, N1, _, _, rfl, rfl, hL', hN1', (by show yl.length + 3 ≤ _; exact szle (by omega)), fun L1 nL1 => ?_⟩
      have uL1 := (Wd.refl uN1.st).new (o := .lst (yl ++ [.ref q, v7, .ref S])) nL1
      have hL1 := (Wd.refl uN1.st).here (o := .lst (yl ++ [.ref q, v7, .ref S])) nL1
      generalize upd G19 L1 (.lst (yl ++ [.ref q, v7, .ref S])) = G20 at *
      replace hq := uL1.up _ _ hq
      replace hq' := hide_le _ _ _ _ hq
      replace hc := uL1.up _ _ hc
      replace hc' := hide_le _ _ _ _ hc
      replace hl := uL1.up _ _ hl
      replace hl' := hide_le _ _ _ _ hl
      replace hL := uL1.up _ _ hL
      replace hL' := hide_le _ _ _ _ hL
      replace htt := uL1.up _ _ htt
      replace htt' := hide_le _ _ _ _ htt
      replace hY := uL1.up _ _ hY
      replace hY' := hide_le _ _ _ _ hY
      replace hZ := uL1.up _ _ hZ
      replace hZ' := hide_le _ _ _ _ hZ
      replace hS := uL1.up _ _ hS
      replace hS' := hide_le _ _ _ _ hS
      replace hN1 := uL1.up _ _ hN1
      replace hN1' := hide_le _ _ _ _ hN1
      replace hv := uL1.da hv
      replace jp := uL1.da jp
      replace j1 := uL1.da j1
      replace j2 := uL1.da j2
      replace jp7 := uL1.da jp7
      replace jS := uL1.da jS
      replace jLi := uL1.das jLi
      replace jL1 := uL1.das jL1
      have hL1' := hide_le _ _ _ _ hL1
      clear jLi hL hL' hN1 hN1' jS hS hS' jp7
      walk_at "w"
      refine ⟨q, _, rfl, SqT.of hq', (by show ¬(HT.sIx 3 0 none = 0 ∧ HT.sIx 3 3 (some 2) = 3); decide), fun U1 nU1 => ?_⟩
      have uU1 := (Wd.refl uL1.st).new (o := .tup (cutV [.ref c, v2, .int p.at_] none (some 2))) nU1
      have hU1 := (Wd.refl uL1.st).here (o := .tup (cutV [.ref c, v2, .int p.at_] none (some 2))) nU1
      generalize upd G20 U1 (.tup (cutV [.ref c, v2, .int p.at_] none (some 2))) = G21 at *
      replace hq := uU1.up _ _ hq
      replace hq' := hide_le _ _ _ _ hq
      replace hc := uU1.up _ _ hc
      replace hc' := hide_le _ _ _ _ hc
      replace hl := uU1.up _ _ hl
      replace hl' := hide_le _ _ _ _ hl
      replace htt := uU1.up _ _ htt
      replace htt' := hide_le _ _ _ _ htt
      replace hY := uU1.up _ _ hY
      replace hY' := hide_le _ _ _ _ hY
      replace hZ := uU1.up _ _ hZ
      replace hZ' := hide_le _ _ _ _ hZ
      replace hL1 := uU1.up _ _ hL1
      replace hL1' := hide_le _ _ _ _ hL1
      replace hv := uU1.da hv
      replace jp := uU1.da jp
      replace j1 := uU1.da j1
      replace j2 := uU1.da j2
      replace jL1 := uU1.das jL1
      replace hU1 : hide z G21 U1 = some (.tup [.ref c, v2]) := hU1
      have hU1' := hide_le _ _ _ _ hU1
      walk_at "w"
      refine ⟨z, _, rfl, uU1.st, Or.inl ⟨Y, _, rfl, hY, (fun h => nomatch h), Nat.le_of_ble_eq_true rfl, fun pv hpv H8 w8 => ?_⟩⟩
      replace hq := w8.up _ _ hq
      replace hq' := hide_le _ _ _ _ hq
      replace hc := w8.up _ _ hc
      replace hc' := hide_le _ _ _ _ hc
      replace hl := w8.up _ _ hl
      replace hl' := hide_le _ _ _ _ hl
      replace htt := w8.up _ _ htt
      replace htt' := hide_le _ _ _ _ htt
      replace hY := w8.up _ _ hY
      replace hY' := hide_le _ _ _ _ hY
      replace hZ := w8.up _ _ hZ
      replace hZ' := hide_le _ _ _ _ hZ
      replace hL1 := w8.up _ _ hL1
      replace hL1' := hide_le _ _ _ _ hL1
      replace hU1 := w8.up _ _ hU1
      replace hU1' := hide_le _ _ _ _ hU1
      replace hv := w8.da hv
      replace jp := w8.da jp
      replace j1 := w8.da j1
      replace j2 := w8.da j2
      replace jL1 := w8.das jL1
      obtain ⟨pd, jpd, bpd⟩ : ∃ d, DA (hide z H8) pv d ∧ Bz 40 1 d := by
        simp only [List.mem_cons, List.not_mem_nil, or_false] at hpv
        rcases hpv with rfl | rfl | rfl | rfl | rfl | rfl | rfl
        · exact ⟨_, .int _, (Bz.int (by omega) (by omega)).mono (by decide) (by decide)⟩
        · exact ⟨_, .int _, (Bz.int (by omega) (by omega)).mono (by decide) (by decide)⟩
        · exact ⟨_, .bl _, (Bz.bool _).mono (by decide) (by decide)⟩
        · exact ⟨_, .int _, (Bz.int (by omega) (by omega)).mono (by decide) (by decide)⟩
        · exact ⟨_, .non, Bz.none.mono (by decide) (by decide)⟩
        · exact ⟨_, .str _, sx.1.mono (by decide) (by decide)⟩
        · exact ⟨_, .tup htt (.one (.int _)), (Bz.tuple (w := 16) (n := 0) (.cons (Bz.int (by omega) (by omega)) .all) (L := 1) (Nat.le_refl 1)).mono (by decide) (by decide)⟩
      clear hY hY' htt htt' hZ hZ'
      walk_at "w"
      refine ⟨szr rfl, fun U2 nU2 => ?_⟩
      have uU2 := (Wd.refl w8.st).new (o := .tup [pv]) nU2
      have hU2 := (Wd.refl w8.st).here (o := .tup [pv]) nU2
      generalize upd H8 U2 (.tup [pv]) = G22 at *
      replace hq := uU2.up _ _ hq
      replace hq' := hide_le _ _ _ _ hq
      replace hc := uU2.up _ _ hc
      replace hc' := hide_le _ _ _ _ hc
      replace hl := uU2.up _ _ hl
      replace hl' := hide_le _ _ _ _ hl
      replace hL1 := uU2.up _ _ hL1
      replace hL1' := hide_le _ _ _ _ hL1
      replace hU1 := uU2.up _ _ hU1
      replace hU1' := hide_le _ _ _ _ hU1
      replace hv := uU2.da hv
      replace jp := uU2.da jp
      replace j1 := uU2.da j1
      replace j2 := uU2.da j2
      replace jpd := uU2.da jpd
      replace jL1 := uU2.das jL1
      have hU2' := hide_le _ _ _ _ hU2
      refine ⟨U1, U2, _, _, rfl, rfl, SqT.of hU1', SqT.of hU2', (fun h => nomatch h), szr rfl, (fun h => nomatch h), fun _ U3 nU3 => ?_⟩
      have uU3 := (Wd.refl uU2.st).new (o := .tup ([.ref c, v2] ++ [pv])) nU3
      have hU3 := (Wd.refl uU2.st).here (o := .tup ([.ref c, v2] ++ [pv])) nU3
      generalize upd G22 U3 (.tup ([.ref c, v2] ++ [pv])) = G23 at *
      replace hq := uU3.up _ _ hq
      replace hq' := hide_le _ _ _ _ hq
      replace hc := uU3.up _ _ hc
      replace hc' := hide_le _ _ _ _ hc
      replace hl := uU3.up _ _ hl
      replace hl' := hide_le _ _ _ _ hl
      replace hL1 := uU3.up _ _ hL1
      replace hL1' := hide_le _ _ _ _ hL1
      replace hU1 := uU3.up _ _ hU1
      replace hU1' := hide_le _ _ _ _ hU1
      replace hU2 := uU3.up _ _ hU2
      replace hU2' := hide_le _ _ _ _ hU2
      replace hv := uU3.da hv
      replace jp := uU3.da jp
      replace j1 := uU3.da j1
      replace j2 := uU3.da j2
      replace jpd := uU3.da jpd
      replace jL1 := uU3.das jL1
      replace hU3 : hide z G23 U3 = some (.tup [.ref c, v2, pv]) := hU3
      have hU3' := hide_le _ _ _ _ hU3
      have bwa : Bz 730000 3 (wayD p.a) := POk.way (L := 0) hPV hPb.ha hPb.ma hPb.la
      have bwb : Bz 730000 3 (wayD p.b) := POk.way (L := 0) hPV hPb.hb hPb.mb hPb.lb
      have jU : DA (hide z G23) (.ref U3) (.tuple [wayD p.a, wayD p.b, pd]) := .tup hU3 (.cons j1 (.cons j2 (.one jpd)))
      have bU : Pz (.tuple [wayD p.a, wayD p.b, pd]) := (Bz.tuple (w := 730000) (n := 3) (.cons bwa (.cons bwb (.cons (bpd.mono (by decide) (by decide)) .all))) (L := 3) (Nat.le_of_ble_eq_true rfl)).mono (by decide) (by decide)
      walk_at "w"
      refine ⟨z, _, p, M, rfl, uU3.st, hPV, jp, hP, fun v9 H9 d9 w9 jd9 bd9 => ?_⟩
      replace hq := w9.up _ _ hq
      replace hq' := hide_le _ _ _ _ hq
      replace hc := w9.up _ _ hc
      replace hc' := hide_le _ _ _ _ hc
      replace hl := w9.up _ _ hl
      replace hl' := hide_le _ _ _ _ hl
      replace hL1 := w9.up _ _ hL1
      replace hL1' := hide_le _ _ _ _ hL1
      replace hU1 := w9.up _ _ hU1
      replace hU1' := hide_le _ _ _ _ hU1
      replace hU2 := w9.up _ _ hU2
      replace hU2' := hide_le _ _ _ _ hU2
      replace hU3 := w9.up _ _ hU3
      replace hU3' := hide_le _ _ _ _ hU3
      replace hv := w9.da hv
      replace jp := w9.da jp
      replace j1 := w9.da j1
      replace j2 := w9.da j2
      replace jpd := w9.da jpd
      replace jU := w9.da jU
      replace jL1 := w9.das jL1
      have jN2 : DAs (hide z H9) [.ref U3, v9] [.tuple [wayD p.a, wayD p.b, pd], d9] := .cons jU (.one jd9)
      walk_at "w"
      refine ⟨szr rfl, fun N2 nN2 => ?_⟩
      have uN2 := (Wd.refl w9.st).new (o := .lst [.ref U3, v9]) nN2
      have hN2 := (Wd.refl w9.st).here (o := .lst [.ref U3, v9]) nN2
      generalize upd H9 N2 (.lst [.ref U3, v9]) = G24 at *
      replace hq := uN2.up _ _ hq
      replace hq' := hide_le _ _ _ _ hq
      replace hc := uN2.up _ _ hc
      replace hc' := hide_le _ _ _ _ hc
      replace hl := uN2.up _ _ hl
      replace hl' := hide_le _ _ _ _ hl
      replace hL1 := uN2.up _ _ hL1
      replace hL1' := hide_le _ _ _ _ hL1
      replace hU1 := uN2.up _ _ hU1
      replace hU1' := hide_le _ _ _ _ hU1
      replace hU2 := uN2.up _ _ hU2
      replace hU2' := hide_le _ _ _ _ hU2
      replace hU3 := uN2.up _ _ hU3
      replace hU3' := hide_le _ _ _ _ hU3
      replace hv := uN2.da hv
      replace jp := uN2.da jp
      replace j1 := uN2.da j1
      replace j2 := uN2.da j2
      replace jpd := uN2.da jpd
      replace jU := uN2.da jU
      replace jL1 := uN2.das jL1
      replace jN2 := uN2.das jN2
      have hN2' := hide_le _ _ _ _ hN2
      have jL2 := jL1.append jN2
      refine ⟨L1, N2, _, _, rfl, rfl, hL1', hN2', (by rw [List.length_append]; show yl.length + 3 + 2 ≤ _; exact szle (by omega)), fun L2 nL2 => ?_⟩
      have uL2 := (Wd.refl uN2.st).new (o := .lst (yl ++ [.ref q, v7, .ref S] ++ [.ref U3, v9])) nL2
      have hL2 := (Wd.refl uN2.st).here (o := .lst (yl ++ [.ref q, v7, .ref S] ++ [.ref U3, v9])) nL2
      generalize upd G24 L2 (.lst (yl ++ [.ref q, v7, .ref S] ++ [.ref U3, v9])) = G25 at *
      replace hq := uL2.up _ _ hq
      replace hq' := hide_le _ _ _ _ hq
      replace hc := uL2.up _ _ hc
      replace hc' := hide_le _ _ _ _ hc
      replace hl := uL2.up _ _ hl
      replace hl' := hide_le _ _ _ _ hl
      replace hL1 := uL2.up _ _ hL1
      replace hL1' := hide_le _ _ _ _ hL1
      replace hU1 := uL2.up _ _ hU1
      replace hU1' := hide_le _ _ _ _ hU1
      replace hU2 := uL2.up _ _ hU2
      replace hU2' := hide_le _ _ _ _ hU2
      replace hU3 := uL2.up _ _ hU3
      replace hU3' := hide_le _ _ _ _ hU3
      replace hN2 := uL2.up _ _ hN2
      replace hN2' := hide_le _ _ _ _ hN2
      replace hv := uL2.da hv
      replace jp := uL2.da jp
      replace j1 := uL2.da j1
      replace j2 := uL2.da j2
      replace jpd := uL2.da jpd
      replace jU := uL2.da jU
      replace jL1 := uL2.das jL1
      replace jN2 := uL2.das jN2
      replace jL2 := uL2.das jL2
      have hL2' := hide_le _ _ _ _ hL2
      clear jL1 jN2 hL1 hL1' hN2 hN2' hU1 hU1' hU2 hU2' hU3 hU3' jpd jU
      walk_at "w"
      refine ⟨z, v, _, p, M, rfl, uL2.st, hv, hPV, jp, hP, fun v10 H10 p10 w10 jp10 hP10 => ?_⟩
      replace hq := w10.up _ _ hq
      replace hq' := hide_le _ _ _ _ hq
      replace hc := w10.up _ _ hc
      replace hc' := hide_le _ _ _ _ hc
      replace hl := w10.up _ _ hl
      replace hl' := hide_le _ _ _ _ hl
      replace hL2 := w10.up _ _ hL2
      replace hL2' := hide_le _ _ _ _ hL2
      replace hv := w10.da hv
      replace jp := w10.da jp
      replace j1 := w10.da j1
      replace j2 := w10.da j2
      replace jL2 := w10.das jL2
      have bp10 := (hP10.mono (L' := 700) (by decide)).bz hPV
      walk_at "w"
      refine ⟨szr rfl, fun S2 nS2 => ?_⟩
      have uS2 := (Wd.refl w10.st).new (o := .tup [.ref c, .ref c, .int p.at_]) nS2
      have hS2 := (Wd.refl w10.st).here (o := .tup [.ref c, .ref c, .int p.at_]) nS2
      generalize upd H10 S2 (.tup [.ref c, .ref c, .int p.at_]) = G26 at *
      replace hq := uS2.up _ _ hq
      replace hq' := hide_le _ _ _ _ hq
      replace hc := uS2.up _ _ hc
      replace hc' := hide_le _ _ _ _ hc
      replace hl := uS2.up _ _ hl
      replace hl' := hide_le _ _ _ _ hl
      replace hL2 := uS2.up _ _ hL2
      replace hL2' := hide_le _ _ _ _ hL2
      replace hv := uS2.da hv
      replace jp := uS2.da jp
      replace j1 := uS2.da j1
      replace j2 := uS2.da j2
      replace jp10 := uS2.da jp10
      replace jL2 := uS2.das jL2
      have hS2' := hide_le _ _ _ _ hS2
      have jS2 : DA (hide z G26) (.ref S2) (papD ⟨p.a, p.a, p.at_⟩) := DA.pap (x := ⟨p.a, p.a, p.at_⟩) hS2 j1 j1
      have bS2 : Pz (papD ⟨p.a, p.a, p.at_⟩) := POk.bz (M := M) ⟨hPb.ha, hPb.ha, hPb.ma, hPb.ma, hPb.la, hPb.la, hPb.t0, hPb.t1⟩ hPV
      walk_at "w"
      refine ⟨szr rfl, fun N3 nN3 => ?_⟩
      have uN3 := (Wd.refl uS2.st).new (o := .lst [v10, .ref S2]) nN3
      have hN3 := (Wd.refl uS2.st).here (o := .lst [v10, .ref S2]) nN3
      generalize upd G26 N3 (.lst [v10, .ref S2]) = G27 at *
      replace hq := uN3.up _ _ hq
      replace hq' := hide_le _ _ _ _ hq
      replace hc := uN3.up _ _ hc
      replace hc' := hide_le _ _ _ _ hc
      replace hl := uN3.up _ _ hl
      replace hl' := hide_le _ _ _ _ hl
      replace hL2 := uN3.up _ _ hL2
      replace hL2' := hide_le _ _ _ _ hL2
      replace hS2 := uN3.up _ _ hS2
      replace hS2' := hide_le _ _ _ _ hS2
      replace hv := uN3.da hv
      replace jp := uN3.da jp
      replace j1 := uN3.da j1
      replace j2 := uN3.da j2
      replace jp10 := uN3.da jp10
      replace jS2 := uN3.da jS2
      replace jL2 := uN3.das jL2
      have hN3' := hide_le _ _ _ _ hN3
      have jL3 := jL2.append (.cons jp10 (.one jS2))
      refine ⟨L2, N3, _, _, rfl, rfl, hL2', hN3', (by rw [List.length_append, List.length_append]; show yl.length + 3 + 2 + 2 ≤ _; exact szle (by omega)), fun L3 nL3 => ?_⟩
      have uL3 := (Wd.refl uN3.st).new (o := .lst (yl ++ [.ref q, v7, .ref S] ++ [.ref U3, v9] ++ [v10, .ref S2])) nL3
      have hL3 := (Wd.refl uN3.st).here (o := .lst (yl ++ [.ref q, v7, .ref S] ++ [.ref U3, v9] ++ [v10, .ref S2])) nL3
      generalize upd G27 L3 (.lst (yl ++ [.ref q, v7, .ref S] ++ [.ref U3, v9] ++ [v10, .ref S2])) = G28 at *
      replace hq := uL3.up _ _ hq
      replace hq' := hide_le _ _ _ _ hq
      replace hc := uL3.up _ _ hc
      replace hc' := hide_le _ _ _ _ hc
      replace hl := uL3.up _ _ hl
      replace hl' := hide_le _ _ _ _ hl
      replace hL2 := uL3.up _ _ hL2
      replace hL2' := hide_le _ _ _ _ hL2
      replace hS2 := uL3.up _ _ hS2
      replace hS2' := hide_le _ _ _ _ hS2
      replace hN3 := uL3.up _ _ hN3
      replace hN3' := hide_le _ _ _ _ hN3
      replace hv := uL3.da hv
      replace jp := uL3.da jp
      replace j1 := uL3.da j1
      replace j2 := uL3.da j2
      replace jp10 := uL3.da jp10
      replace jS2 := uL3.da jS2
      replace jL2 := uL3.das jL2
      replace jL3 := uL3.das jL3
      have hL3' := hide_le _ _ _ _ hL3
      refine ⟨_, _, _, _, _, _, _, rfl, w3.trans ((((((((((((((((((utt.trans uY).trans uZ).trans w6).trans w7).trans uS).trans uN1).trans uL1).trans uU1).trans w8).trans uU2).trans uU3).trans w9).trans uN2).trans uL2).trans w10).trans uS2).trans uN3).trans uL3), hv, .lst hL3 jL3, ?_, ?_, ?_⟩
      · simp only [List.length_append, List.length_cons, List.length_nil]; omega
      · simp only [List.length_append, List.length_cons, List.length_nil]; omega
      · intro d hd
        simp only [List.mem_append, List.mem_cons, List.not_mem_nil, or_false] at hd
        rcases hd with ((hd | rfl | rfl | rfl) | rfl | rfl) | rfl | rfl
        · exact bL d hd
        · exact bp
        · exact bp7
        · exact bS
        · exact bU
        · exact bd9
        · exact bp10
        · exact bS2
    · rintro σ H3 ⟨Lp, ds, x3, x4, x5, x6, x7, rfl, w3, hv, jL, l0, l1, bL⟩
      have h3 : (3 : Int).toNat = 3 := rfl
      walk_at "w"
      exact k _ _ _ w3 jL (by omega) bL (by omega)
end
end GJ


set_option Elab.async false
set_option linter.all false
set_option maxRecDepth 100000
set_option maxHeartbeats 4000000
namespace GJ
open PySem PySem.Spec PyProof.Rows L2 TL
set_option pp.maxSteps 300
def tyD : PyData → String
  | .none => "NoneType"
  | .bool _ => "bool"
  | .int _ => "int"
  | .str _ => "str"
  | .list _ => "list"
  | .tuple _ => "tuple"
  | .dict _ => "dict"
theorem DA.ty {K : PySem.W.Frag} {H : Hp} {v : V} {d : PyData} (h : DA H v d) : TyX K H v (.type (tyD d)) := by
  cases h with
  | non => exact .base .non
  | bl b => exact .base (.bl b)
  | int i => exact .base (.int i)
  | str x => exact .base (.str x)
  | lst h _ => exact .base (.lst h)
  | tup h _ => exact .base (.tup h)
def isInt : PyData → Bool
  | .int _ => true
  | _ => false
def isIntB : PyData → Bool
  | .int _ => true
  | .bool _ => true
  | _ => false
def isBool : PyData → Bool
  | .bool _ => true
  | _ => false
def isStr : PyData → Bool
  | .str _ => true
  | _ => false
def isTup : PyData → Bool
  | .tuple _ => true
  | _ => false
def isLst : PyData → Bool
  | .list _ => true
  | _ => false
section
variable {K : PySem.W.Frag} {H : Hp} {v : V} {d : PyData}
theorem k_int (h : DA H v d) : PySem.W.kitOne K (.type (tyD d)) (.type "int") = some (isIntB d) := by
  cases h with
  | non => exact kit_ty (show kitB "NoneType" "int" = some false by decide +kernel)
  | bl b => exact kit_ty (show kitB "bool" "int" = some true by decide +kernel)
  | int i => exact kit_ty (show kitB "int" "int" = some true by decide +kernel)
  | str x => exact kit_ty (show kitB "str" "int" = some false by decide +kernel)
  | lst h r => exact kit_ty (show kitB "list" "int" = some false by decide +kernel)
  | tup h r => exact kit_ty (show kitB "tuple" "int" = some false by decide +kernel)
theorem k_bool (h : DA H v d) : PySem.W.kitOne K (.type (tyD d)) (.type "bool") = some (isBool d) := by
  cases h with
  | non => exact kit_ty (show kitB "NoneType" "bool" = some false by decide +kernel)
  | bl b => exact kit_ty (show kitB "bool" "bool" = some true by decide +kernel)
  | int i => exact kit_ty (show kitB "int" "bool" = some false by decide +kernel)
  | str x => exact kit_ty (show kitB "str" "bool" = some false by decide +kernel)
  | lst h r => exact kit_ty (show kitB "list" "bool" = some false by decide +kernel)
  | tup h r => exact kit_ty (show kitB "tuple" "bool" = some false by decide +kernel)
theorem k_str (h : DA H v d) : PySem.W.kitOne K (.type (tyD d)) (.type "str") = some (isStr d) := by
  cases h with
  | non => exact kit_ty (show kitB "NoneType" "str" = some false by decide +kernel)
  | bl b => exact kit_ty (show kitB "bool" "str" = some false by decide +kernel)
  | int i => exact kit_ty (show kitB "int" "str" = some false by decide +kernel)
  | str x => exact kit_ty (show kitB "str" "str" = some true by decide +kernel)
  | lst h r => exact kit_ty (show kitB "list" "str" = some false by decide +kernel)
  | tup h r => exact kit_ty (show kitB "tuple" "str" = some false by decide +kernel)
theorem k_tup (h : DA H v d) : PySem.W.kitOne K (.type (tyD d)) (.type "tuple") = some (isTup d) := by
  cases h with
  | non => exact kit_ty (show kitB "NoneType" "tuple" = some false by decide +kernel)
  | bl b => exact kit_ty (show kitB "bool" "tuple" = some false by decide +kernel)
  | int i => exact kit_ty (show kitB "int" "tuple" = some false by decide +kernel)
  | str x => exact kit_ty (show kitB "str" "tuple" = some false by decide +kernel)
  | lst h r => exact kit_ty (show kitB "list" "tuple" = some false by decide +kernel)
  | tup h r => exact kit_ty (show kitB "tuple" "tuple" = some true by decide +kernel)
theorem k_lst (h : DA H v d) : PySem.W.kitOne K (.type (tyD d)) (.type "list") = some (isLst d) := by
  cases h with
  | non => exact kit_ty (show kitB "NoneType" "list" = some false by decide +kernel)
  | bl b => exact kit_ty (show kitB "bool" "list" = some false by decide +kernel)
  | int i => exact kit_ty (show kitB "int" "list" = some false by decide +kernel)
  | str x => exact kit_ty (show kitB "str" "list" = some false by decide +kernel)
  | lst h r => exact kit_ty (show kitB "list" "list" = some true by decide +kernel)
  | tup h r => exact kit_ty (show kitB "tuple" "list" = some false by decide +kernel)
end
section
variable {P : Program} {w : World} {K : PySem.W.Frag} {mg : Str → Option Value} {base : Heap}
set_option hygiene false in
local macro_rules | `(tactic| walk_at "w") => `(tactic| repeat (first
  | refine ⟨_, rfl, ?_⟩
  | refine ⟨_, _, rfl, rfl, (by first | decide | omega), fun r r0 r1 re => ?_⟩
  | refine ⟨_, _, rfl, rfl, (by first | exact Or.inl ⟨by omega, by omega⟩ | exact Or.inr ⟨by omega, by omega⟩ : CMul _ _), ?_⟩
  | refine ⟨_, _, rfl, rfl, (by first | exact ⟨by decide, by decide⟩ | exact ⟨by omega, by omega⟩ : CDiv _ _), ?_⟩
  | refine ⟨_, _, rfl, rfl, (by exact ⟨by decide, by decide, by decide⟩ : CPow _ _), ?_⟩
  | refine ⟨_, _, rfl, rfl, ?_⟩
  | refine ⟨(by rfl : scal _ _ = true), ?_⟩
  | refine Or.inl ⟨_, rfl, ?_⟩
  | refine ⟨_, _, rfl, fun m m0 m1 m2 => ?_⟩
  | refine ⟨_, _, _, _, rfl, rfl, SqL.of (by first | assumption | exact upd_same | exact fx _ | exact fy _), rfl, ?_⟩
  | refine ⟨_, _, _, _, rfl, rfl, (by first | assumption | exact upd_same | exact fx _ | exact fy _), rfl, ?_⟩
  | refine ⟨_, _, _, _, rfl, rfl, SqT.of (by first | assumption | exact upd_same | exact fx _ | exact fy _), rfl, ?_⟩
  | refine ⟨(szle (by omega) : Str.length _ ≤ sizeLine), ?_⟩
  | refine ⟨(szle (by first | omega | (rw [sla]; omega) | (rw [sla, sla]; omega)) : Str.length _ + Str.length _ ≤ sizeLine), ?_⟩
  | refine ⟨_, _, rfl, len_lst (by first | assumption | exact upd_same | exact fx _ | exact fy _), ?_⟩))
set_option hygiene false in
local macro_rules | `(tactic| walk_at "if") => `(tactic| (refine ite2 (fun hc => ?_) (fun hc => ?_) <;>
  simp only [decide_eq_true_eq, Bool.not_eq_true', decide_eq_false_iff_not, V.int.injEq, V.str.injEq, V.bl.injEq, Decidable.not_not, Bool.not_eq_true, V.int_ne, Int.not_lt, Int.not_le, Bool.true_eq_false, Bool.false_eq_true, not_true_eq_false, not_false_eq_true] at hc))
set_option hygiene false in
local macro_rules | `(tactic| walk_at "new") => `(tactic| (refine ⟨by first | decide | (simp only [List.length_cons, List.length_nil, List.length_append, List.length_map]; first | decide | (rw [sizeLine_eq]; omega)), fun p np => ?_⟩))
set_option hygiene false in
local macro_rules | `(tactic| walk_at "yes") => `(tactic| refine itY (by first | rfl | exact decide_eq_true (by first | rfl | omega | assumption) | (simp only [decide_eq_true_eq, Bool.not_eq_true', decide_eq_false_iff_not, V.int.injEq, V.str.injEq, V.bl.injEq]; first | omega | assumption)) ?_)
set_option hygiene false in
local macro_rules | `(tactic| walk_at "no") => `(tactic| refine itN (by first | decide | (simp only [decide_eq_true_eq, Bool.not_eq_true', decide_eq_false_iff_not, V.int.injEq, V.str.injEq, V.bl.injEq, Bool.not_eq_true, Decidable.not_not]; first | omega | assumption)) ?_)
def sp_isNumber : Sp := fun vs H Q _ => ∃ (v : V) (d : PyData), vs = [v] ∧ DA H v d ∧ Q (.bl (isInt d)) H
def N_is_number : List Str := ["value"]
theorem sc_is_number : FnScope N_is_number ["value"] (defScope (top 20)) := ⟨rfl, rfl, rfl, by decide +kernel, rfl, by decide +kernel, by decide +kernel⟩
theorem ok_is_number (En : Env K mg fas fns prs) : Ok P w K mg base "is_number" 1 ["value"] sp_isNumber := by
  refine ok_mk 7 20 En sc_is_number (fun _ _ _ _ _ _ us hl => match us, hl with | [_], _ => rfl) (fun vs H Q E h => ?_) (fun f cdv A outer s H vs Q E hr h => ?_)
  · obtain ⟨v, d, rfl, _⟩ := h
    rfl
  · obtain ⟨v, d, rfl, hd, k⟩ := h
    refine ⟨_, (pss_one (ps_ret (pe_and (pe_callB (call_isiK2 (K := K) rfl) (by rfl) (fr_isinstance En) bt_isinstance (pa_cons (pv 0) (pa_cons (pe_bltn (v := .ty "int") (by rfl) (fr_int En) bt_int rfl) pa_nil))) (pe_one (pe_not (pe_callB (call_isiK2 (K := K) rfl) (by rfl) (fr_isinstance En) bt_isinstance (pa_cons (pv 0) (pa_cons (pe_bltn (v := .ty "bool") (by rfl) (fr_bool En) bt_bool rfl) pa_nil)))))))), ?_⟩
    walk_at "w"
    refine ⟨_, _, _, _, _, rfl, .ty _, hd.ty, k_int hd, ?_⟩
    walk_at "w"
    cases hb : isIntB d with
    | false =>
      refine iteF ?_
      rw [show isInt d = false by cases d <;> first | rfl | cases hb] at k
      exact k
    | true =>
      refine iteT ?_
      walk_at "w"
      refine ⟨_, _, _, _, _, rfl, .ty _, hd.ty, k_bool hd, ?_⟩
      rw [show isInt d = !isBool d by cases d <;> first | rfl | cases hb] at k
      exact ⟨_, rfl, k⟩
def N_is_integer : List Str := ["value"]
theorem sc_is_integer : FnScope N_is_integer ["value"] (defScope (top 42)) := ⟨rfl, rfl, rfl, by decide +kernel, rfl, by decide +kernel, by decide +kernel⟩
theorem ok_is_integer (En : Env K mg fas fns prs) : Ok P w K mg base "is_integer" 1 ["value"] sp_isNumber := by
  refine ok_mk 25 42 En sc_is_integer (fun _ _ _ _ _ _ us hl => match us, hl with | [_], _ => rfl) (fun vs H Q E h => ?_) (fun f cdv A outer s H vs Q E hr h => ?_)
  · obtain ⟨v, d, rfl, _⟩ := h
    rfl
  · obtain ⟨v, d, rfl, hd, k⟩ := h
    refine ⟨_, (pss_one (ps_ret (pe_and (pe_callB (call_isiK2 (K := K) rfl) (by rfl) (fr_isinstance En) bt_isinstance (pa_cons (pv 0) (pa_cons (pe_bltn (v := .ty "int") (by rfl) (fr_int En) bt_int rfl) pa_nil))) (pe_one (pe_not (pe_callB (call_isiK2 (K := K) rfl) (by rfl) (fr_isinstance En) bt_isinstance (pa_cons (pv 0) (pa_cons (pe_bltn (v := .ty "bool") (by rfl) (fr_bool En) bt_bool rfl) pa_nil)))))))), ?_⟩
    walk_at "w"
    refine ⟨_, _, _, _, _, rfl, .ty _, hd.ty, k_int hd, ?_⟩
    walk_at "w"
    cases hb : isIntB d with
    | false =>
      refine iteF ?_
      rw [show isInt d = false by cases d <;> first | rfl | cases hb] at k
      exact k
    | true =>
      refine iteT ?_
      walk_at "w"
      refine ⟨_, _, _, _, _, rfl, .ty _, hd.ty, k_bool hd, ?_⟩
      rw [show isInt d = !isBool d by cases d <;> first | rfl | cases hb] at k
      exact ⟨_, rfl, k⟩
def N__law_is_integer : List Str := ["_law_value"]
theorem sc__law_is_integer : FnScope N__law_is_integer ["_law_value"] (defScope (top 69)) := ⟨rfl, rfl, rfl, by decide +kernel, rfl, by decide +kernel, by decide +kernel⟩
theorem ok__law_is_integer (En : Env K mg fas fns prs) : Ok P w K mg base "_law_is_integer" 1 ["_law_value"] sp_isNumber := by
  refine ok_mk 50 69 En sc__law_is_integer (fun _ _ _ _ _ _ us hl => match us, hl with | [_], _ => rfl) (fun vs H Q E h => ?_) (fun f cdv A outer s H vs Q E hr h => ?_)
  · obtain ⟨v, d, rfl, _⟩ := h
    rfl
  · obtain ⟨v, d, rfl, hd, k⟩ := h
    refine ⟨_, (pss_one (ps_ret (pe_and (pe_callB (call_isiK2 (K := K) rfl) (by rfl) (fr_isinstance En) bt_isinstance (pa_cons (pv 0) (pa_cons (pe_bltn (v := .ty "int") (by rfl) (fr_int En) bt_int rfl) pa_nil))) (pe_one (pe_not (pe_callB (call_isiK2 (K := K) rfl) (by rfl) (fr_isinstance En) bt_isinstance (pa_cons (pv 0) (pa_cons (pe_bltn (v := .ty "bool") (by rfl) (fr_bool En) bt_bool rfl) pa_nil)))))))), ?_⟩
    walk_at "w"
    refine ⟨_, _, _, _, _, rfl, .ty _, hd.ty, k_int hd, ?_⟩
    walk_at "w"
    cases hb : isIntB d with
    | false =>
      refine iteF ?_
      rw [show isInt d = false by cases d <;> first | rfl | cases hb] at k
      exact k
    | true =>
      refine iteT ?_
      walk_at "w"
      refine ⟨_, _, _, _, _, rfl, .ty _, hd.ty, k_bool hd, ?_⟩
      rw [show isInt d = !isBool d by cases d <;> first | rfl | cases hb] at k
      exact ⟨_, rfl, k⟩
def sp_consists : Sp := fun vs H Q _ => ∃ (a x : Str), vs = [.str a, .str x] ∧ (tl x).length ≤ 100000 ∧ (∀ c ∈ tl x, c ∈ tl a) ∧ Q (.bl true) H
def N_consists_of : List Str := ["letters", "text"]
theorem sc_consists_of : FnScope N_consists_of ["letters", "text"] (defScope (top 9)) := ⟨rfl, rfl, rfl, by decide +kernel, rfl, by decide +kernel, by decide +kernel⟩
theorem ok_consists_of (En : Env K mg fas fns prs) : Ok P w K mg base "consists_of" 1 ["letters", "text"] sp_consists := by
  refine ok_mk 0 9 En sc_consists_of (fun _ _ _ _ _ _ us hl => match us, hl with | [_, _], _ => rfl) (fun vs H Q E h => ?_) (fun f cdv A outer s H vs Q E hr h => ?_)
  · obtain ⟨a, x, rfl, _⟩ := h
    rfl
  · obtain ⟨a, x, rfl, hl, hc, k⟩ := h
    refine ⟨_, (pss_one (ps_ret (pe_cmpR op_eq (pe_bm PySem.F.plainAttrs_str PySem.F.slot_str_strip PySem.F.type_str_strip mt_stripChars (pv 1) (pa_cons (pv 0) pa_nil)) pe_str (nomark _)))), ?_⟩
    walk_at "w"
    refine ⟨rfl, ?_⟩
    walk_at "w"
    refine ⟨szle (by rw [tl_len]; exact hl), ?_⟩
    walk_at "w"
    rw [strip_all hc]
    exact k
def sp_isLetters : Sp := fun vs H Q _ => ∃ (x : Str), vs = [.str x] ∧ Alpha x ∧ Q (.bl true) H
def N_is_letters : List Str := ["value", "at"]
theorem sc_is_letters : FnScope N_is_letters ["value"] (defScope (top 10)) := ⟨rfl, rfl, rfl, by decide +kernel, rfl, by decide +kernel, by decide +kernel⟩
theorem ok_is_letters (En : Env K mg fas fns prs) : Ok P w K mg base "is_letters" 2 ["value"] sp_isLetters := by
  refine ok_mk 1 10 En sc_is_letters (fun _ _ _ _ _ _ us hl => match us, hl with | [_], _ => rfl) (fun vs H Q E h => ?_) (fun f cdv A outer s H vs Q E hr h => ?_)
  · obtain ⟨x, rfl, _⟩ := h
    rfl
  · obtain ⟨x, rfl, hA, k⟩ := h
    refine ⟨_, (pss_cons
        (ps_if (PW.pt (pw_or (pt_not (pt_val (pe_callB (call_isiK2 (K := K) rfl) (by rfl) (fr_isinstance En) bt_isinstance (pa_cons (pv 0) (pa_cons (pe_bltn (v := .ty "str") (by rfl) (fr_str En) bt_str rfl) pa_nil))))) (pw_or (pt_cmpR op_lt (pe_callB (call_lenK (K := K) rfl) (by rfl) (fr_len En) bt_len (pa_cons (pv 0) pa_nil)) pe_int (nomark _)) (pw_or1 (pt_cmpR op_gt (pe_callB (call_lenK (K := K) rfl) (by rfl) (fr_len En) bt_len (pa_cons (pv 0) pa_nil)) (pe_glob (v := .int 4) rfl (gi_MOST_LETTERS En).choose_spec ⟨_, rfl⟩) (nomark _)))))) (pss_one (ps_ret pe_bl)) pss_nil)
      (pss_cons
        (ps_if (pt_not (pt_val (pe_fn (ok_consists_of En) (hr.mono (by decide)) (pa_cons (pe_glob (v := .str "abcdefghijklmnopqrstuvwxyz") rfl (gi_SMALL En).choose_spec ⟨_, rfl⟩) (pa_cons (pv 0) pa_nil))))) (pss_one (ps_ret pe_bl)) pss_nil)
      (pss_cons
        (ps_for PassesOwn.never rfl (pi_range2 rfl (fr_range En) (pa_cons pe_int (pa_cons (pe_callB (call_lenK (K := K) rfl) (by rfl) (fr_len En) bt_len (pa_cons (pv 0) pa_nil)) pa_nil))) (pg_name (i := 1) sc_is_letters.nd rfl (Or.inl rfl)) (pss_one (ps_if (pt_cmpR op_ge_str (pe_ix ix_str (pv 0) (pe_op op_sub (pv 1) pe_int) (fun _ _ => rfl)) (pe_ix ix_str (pv 0) (pv 1) (fun _ _ => rfl)) (nomark _)) (pss_one (ps_ret pe_bl)) pss_nil)))
      (pss_one
        (ps_ret pe_bl))))), ?_⟩
    have hx : DA H (.str x) (.str x) := .str x
    have hl := hA.le
    have hp : 0 < (tl x).length := List.length_pos_iff.mpr hA.ne
    walk_at "w"
    refine ⟨_, _, _, _, _, rfl, .ty _, hx.ty, k_str hx, ?_⟩
    walk_at "w"
    have ll : x.length = (tl x).length := rfl
    refine ⟨_, _, rfl, len_str (by omega), ?_⟩
    walk_at "w"
    walk_at "no"
    walk_at "w"
    refine ⟨_, _, rfl, len_str (by omega), ?_⟩
    walk_at "w"
    walk_at "no"
    walk_at "w"
    refine ⟨_, _, rfl, by omega, fun c hc => ?_, ?_⟩
    · have := hA.az c hc
      obtain ⟨i, hi⟩ : ∃ i, AB[i]? = some c := ⟨c - 97, by
        rw [AB_eq, List.getElem?_map, List.getElem?_range (by omega)]
        show some (97 + (c - 97)) = some c
        rw [show 97 + (c - 97) = c by omega]⟩
      exact List.mem_of_getElem? hi
    walk_at "w"
    refine ⟨_, _, rfl, len_str (by omega), ?_⟩
    walk_at "w"
    refine ⟨_, _, rfl, ⟨by omega, by omega, by omega, by omega⟩, for_range (lo := 1) (n := ((x.length : Int) - 1).toNat) (fun i σ H' => ∃ y, σ = [some (.str x), y] ∧ H' = H) ?_ ?_ ?_⟩
    · exact ⟨_, rfl, rfl⟩
    · rintro i σ H1 hi ⟨y, rfl, rfl⟩
      have h1 : i < (tl x).length := by omega
      have h2 : i + 1 < (tl x).length := by omega
      have hlt : (tl x)[i] < (tl x)[i + 1] := List.pairwise_iff_getElem.mp hA.up i (i + 1) h1 h2 (by omega)
      have e1 : atI (tl x) (1 + (i : Int) - 1) = some (tl x)[i] := by
        rw [show 1 + (i : Int) - 1 = (i : Int) by omega]
        exact atI_nat (List.getElem?_eq_getElem h1)
      have e2 : atI (tl x) (1 + (i : Int)) = some (tl x)[i + 1] := by
        rw [show 1 + (i : Int) = ((i + 1 : Nat) : Int) by omega]
        exact atI_nat (List.getElem?_eq_getElem h2)
      walk_at "w"
      refine ⟨x, _, _, rfl, rfl, szle (by omega), e1, ?_⟩
      walk_at "w"
      refine ⟨x, _, _, rfl, rfl, szle (by omega), e2, ?_⟩
      walk_at "w"
      refine itN ?_ ⟨_, rfl, rfl⟩
      have : ([(tl x)[i]] : List Nat) < [(tl x)[i + 1]] := List.Lex.rel hlt
      show ¬ (!decide (([(tl x)[i]] : List Nat) < [(tl x)[i + 1]])) = true
      rw [decide_eq_true this]
      decide
    · rintro σ H1 ⟨y, rfl, rfl⟩
      walk_at "w"
      exact k
def sp_isWord : Sp := fun vs H Q _ => ∃ (a x : Str) (n : Nat), vs = [.str a, .str x] ∧ Alpha a ∧ Wo a n x ∧ n ≤ 400 ∧ Q (.bl true) H
def N_is_word : List Str := ["letters", "value"]
theorem sc_is_word : FnScope N_is_word ["letters", "value"] (defScope (top 11)) := ⟨rfl, rfl, rfl, by decide +kernel, rfl, by decide +kernel, by decide +kernel⟩
theorem ok_is_word (En : Env K mg fas fns prs) : Ok P w K mg base "is_word" 3 ["letters", "value"] sp_isWord := by
  refine ok_mk 2 11 En sc_is_word (fun _ _ _ _ _ _ us hl => match us, hl with | [_, _], _ => rfl) (fun vs H Q E h => ?_) (fun f cdv A outer s H vs Q E hr h => ?_)
  · obtain ⟨a, x, n, rfl, _⟩ := h
    rfl
  · obtain ⟨a, x, n, rfl, hA, hx, hn, k⟩ := h
    have dx : DA H (.str x) (.str x) := .str x
    have hxl := hx.1
    refine ⟨_, (pss_one (ps_ret (pe_and (pe_fn (ok_is_letters En) (hr.mono (by decide)) (pa_cons (pv 0) pa_nil)) (pe_and (pe_callB (call_isiK2 (K := K) rfl) (by rfl) (fr_isinstance En) bt_isinstance (pa_cons (pv 1) (pa_cons (pe_bltn (v := .ty "str") (by rfl) (fr_str En) bt_str rfl) pa_nil))) (pe_one (pe_fn (ok_consists_of En) (hr.mono (by decide)) (pa_cons (pv 0) (pa_cons (pv 1) pa_nil)))))))), ?_⟩
    walk_at "w"
    refine ⟨hA, ?_⟩
    walk_at "w"
    refine ⟨_, _, _, _, _, rfl, .ty _, dx.ty, k_str dx, ?_⟩
    walk_at "w"
    exact ⟨a, x, rfl, by omega, hx.2, k⟩
def sp_checkLetters : Sp := fun vs H Q _ => ∃ (a : Str), vs = [.str a] ∧ Alpha a ∧ Q (.str a) H
def N_check_letters : List Str := ["letters"]
theorem sc_check_letters : FnScope N_check_letters ["letters"] (defScope (top 12)) := ⟨rfl, rfl, rfl, by decide +kernel, rfl, by decide +kernel, by decide +kernel⟩
theorem ok_check_letters (En : Env K mg fas fns prs) : Ok P w K mg base "check_letters" 3 ["letters"] sp_checkLetters := by
  refine ok_mk 3 12 En sc_check_letters (fun _ _ _ _ _ _ us hl => match us, hl with | [_], _ => rfl) (fun vs H Q E h => ?_) (fun f cdv A outer s H vs Q E hr h => ?_)
  · obtain ⟨a, rfl, _⟩ := h
    rfl
  · obtain ⟨a, rfl, hA, k⟩ := h
    refine ⟨_, (pss_cons
        (ps_if (pt_not (pt_val (pe_fn (ok_is_letters En) (hr.mono (by decide)) (pa_cons (pv 0) pa_nil)))) (pss_one ps_never) pss_nil)
      (pss_one
        (ps_ret (pv 0)))), ?_⟩
    walk_at "w"
    refine ⟨hA, ?_⟩
    walk_at "w"
    exact k
def sp_checkNumber : Sp := fun vs H Q _ => ∃ (a l m : Int), vs = [.int a, .int l, .int m] ∧ l ≤ a ∧ a ≤ m ∧ Q (.int a) H
def N_check_number : List Str := ["value", "least", "most"]
theorem sc_check_number : FnScope N_check_number ["value", "least", "most"] (defScope (top 21)) := ⟨rfl, rfl, rfl, by decide +kernel, rfl, by decide +kernel, by decide +kernel⟩
theorem ok_check_number (En : Env K mg fas fns prs) : Ok P w K mg base "check_number" 2 ["value", "least", "most"] sp_checkNumber := by
  refine ok_mk 8 21 En sc_check_number (fun _ _ _ _ _ _ us hl => match us, hl with | [_, _, _], _ => rfl) (fun vs H Q E h => ?_) (fun f cdv A outer s H vs Q E hr h => ?_)
  · obtain ⟨a, l, m, rfl, _⟩ := h
    rfl
  · obtain ⟨a, l, m, rfl, h1, h2, k⟩ := h
    refine ⟨_, (pss_cons
        (ps_if (PW.pt (pw_or (pt_not (pt_val (pe_fn (ok_is_number En) (hr.mono (by decide)) (pa_cons (pv 0) pa_nil)))) (pw_or (pt_cmpR op_lt (pv 0) (pv 1) (nomark _)) (pw_or1 (pt_cmpR op_gt (pv 0) (pv 2) (nomark _)))))) (pss_one ps_never) pss_nil)
      (pss_one
        (ps_ret (pv 0)))), ?_⟩
    walk_at "w"
    refine ⟨.int a, .int a, rfl, .int a, ?_⟩
    walk_at "w"
    walk_at "no"
    walk_at "w"
    walk_at "no"
    walk_at "w"
    exact k
def sp_isState : Sp := fun vs H Q _ => ∃ (a m : Int), vs = [.int a, .int m] ∧ 0 ≤ a ∧ a < m ∧ Q (.bl true) H
def N_is_state_of : List Str := ["value", "size"]
theorem sc_is_state_of : FnScope N_is_state_of ["value", "size"] (defScope (top 22)) := ⟨rfl, rfl, rfl, by decide +kernel, rfl, by decide +kernel, by decide +kernel⟩
theorem ok_is_state_of (En : Env K mg fas fns prs) : Ok P w K mg base "is_state_of" 2 ["value", "size"] sp_isState := by
  refine ok_mk 9 22 En sc_is_state_of (fun _ _ _ _ _ _ us hl => match us, hl with | [_, _], _ => rfl) (fun vs H Q E h => ?_) (fun f cdv A outer s H vs Q E hr h => ?_)
  · obtain ⟨a, m, rfl, _⟩ := h
    rfl
  · obtain ⟨a, m, rfl, h1, h2, k⟩ := h
    refine ⟨_, (pss_one (ps_ret (pe_and (pe_fn (ok_is_number En) (hr.mono (by decide)) (pa_cons (pv 0) pa_nil)) (pe_one (pe_chain op_le op_lt pe_int (pv 0) (pv 1)))))), ?_⟩
    walk_at "w"
    refine ⟨.int a, .int a, rfl, .int a, ?_⟩
    walk_at "w"
    rw [decide_eq_true h1]
    refine iteT ?_
    walk_at "w"
    show Q (.bl (decide (a < m))) H
    rw [decide_eq_true h2]
    exact k
def sp_isShort : Sp := fun vs H Q _ => ∃ (a x : Str) (n : Nat), vs = [.str a, .str x] ∧ Alpha a ∧ Wo a n x ∧ n ≤ 400 ∧ Q (.bl true) H
def N_is_short_word : List Str := ["letters", "value"]
theorem sc_is_short_word : FnScope N_is_short_word ["letters", "value"] (defScope (top 23)) := ⟨rfl, rfl, rfl, by decide +kernel, rfl, by decide +kernel, by decide +kernel⟩
theorem ok_is_short_word (En : Env K mg fas fns prs) : Ok P w K mg base "is_short_word" 4 ["letters", "value"] sp_isShort := by
  refine ok_mk 10 23 En sc_is_short_word (fun _ _ _ _ _ _ us hl => match us, hl with | [_, _], _ => rfl) (fun vs H Q E h => ?_) (fun f cdv A outer s H vs Q E hr h => ?_)
  · obtain ⟨a, x, n, rfl, _⟩ := h
    rfl
  · obtain ⟨a, x, n, rfl, hA, hx, hn, k⟩ := h
    have dx : DA H (.str x) (.str x) := .str x
    have hxl : x.length ≤ n := hx.1
    refine ⟨_, (pss_one (ps_ret (pe_and (pe_callB (call_isiK2 (K := K) rfl) (by rfl) (fr_isinstance En) bt_isinstance (pa_cons (pv 1) (pa_cons (pe_bltn (v := .ty "str") (by rfl) (fr_str En) bt_str rfl) pa_nil))) (pe_and (pe_cmpR op_le (pe_callB (call_lenK (K := K) rfl) (by rfl) (fr_len En) bt_len (pa_cons (pv 1) pa_nil)) (pe_glob (v := .int 400) rfl (gi_MOST_WRITTEN En).choose_spec ⟨_, rfl⟩) (nomark _)) (pe_one (pe_fn (ok_is_word En) (hr.mono (by decide)) (pa_cons (pv 0) (pa_cons (pv 1) pa_nil)))))))), ?_⟩
    walk_at "w"
    refine ⟨_, _, _, _, _, rfl, .ty _, dx.ty, k_str dx, ?_⟩
    walk_at "w"
    refine ⟨_, _, rfl, len_str (by omega), ?_⟩
    walk_at "w"
    walk_at "yes"
    walk_at "w"
    exact ⟨a, x, n, rfl, hA, hx, hn, k⟩
def sp_rightSide : Sp := fun vs H Q _ => ∃ (v : V) (e : Side) (n : Int) (wr : Str), vs = [v, .int n, .str wr] ∧ DA H v (sideD e) ∧ SOk n wr 400 e ∧ Alpha wr ∧ Q (.bl true) H
def N_is_right_side : List Str := ["entry", "size", "write"]
theorem sc_is_right_side : FnScope N_is_right_side ["entry", "size", "write"] (defScope (top 24)) := ⟨rfl, rfl, rfl, by decide +kernel, rfl, by decide +kernel, by decide +kernel⟩
theorem ok_is_right_side (En : Env K mg fas fns prs) : Ok P w K mg base "is_right_side" 5 ["entry", "size", "write"] sp_rightSide := by
  refine ok_mk 11 24 En sc_is_right_side (fun _ _ _ _ _ _ us hl => match us, hl with | [_, _, _], _ => rfl) (fun vs H Q E h => ?_) (fun f cdv A outer s H vs Q E hr h => ?_)
  · obtain ⟨v, e, n, wr, rfl, _⟩ := h
    rfl
  · obtain ⟨v, e, n, wr, rfl, hd, ⟨h1, h2, h3⟩, hA, k⟩ := h
    obtain ⟨p, rfl, hp⟩ := hd.side_inv
    refine ⟨_, (pss_cons
        (ps_if (PW.pt (pw_or (pt_not (pt_val (pe_callB (call_isiK2 (K := K) rfl) (by rfl) (fr_isinstance En) bt_isinstance (pa_cons (pv 0) (pa_cons (pe_bltn (v := .ty "tuple") (by rfl) (fr_tuple En) bt_tuple rfl) pa_nil))))) (pw_or1 (pt_cmpR op_ne (pe_callB (call_lenK (K := K) rfl) (by rfl) (fr_len En) bt_len (pa_cons (pv 0) pa_nil)) pe_int (nomark _))))) (pss_one (ps_ret pe_bl)) pss_nil)
      (pss_one
        (ps_ret (pe_and (pe_fn (ok_is_state_of En) (hr.mono (by decide)) (pa_cons (pe_ix (ix_tupK (K := K) rfl) (pv 0) pe_int (fun _ _ => rfl)) (pa_cons (pv 1) pa_nil))) (pe_one (pe_fn (ok_is_short_word En) (hr.mono (by decide)) (pa_cons (pv 2) (pa_cons (pe_ix (ix_tupK (K := K) rfl) (pv 0) pe_int (fun _ _ => rfl)) pa_nil)))))))), ?_⟩
    walk_at "w"
    refine ⟨_, _, _, _, _, rfl, .ty _, hd.ty, k_tup hd, ?_⟩
    walk_at "w"
    refine ⟨_, _, rfl, len_tup hp, ?_⟩
    walk_at "w"
    refine ⟨_, _, rfl, h1, h2, ?_⟩
    walk_at "w"
    exact ⟨wr, e.2, 400, rfl, hA, h3, by decide, k⟩
end
end GJ


set_option Elab.async false
set_option linter.all false
set_option maxRecDepth 100000
set_option maxHeartbeats 4000000
namespace GJ
open PySem PySem.Spec PyProof.Rows L2 TL
set_option pp.maxSteps 300
section
variable {P : Program} {w : World} {K : PySem.W.Frag} {mg : Str → Option Value} {base : Heap}
set_option hygiene false in
local macro_rules | `(tactic| walk_at "w") => `(tactic| repeat (first
  | refine ⟨_, rfl, ?_⟩
  | refine ⟨_, _, rfl, rfl, (by first | decide | omega), fun r r0 r1 re => ?_⟩
  | refine ⟨_, _, rfl, rfl, (by first | exact Or.inl ⟨by omega, by omega⟩ | exact Or.inr ⟨by omega, by omega⟩ : CMul _ _), ?_⟩
  | refine ⟨_, _, rfl, rfl, (by first | exact ⟨by decide, by decide⟩ | exact ⟨by omega, by omega⟩ : CDiv _ _), ?_⟩
  | refine ⟨_, _, rfl, rfl, (by exact ⟨by decide, by decide, by decide⟩ : CPow _ _), ?_⟩
  | refine ⟨_, _, rfl, rfl, ?_⟩
  | refine ⟨(by rfl : scal _ _ = true), ?_⟩
  | refine Or.inl ⟨_, rfl, ?_⟩
  | refine ⟨_, _, rfl, fun m m0 m1 m2 => ?_⟩
  | refine ⟨_, _, _, _, rfl, rfl, SqL.of (by first | assumption | exact upd_same | exact fx _ | exact fy _), rfl, ?_⟩
  | refine ⟨_, _, _, _, rfl, rfl, (by first | assumption | exact upd_same | exact fx _ | exact fy _), rfl, ?_⟩
  | refine ⟨_, _, _, _, rfl, rfl, SqT.of (by first | assumption | exact upd_same | exact fx _ | exact fy _), rfl, ?_⟩
  | refine ⟨(szle (by omega) : Str.length _ ≤ sizeLine), ?_⟩
  | refine ⟨(szle (by first | omega | (rw [sla]; omega) | (rw [sla, sla]; omega)) : Str.length _ + Str.length _ ≤ sizeLine), ?_⟩
  | refine ⟨_, _, rfl, len_lst (by first | assumption | exact upd_same | exact fx _ | exact fy _), ?_⟩))
set_option hygiene false in
local macro_rules | `(tactic| walk_at "if") => `(tactic| (refine ite2 (fun hc => ?_) (fun hc => ?_) <;>
  simp only [decide_eq_true_eq, Bool.not_eq_true', decide_eq_false_iff_not, V.int.injEq, V.str.injEq, V.bl.injEq, Decidable.not_not, Bool.not_eq_true, V.int_ne, Int.not_lt, Int.not_le, Bool.true_eq_false, Bool.false_eq_true, not_true_eq_false, not_false_eq_true] at hc))
set_option hygiene false in
local macro_rules | `(tactic| walk_at "new") => `(tactic| (refine ⟨by first | decide | (simp only [List.length_cons, List.length_nil, List.length_append, List.length_map]; first | decide | (rw [sizeLine_eq]; omega)), fun p np => ?_⟩))
set_option hygiene false in
local macro_rules | `(tactic| walk_at "yes") => `(tactic| refine itY (by first | rfl | exact decide_eq_true (by first | rfl | omega | assumption) | (simp only [decide_eq_true_eq, Bool.not_eq_true', decide_eq_false_iff_not, V.int.injEq, V.str.injEq, V.bl.injEq]; first | omega | assumption)) ?_)
set_option hygiene false in
local macro_rules | `(tactic| walk_at "no") => `(tactic| refine itN (by first | decide | (simp only [decide_eq_true_eq, Bool.not_eq_true', decide_eq_false_iff_not, V.int.injEq, V.str.injEq, V.bl.injEq, Bool.not_eq_true, Decidable.not_not]; first | omega | assumption)) ?_)
def sp_rightArc : Sp := fun vs H Q _ => ∃ (v : V) (e : Arc) (n : Int) (rd wr : Str), vs = [v, .int n, .str rd, .str wr] ∧ DA H v (arcD e) ∧ AOk n rd wr 400 e ∧ Alpha wr ∧ Q (.bl true) H
def N_is_right_arc : List Str := ["entry", "size", "read", "write", "source", "letter", "word", "target"]
theorem sc_is_right_arc : FnScope N_is_right_arc ["entry", "size", "read", "write"] (defScope (top 25)) := ⟨rfl, rfl, rfl, by decide +kernel, rfl, by decide +kernel, by decide +kernel⟩
theorem ok_is_right_arc (En : Env K mg fas fns prs) : Ok P w K mg base "is_right_arc" 5 ["entry", "size", "read", "write"] sp_rightArc := by
  refine ok_mk 12 25 En sc_is_right_arc (fun _ _ _ _ _ _ us hl => match us, hl with | [_, _, _, _], _ => rfl) (fun vs H Q E h => ?_) (fun f cdv A outer s H vs Q E hr h => ?_)
  · obtain ⟨v, e, n, rd, wr, rfl, _⟩ := h
    rfl
  · obtain ⟨v, ⟨e1, e2, e3, e4⟩, n, rd, wr, rfl, hd, ⟨⟨h1, h2⟩, ⟨c, hc, h3⟩, h4, h5, h6⟩, hA, k⟩ := h
    obtain ⟨p, rfl, hp⟩ := hd.arc_inv
    simp only at h1 h2 h3 h4 h5 h6 hp
    subst h3
    have hL : DA H (.str ⟨#[c]⟩) (.str ⟨#[c]⟩) := .str _
    refine ⟨_, (pss_cons
        (ps_if (PW.pt (pw_or (pt_not (pt_val (pe_callB (call_isiK2 (K := K) rfl) (by rfl) (fr_isinstance En) bt_isinstance (pa_cons (pv 0) (pa_cons (pe_bltn (v := .ty "tuple") (by rfl) (fr_tuple En) bt_tuple rfl) pa_nil))))) (pw_or1 (pt_cmpR op_ne (pe_callB (call_lenK (K := K) rfl) (by rfl) (fr_len En) bt_len (pa_cons (pv 0) pa_nil)) pe_int (nomark _))))) (pss_one (ps_ret pe_bl)) pss_nil)
      (pss_cons
        (ps_asg (pv 0) (pg_tup rfl (pgs_cons (pg_name (i := 4) sc_is_right_arc.nd rfl (Or.inl rfl)) (pgs_cons (pg_name (i := 5) sc_is_right_arc.nd rfl (Or.inl rfl)) (pgs_cons (pg_name (i := 6) sc_is_right_arc.nd rfl (Or.inl rfl)) (pgs_cons (pg_name (i := 7) sc_is_right_arc.nd rfl (Or.inl rfl)) pgs_nil))))))
      (pss_cons
        (ps_if (PW.pt (pw_or (pt_not (pt_val (pe_callB (call_isiK2 (K := K) rfl) (by rfl) (fr_isinstance En) bt_isinstance (pa_cons (pv 5) (pa_cons (pe_bltn (v := .ty "str") (by rfl) (fr_str En) bt_str rfl) pa_nil))))) (pw_or (pt_cmpR op_ne (pe_callB (call_lenK (K := K) rfl) (by rfl) (fr_len En) bt_len (pa_cons (pv 5) pa_nil)) pe_int (nomark _)) (pw_or1 (pt_cmpR op_notIn_sign (pv 5) (pv 2) rfl))))) (pss_one (ps_ret pe_bl)) pss_nil)
      (pss_one
        (ps_ret (pe_and (pe_fn (ok_is_state_of En) (hr.mono (by decide)) (pa_cons (pv 4) (pa_cons (pv 1) pa_nil))) (pe_and (pe_fn (ok_is_short_word En) (hr.mono (by decide)) (pa_cons (pv 3) (pa_cons (pv 6) pa_nil))) (pe_one (pe_fn (ok_is_state_of En) (hr.mono (by decide)) (pa_cons (pv 7) (pa_cons (pv 1) pa_nil))))))))))), ?_⟩
    walk_at "w"
    refine ⟨_, _, _, _, _, rfl, .ty _, hd.ty, k_tup hd, ?_⟩
    walk_at "w"
    refine ⟨_, _, rfl, len_tup hp, ?_⟩
    walk_at "w"
    refine ⟨p, _, rfl, SqT.of hp, rfl, ?_⟩
    refine ⟨_, _, rfl, _, _, rfl, _, _, rfl, _, _, rfl, rfl, ?_⟩
    walk_at "w"
    refine ⟨_, _, _, _, _, rfl, .ty _, hL.ty, k_str hL, ?_⟩
    walk_at "w"
    refine ⟨_, _, rfl, len_str (z := ⟨#[c]⟩) (Nat.le_of_ble_eq_true rfl), ?_⟩
    walk_at "w"
    refine itN ?_ ?_
    · show ¬ (!decide (c ∈ tl rd)) = true
      rw [decide_eq_true hc]
      decide
    walk_at "w"
    refine ⟨_, _, rfl, h1, h2, ?_⟩
    walk_at "w"
    refine ⟨wr, e3, 400, rfl, hA, h4, by decide, ?_⟩
    walk_at "w"
    exact ⟨_, _, rfl, h5, h6, k⟩
def sp_wordKey : Sp := fun vs H Q _ => ∃ (x : Str), vs = [.str x] ∧ (tl x).length ≤ 400 ∧ ∀ v H', Same H H' → DA H' v (.tuple [.int (tl x).length, .str x]) → Q v H'
def N_word_key : List Str := ["word"]
theorem sc_word_key : FnScope N_word_key ["word"] (defScope (top 13)) := ⟨rfl, rfl, rfl, by decide +kernel, rfl, by decide +kernel, by decide +kernel⟩
theorem ok_word_key (En : Env K mg fas fns prs) : Ok P w K mg base "word_key" 1 ["word"] sp_wordKey := by
  refine ok_mk 4 13 En sc_word_key (fun _ _ _ _ _ _ us hl => match us, hl with | [_], _ => rfl) (fun vs H Q E h => ?_) (fun f cdv A outer s H vs Q E hr h => ?_)
  · obtain ⟨x, rfl, _⟩ := h
    rfl
  · obtain ⟨x, rfl, hl, k⟩ := h
    refine ⟨_, (pss_one (ps_ret (pe_tup (pa_cons (pe_callB (call_lenK (K := K) rfl) (by rfl) (fr_len En) bt_len (pa_cons (pv 0) pa_nil)) (pa_cons (pv 0) pa_nil))))), ?_⟩
    walk_at "w"
    refine ⟨_, _, rfl, len_str (by rw [tl_len]; omega), ?_⟩
    walk_at "w"
    refine ⟨szr rfl, fun p np => ?_⟩
    exact k _ _ (Same.new np) (.tup upd_same (.cons (.int _) (.one (.str _))))
def sideK (e : Side) : PyData := .tuple [.int e.1, .tuple [.int (tl e.2).length, .str e.2]]
def arcK (e : Arc) : PyData := .tuple [.int e.1, .str e.2.1, .tuple [.int (tl e.2.2.1).length, .str e.2.2.1], .int e.2.2.2]
def sp_sideKey : Sp := fun vs H Q _ => ∃ (v : V) (e : Side), vs = [v] ∧ DA H v (sideD e) ∧ (tl e.2).length ≤ 400 ∧ ∀ v H', Same H H' → DA H' v (sideK e) → Q v H'
def N_side_key : List Str := ["entry"]
theorem sc_side_key : FnScope N_side_key ["entry"] (defScope (top 29)) := ⟨rfl, rfl, rfl, by decide +kernel, rfl, by decide +kernel, by decide +kernel⟩
theorem ok_side_key (En : Env K mg fas fns prs) : Ok P w K mg base "side_key" 2 ["entry"] sp_sideKey := by
  refine ok_mk 16 29 En sc_side_key (fun _ _ _ _ _ _ us hl => match us, hl with | [_], _ => rfl) (fun vs H Q E h => ?_) (fun f cdv A outer s H vs Q E hr h => ?_)
  · obtain ⟨v, e, rfl, _⟩ := h
    rfl
  · obtain ⟨v, e, rfl, hd, hl, k⟩ := h
    obtain ⟨p, rfl, hp⟩ := hd.side_inv
    refine ⟨_, (pss_one (ps_ret (pe_tup (pa_cons (pe_ix (ix_tupK (K := K) rfl) (pv 0) pe_int (fun _ _ => rfl)) (pa_cons (pe_fn (ok_word_key En) (hr.mono (by decide)) (pa_cons (pe_ix (ix_tupK (K := K) rfl) (pv 0) pe_int (fun _ _ => rfl)) pa_nil)) pa_nil))))), ?_⟩
    walk_at "w"
    refine ⟨hl, fun v1 H1 s1 d1 => ?_⟩
    walk_at "w"
    refine ⟨szr rfl, fun q nq => ?_⟩
    exact k _ _ (s1.trans (Same.new nq)) (.tup upd_same (.cons (.int _) (.one (d1.up (Same.new nq)))))
def sp_arcKey : Sp := fun vs H Q _ => ∃ (v : V) (e : Arc), vs = [v] ∧ DA H v (arcD e) ∧ (tl e.2.2.1).length ≤ 400 ∧ ∀ v H', Same H H' → DA H' v (arcK e) → Q v H'
def N_arc_key : List Str := ["entry"]
theorem sc_arc_key : FnScope N_arc_key ["entry"] (defScope (top 30)) := ⟨rfl, rfl, rfl, by decide +kernel, rfl, by decide +kernel, by decide +kernel⟩
theorem ok_arc_key (En : Env K mg fas fns prs) : Ok P w K mg base "arc_key" 2 ["entry"] sp_arcKey := by
  refine ok_mk 17 30 En sc_arc_key (fun _ _ _ _ _ _ us hl => match us, hl with | [_], _ => rfl) (fun vs H Q E h => ?_) (fun f cdv A outer s H vs Q E hr h => ?_)
  · obtain ⟨v, e, rfl, _⟩ := h
    rfl
  · obtain ⟨v, e, rfl, hd, hl, k⟩ := h
    obtain ⟨p, rfl, hp⟩ := hd.arc_inv
    refine ⟨_, (pss_one (ps_ret (pe_tup (pa_cons (pe_ix (ix_tupK (K := K) rfl) (pv 0) pe_int (fun _ _ => rfl)) (pa_cons (pe_ix (ix_tupK (K := K) rfl) (pv 0) pe_int (fun _ _ => rfl)) (pa_cons (pe_fn (ok_word_key En) (hr.mono (by decide)) (pa_cons (pe_ix (ix_tupK (K := K) rfl) (pv 0) pe_int (fun _ _ => rfl)) pa_nil)) (pa_cons (pe_ix (ix_tupK (K := K) rfl) (pv 0) pe_int (fun _ _ => rfl)) pa_nil))))))), ?_⟩
    walk_at "w"
    refine ⟨hl, fun v1 H1 s1 d1 => ?_⟩
    have hp1 := s1 _ _ hp
    walk_at "w"
    refine ⟨szr rfl, fun q nq => ?_⟩
    exact k _ _ (s1.trans (Same.new nq)) (.tup upd_same (.cons (.int _) (.cons (.str _) (.cons (d1.up (Same.new nq)) (.one (.int _))))))
def sp_checkMany : Sp := fun vs H Q _ => ∃ (x v : V) (ds : List PyData), vs = [x, v] ∧ DA H v (.list ds) ∧ ds.length ≤ 400 ∧ ∀ H', Same H H' → Q .non H'
def N_check_many : List Str := ["place", "value"]
theorem sc_check_many : FnScope N_check_many ["place", "value"] (defScope (top 26)) := ⟨rfl, rfl, rfl, by decide +kernel, rfl, by decide +kernel, by decide +kernel⟩
theorem ok_check_many (En : Env K mg fas fns prs) : Ok P w K mg base "check_many" 1 ["place", "value"] sp_checkMany := by
  refine ok_mk 13 26 En sc_check_many (fun _ _ _ _ _ _ us hl => match us, hl with | [_, _], _ => rfl) (fun vs H Q E h => ?_) (fun f cdv A outer s H vs Q E hr h => ?_)
  · obtain ⟨x, v, ds, rfl, _⟩ := h
    rfl
  · obtain ⟨x, v, ds, rfl, hd, hl, k⟩ := h
    obtain ⟨p, xs, rfl, hp, hx⟩ := hd.lst_inv
    refine ⟨_, (pss_cons
        (ps_if (pt_not (pt_val (pe_callB (call_isiTK (K := K) rfl) (by rfl) (fr_isinstance En) bt_isinstance (pa_cons (pv 1) (pa_cons (pe_tup (pa_cons (pe_bltn (v := .ty "list") (by rfl) (fr_list En) bt_list rfl) (pa_cons (pe_bltn (v := .ty "tuple") (by rfl) (fr_tuple En) bt_tuple rfl) pa_nil))) pa_nil))))) (pss_one ps_never) pss_nil)
      (pss_one
        (ps_if (pt_cmpR op_gt (pe_callB (call_lenK (K := K) rfl) (by rfl) (fr_len En) bt_len (pa_cons (pv 1) pa_nil)) (pe_glob (v := .int 400) rfl (gi_MOST_ENTRIES En).choose_spec ⟨_, rfl⟩) (nomark _)) (pss_one ps_never) pss_nil))), ?_⟩
    walk_at "w"
    refine ⟨szr rfl, fun q nq => ?_⟩
    have hq : upd H q (.tup [.ty "list", .ty "tuple"]) q = _ := upd_same
    have hd2 := hd.up (Same.new (o := .tup [.ty "list", .ty "tuple"]) nq)
    walk_at "w"
    refine ⟨_, q, _, _, _, true, rfl, hq, .cons (.ty _) (.cons (.ty _) .nil), hd2.ty, kitAny_cons (k_lst hd2) (fun h => nomatch h) (fun _ => rfl), ?_⟩
    walk_at "w"
    have hpq := (Same.new (o := .tup [.ty "list", .ty "tuple"]) nq) _ _ hp
    have hlx := hx.len
    refine ⟨_, _, rfl, len_lst hpq, ?_⟩
    walk_at "w"
    walk_at "no"
    exact k _ (Same.new nq)
end
end GJ


set_option Elab.async false
set_option linter.all false
set_option maxRecDepth 100000
set_option maxHeartbeats 4000000
namespace GJ
open PySem PySem.Spec PyProof.Rows L2
section
variable {X : Cx} {pins : List (Addr × Obj)} {σ : L2.St} {H : Hp} {s : Shared} {E : Value → Shared → Prop}
/-- D[b] = z where D has tuples of letters and texts as keys -/
def PutT (H : Hp) (D : Addr) (y z : V) (H' : Hp) : Prop := ∃ (kvs : List (List Key × V)) (k : List Key) (b : Addr), H D = some (.dT kvs) ∧ y = .ref b ∧ H b = some (.tup (k.map kV)) ∧ kvs.length < sizeLine ∧ H' = upd H D (.dT (putK kvs k z))
theorem room_of {P : Program} {w : World} {A : Around} (hu : A.units < cLine) : (tupleKind (mixKind P w)).room A := hu
theorem putT_run {D : Addr} {y z : V} {u r : Value} {H' : Hp} {Q : Unit → Shared → Prop} (hu : X.A.units < cLine) (I : Inv X pins σ H s) (g : PutT H D y z H') (ry : RelV y u) (rz : RelV z r) (h : ∀ s', Inv X pins σ H' s' → Q () s') :
    wpAny (model X.prog X.w) X.A (dictSet D u r) Q E s := by
  obtain ⟨kvs, k, b, hD, rfl, hb, hl, rfl⟩ := g
  obtain rfl : u = Value.ref b := ry
  obtain ⟨le, nm, xs, rel, dd⟩ := dt_of I.hok hD
  have lx : xs.length ≤ sizeLine := by rw [← Paired.length rel]; exact le
  have lp : (putK kvs k z).length ≤ sizeLine := by
    have := length_putK kvs k z
    omega
  have kk := key_of I.hok hb
  unfold dictSet
  refine wpAny_holding (wpAny_bind ((tupleKind (mixKind X.prog X.w)).pyHash (room_of hu) kk ?_))
  refine wpAny_dictSetHashed_heap (s := { s with toks := _ }) (hsz := lx) (room_of hu) kk dd fun h' dd' sb => h _ ?_
  obtain ⟨o, es, ep, q1, q2, q3, q4, _, q5⟩ := dd'
  refine d_write (I.tok _) (by rw [hD]; exact True.intro) sb ⟨o, q1⟩ ⟨lp, nm, _, (rel.put k hb rz).keeps fun c ys ec => ?_, o, es, ep, q1, q2, q3, q4, q5⟩
  rw [upd_ne (ne_of ec hD fun q => nomatch q)]
  exact ec
/-- {key: value for target in iter if ..}, the keys tuples; D is the dict -/
def tDcT (wi : TI) (g : TG) (tt : TT) (tk tv : TE) (vs : List Nat) : TE := fun σ H Q => wi σ H fun J H1 => ∀ D, H1 D = none → ∃ W : Nat → Nat → Hp → Prop, (∃ m, W 0 m (upd H1 D (.dT []))) ∧ ∀ i m H, W i m H →
  (J.stop i H ∧ Q (.ref D) H) ∨ (J.go i H ∧ ∃ Nx : Hp → Prop, (∀ H', Nx H' → ∃ m', m' < m ∧ W (i + 1) m' H') ∧ ∀ x H', J.yld i H x H' → g x (wipe σ vs) H' fun σ2 H2 => wipe σ2 vs = wipe σ vs ∧ tt σ2 H2 fun b H3 =>
    if b = true then tk σ2 H3 fun y H4 => tv σ2 H4 fun z H5 => ∃ H6, PutT H5 D y z H6 ∧ Nx H6 else Nx H3)
theorem dcT_core {kx vx tg iter : Expr} {ifs : List Expr} {scope : Scope} {own : List (Str × Nat)} {pos pos' : Pos} {wi : TI} {g : TG} {tt : TT} {tk tv : TE} {use : Option (Value → Sem Unit)} {Qf : Value → Shared → Prop} {Q : VK} (hc : X.calm = true) (hN : X.N.Nodup) (I : Inv X pins σ H s) (hi : PI X tg iter wi) (ok : BlkOk X.N X.env.scope scope own) (hu : X.A.units < cLine)
    (hg : ∀ (s : Shared) (H : Hp) (C : Addr) (cl : List (Str × Addr)) (fp : List Addr), PG (X.blk s H scope (compEnvC scope cl C X.env) fp) tg g)
    (ht : ∀ (s : Shared) (H : Hp) (C : Addr) (cl : List (Str × Addr)) (fp : List Addr), PTs (X.blk s H scope (compEnvC scope cl C X.env) fp) ifs tt)
    (hk : ∀ (s : Shared) (H : Hp) (C : Addr) (cl : List (Str × Addr)) (fp : List Addr), PE (X.blk s H scope (compEnvC scope cl C X.env) fp) kx tk)
    (hv : ∀ (s : Shared) (H : Hp) (C : Addr) (cl : List (Str × Addr)) (fp : List Addr), PE (X.blk s H scope (compEnvC scope cl C X.env) fp) vx tv)
    (hs : ∀ x, foldedSetIterable iter X.env x = pure x) (h : tDcT wi g tt tk tv (own.map (·.2)) σ H Q)
    (last : ∀ (D C : Addr) (s' : Shared) (m : Str → Option Value) (H' : Hp), Inv X pins σ H' s' → Q (.ref D) H' → s'.heap.Ns C m → FpOk X pins H' C → compPost (model X.prog X.w) X.A X.xe use Qf (.ref D) C (.ok .next) s') :
    wpAny (model X.prog X.w) X.A (comprehension (.DictComp kx vx [⟨tg, iter, ifs, 0⟩] scope pos) scope X.env pos' newDict false (eval iter X.env) use) Qf X.xe s := by
  have cells : ∀ y ∈ scope.names, y.2 = .free → ∃ c, X.env.cells.lookup y.1 = some c := fun y hy e => (ok.free y hy e).elim (fun k => I.ok.has _ (.inl k)) (fun k => I.ok.has _ (.inr k))
  refine wpAny_comprehension_free (use := use) rfl hs (closure_ok cells) ok.kind (fun y hy e => by rw [ok.uniq y hy, e]) (thn (hi.run pins s σ H _ I h) fun _ s1 q1 => thn q1 fun _ s2 q2 => ?_)
  obtain ⟨it, fp, tn, J, H2, rfl, I2, T, t2, f2, q⟩ := q2
  refine wpAny_newObj_type (newEnv_comp ?_)
  -- the dict's place
  obtain ⟨D, hD⟩ : ∃ D, D = s2.heap.objs.size := ⟨_, rfl⟩
  rw [← hD]
  obtain ⟨W, ⟨m0, w0⟩, turn⟩ := q D (I2.hok.fresh (Nat.le_of_eq hD.symm))
  obtain ⟨s3, hs3⟩ : ∃ s3 : Shared, s3 = { s2 with heap := s2.heap.push { cls := .type "dict", data := .dict #[] } } := ⟨_, rfl⟩
  have heap3 : s3.heap = s2.heap.push { cls := .type "dict", data := .dict #[] } := by rw [hs3]
  have I3 : Inv X pins σ (upd H2 D (.dT [])) s3 := by
    rw [hs3]
    refine I2.laid (t' := s2.toks) (fun b o e => Heap.get?_push_of_some _ e) (Nat.le_of_eq hD.symm) ?_
    rw [hD]
    exact dt_empty s2.heap I2.big
  have small : ∀ b ∈ fp, b < s2.heap.objs.size := fun b hb => by
    obtain ⟨o, e, _⟩ := T.obj _ _ t2 b hb
    exact Heap.lt_size e
  have f3 : ∀ b ∈ fp, FpOk X pins (upd H2 D (.dT [])) b ∧ b < s3.heap.objs.size := fun b hb => by
    have lt := small b hb
    refine ⟨⟨?_, (f2 b hb).2⟩, by rw [heap3, Heap.size_push]; exact Nat.lt_succ_of_lt lt⟩
    rw [upd_ne (by rw [hD]; exact Nat.ne_of_lt lt)]
    exact (f2 b hb).1
  have t3 : tn 0 s3.heap := T.keep _ _ _ t2 fun b _ o e => by rw [heap3]; exact Heap.get?_push_of_some _ e
  have free3 : ∀ b ∈ fp, upd H2 D (.dT []) b = none := fun b hb => (f3 b hb).1.1
  obtain ⟨C, hC⟩ : ∃ C, C = s3.heap.objs.size := ⟨_, rfl⟩
  obtain ⟨H3, hH3⟩ : ∃ H3, H3 = upd H2 D (.dT []) := ⟨_, rfl⟩
  rw [← hH3] at I3 f3 free3 w0
  have I4 := block_start I3 ok hN f3
  have pg := hg s3 H3 C (cellsFrom (C + 1) scope.names (cloFrom X.env.cells scope.names [])) fp
  have pt := ht s3 H3 C (cellsFrom (C + 1) scope.names (cloFrom X.env.cells scope.names [])) fp
  have pk := hk s3 H3 C (cellsFrom (C + 1) scope.names (cloFrom X.env.cells scope.names [])) fp
  have pw := hv s3 H3 C (cellsFrom (C + 1) scope.names (cloFrom X.env.cells scope.names [])) fp
  rw [← hC] at I4
  have e4 : ({ s2 with heap := pushCells ((s2.heap.push { cls := .type "dict", data := .dict #[] }).push { cls := .type "dict", data := .dict #[] }) scope.names } : Shared) = { s3 with heap := pushCells (s3.heap.push { cls := .type "dict", data := .dict #[] }) scope.names } := by rw [hs3]
  rw [e4, ← heap3, ← hC]
  show codeAny _ _ (.compStart (.DictComp kx vx [⟨tg, iter, ifs, 0⟩] scope pos) 0 (.ref it) (.ref D) (compEnvC scope (cellsFrom (C + 1) scope.names (cloFrom X.env.cells scope.names [])) C X.env)) (compPost (model X.prog X.w) X.A X.xe use Qf (.ref D) C) _
  obtain ⟨ce, hce⟩ : ∃ ce, ce = compEnvC scope (cellsFrom (C + 1) scope.names (cloFrom X.env.cells scope.names [])) C X.env := ⟨_, rfl⟩
  rw [← hce] at I4 pg pt pk pw ⊢
  have loc : ce.locals = C := by rw [hce]; rfl
  obtain ⟨s4, hs4⟩ : ∃ s4 : Shared, s4 = { s3 with heap := pushCells (s3.heap.push { cls := .type "dict", data := .dict #[] }) scope.names } := ⟨_, rfl⟩
  rw [← hs4] at I4 ⊢
  have t4 : tn 0 s4.heap := T.keep _ _ _ t3 fun b _ o e => by rw [hs4]; exact pushCells_keeps _ _ _ _ (Heap.get?_push_of_some _ e)
  obtain ⟨Bx, hB⟩ : ∃ Bx, Bx = X.blk s3 H3 scope ce fp := ⟨_, rfl⟩
  have own_ok : ∀ {σ' : L2.St} {H' : Hp} {s' : Shared}, Inv (X.blk s3 H3 scope ce fp) [] σ' H' s' → (∀ b ∈ fp, H' b = none) → ∀ b ∈ fp, FpOk (X.blk s3 H3 scope ce fp) [] H' b := fun I' hn b hb =>
    ⟨hn b hb, (I'.ok.exf b hb).1, I'.ok.exfs b hb, .inl hb, fun x c e => (I'.ok.exf b hb).2 x c e, fun p hp => absurd (show p ∈ ([] : List (Addr × Obj)) ++ [] from hp) (by simp)⟩
  have loop : codeAny (model X.prog X.w) X.A (.compLoop (.DictComp kx vx [⟨tg, iter, ifs, 0⟩] scope pos) 0 (.ref it) (.ref D) ce) (compPost (model X.prog X.w) X.A X.xe use Qf (.ref D) C) s4 := by
    refine compLoop_anyD (fun n s' => ∃ i H', Inv (X.blk s3 H3 scope ce fp) [] (wipe σ (own.map (·.2))) H' s' ∧ tn i s'.heap ∧ (∀ b ∈ fp, H' b = none) ∧ W i n H') (fun n s5 hI => ?_) m0 ⟨0, H3, I4, t4, free3, w0⟩
    obtain ⟨i, H5, I5, t5, n5, w5⟩ := hI
    cases turn i n H5 w5 with
    | inl over =>
      refine thnF (T.done (X.blk s3 H3 scope ce fp) rfl rfl rfl hc i [] s5 _ H5 (fun _ _ => False) I5 (own_ok I5 n5) t5 over.1) fun r s6 hr => ?_
      obtain ⟨rfl, I6⟩ := hr
      have I7 : Inv X pins σ H5 s6 := I3.call' (ch := fp) I6.os I6.base I6.hok I6.bare fun b hb => ⟨(f3 b hb).1.2.2.2.1, (f3 b hb).1.2.1, (f3 b hb).1.2.2.2.2.1, (f3 b hb).1.2.2.2.2.2⟩
      have noC : H5 C = none := by
        have := I6.free
        rw [show (X.blk s3 H3 scope ce fp).env.locals = C from loc] at this
        exact this
      obtain ⟨m, hm, _⟩ := I6.loc
      rw [show (X.blk s3 H3 scope ce fp).env.locals = C from loc] at hm
      exact last D C s6 m H5 I7 over.2 hm (I3.fpOk (Nat.le_of_eq hC.symm) noC)
    | inr more =>
      obtain ⟨go, Nx, hNx, step⟩ := more
      refine thnF (T.item (X.blk s3 H3 scope ce fp) rfl rfl rfl hc i [] s5 _ H5 (fun _ _ => False) I5 (own_ok I5 n5) t5 go) fun r s6 q6 => ?_
      obtain ⟨u, rfl, q6⟩ := q6
      refine thnF q6 fun _ s7 q7 => ?_
      obtain ⟨x, H7, I7, r7, y7, t7, n7⟩ := q7
      refine thnF (pg.run _ s7 _ H7 x u _ (I7.pinned (own_ok I7 n7) (T.obj _ _ t7)) r7 (step x H7 y7)) fun _ s8 q8 => ?_
      obtain ⟨σ8, H8, I8, e8, q8⟩ := q8
      refine thnF (pt.run _ s8 σ8 H8 _ I8 q8) fun b s9 q9 => ?_
      obtain ⟨H9, I9, q9⟩ := q9
      have next : ∀ {s' : Shared} {H' : Hp}, Inv (X.blk s3 H3 scope ce fp) ([] ++ pinsAt fp s7.heap) σ8 H' s' → Nx H' → ∃ m, m < n ∧ ∃ i H', Inv (X.blk s3 H3 scope ce fp) [] (wipe σ (own.map (·.2))) H' s' ∧ tn i s'.heap ∧ (∀ b ∈ fp, H' b = none) ∧ W i m H' := by
        intro s' H' I' nx
        obtain ⟨m', lt, w'⟩ := hNx H' nx
        have kept : ∀ b ∈ fp, ∀ o, s7.heap.get? b = some o → s'.heap.get? b = some o ∧ H' b = none := fun b hb o e =>
          have k := I'.pin (b, o) (List.mem_append_right _ (List.mem_append_right _ (mem_pinsAt hb e)))
          ⟨k.1, k.2.1⟩
        refine ⟨m', lt, i + 1, H', (I'.unpinned (pins := [])).weak (by rw [← e8, wipe_length]) (fun j v e => ?_), T.keep _ _ _ t7 fun b hb o e => (kept b hb o e).1, fun b hb => ?_, w'⟩
        · rw [← e8] at e
          exact (wipe_some e).1
        · obtain ⟨o, e, _⟩ := T.obj _ _ t7 b hb
          exact (kept b hb o e).2
      by_cases hb : b = true
      · rw [if_pos hb] at q9
        rw [if_pos hb]
        refine thnF (pk.run _ s9 σ8 H9 _ I9 q9) fun uk s10 q10 => ?_
        obtain ⟨yk, H10, I10, r10, q10⟩ := q10
        refine thnF (pw.run _ s10 σ8 H10 _ I10 q10) fun uv s11 q11 => ?_
        obtain ⟨yv, H11, I11, r11, H12, put, nx⟩ := q11
        exact putT_run (X := X.blk s3 H3 scope ce fp) hu I11 put r10 r11 fun s12 I12 => next I12 nx
      · rw [if_neg hb] at q9
        rw [if_neg hb]
        exact next I9 q9
  exact codeAny_compStart_dict loop (T.self X.A 0 _ _ _ t4 loop)
theorem pe_dcT {kx vx tg iter : Expr} {ifs : List Expr} {scope : Scope} {own : List (Str × Nat)} {pos : Pos} {wi : TI} {g : TG} {tt : TT} {tk tv : TE} (hc : X.calm = true) (hN : X.N.Nodup) (hi : PI X tg iter wi) (ok : BlkOk X.N X.env.scope scope own) (hu : X.A.units < cLine)
    (hg : ∀ (s : Shared) (H : Hp) (C : Addr) (cl : List (Str × Addr)) (fp : List Addr), PG (X.blk s H scope (compEnvC scope cl C X.env) fp) tg g)
    (ht : ∀ (s : Shared) (H : Hp) (C : Addr) (cl : List (Str × Addr)) (fp : List Addr), PTs (X.blk s H scope (compEnvC scope cl C X.env) fp) ifs tt)
    (hk : ∀ (s : Shared) (H : Hp) (C : Addr) (cl : List (Str × Addr)) (fp : List Addr), PE (X.blk s H scope (compEnvC scope cl C X.env) fp) kx tk)
    (hv : ∀ (s : Shared) (H : Hp) (C : Addr) (cl : List (Str × Addr)) (fp : List Addr), PE (X.blk s H scope (compEnvC scope cl C X.env) fp) vx tv)
    (hs : ∀ x, foldedSetIterable iter X.env x = pure x := by intro _; rfl) :
    PE X (.DictComp kx vx [⟨tg, iter, ifs, 0⟩] scope pos) (tDcT wi g tt tk tv (own.map (·.2))) := by
  refine ⟨fun pins s σ H Q I h => ?_⟩
  rw [arm_eval_DictComp]
  refine dcT_core hc hN I hi ok hu hg ht hk hv hs h fun D C s' m H' I' q hn f => ⟨m, hn, fun h'' sb => ?_⟩
  obtain ⟨a0, a1, a2, a3, a4, a5⟩ := f
  exact ⟨.ref D, H', I'.turned (t' := s'.toks) (fun b o hb e => (sb.2 b hb).trans e) a0 a1 a3 a4 a5, rfl, q⟩
/-- a comprehension whose value a name gets at once -/
theorem name_last {i : Nat} {y : Str} {py : Pos} {D : Ends} (hN : X.N.Nodup) (hy : X.N[i]? = some y) (hyl : X.env.scope.names.lookup y = some .local) (L C : Addr) (s' : Shared) (m : Str → Option Value) (H' : Hp) (I' : Inv X pins σ H' s') (q : gName i (.ref L) σ H' D.nx) (hn : s'.heap.Ns C m) (f : FpOk X pins H' C) :
    compPost (model X.prog X.w) X.A X.xe (some (assign (.Name y py) X.env)) (fun _ s' => SP X pins D .next s') (.ref L) C (.ok .next) s' := by
  show wpAny _ _ (assign (.Name y py) X.env (.ref L)) _ _ _
  refine wpAny_assign_Name (store_ok2 (v := V.ref L) I' hN hy (.inl hyl) rfl (fun s2 I2 k2 => ?_) (.inr hyl))
  obtain ⟨a, sb, ha⟩ := k2
  obtain ⟨a0, a1, a2, a3, a4, a5⟩ := f
  have off : C ≠ a := ha.elim (fun z => z ▸ a1) fun z e => a4 y a z e.symm
  refine ⟨m, hn.sameBut sb off, fun h3 sb3 => ⟨_, H', I2.turned (t' := s2.toks) (fun b o hb e => (sb3.2 b hb).trans e) a0 a1 a3 a4 a5, q⟩⟩
section
variable {kx vx tg iter : Expr} {ifs : List Expr} {scope : Scope} {own : List (Str × Nat)} {pos spos py : Pos} {wi : TI} {g : TG} {tt : TT} {tk tv : TE} {i : Nat} {y : Str}
theorem ps_setDcT (hc : X.calm = true) (hN : X.N.Nodup) (hy : X.N[i]? = some y) (hyl : X.env.scope.names.lookup y = some .local) (hsw : swapsWith (.DictComp kx vx [⟨tg, iter, ifs, 0⟩] scope pos) (some (.Name y py)) spos.line X.env = pure true)
    (hi : PI X tg iter wi) (ok : BlkOk X.N X.env.scope scope own) (hu : X.A.units < cLine)
    (hg : ∀ (s : Shared) (H : Hp) (C : Addr) (cl : List (Str × Addr)) (fp : List Addr), PG (X.blk s H scope (compEnvC scope cl C X.env) fp) tg g)
    (ht : ∀ (s : Shared) (H : Hp) (C : Addr) (cl : List (Str × Addr)) (fp : List Addr), PTs (X.blk s H scope (compEnvC scope cl C X.env) fp) ifs tt)
    (hk : ∀ (s : Shared) (H : Hp) (C : Addr) (cl : List (Str × Addr)) (fp : List Addr), PE (X.blk s H scope (compEnvC scope cl C X.env) fp) kx tk)
    (hv : ∀ (s : Shared) (H : Hp) (C : Addr) (cl : List (Str × Addr)) (fp : List Addr), PE (X.blk s H scope (compEnvC scope cl C X.env) fp) vx tv)
    (hs : ∀ x, foldedSetIterable iter X.env x = pure x := by intro _; rfl) :
    PS X (.Assign [.Name y py] (.DictComp kx vx [⟨tg, iter, ifs, 0⟩] scope pos) spos) (tAsg (tDcT wi g tt tk tv (own.map (·.2))) (gName i)) := by
  refine ⟨fun pins s σ H D I h => ?_⟩
  rw [exec_Assign_Name_used _ _ _ _ hsw]
  refine wpAny_bind (wpAny_standAt (wpAny_bind ?_))
  show wpAny _ X.A (do let _ ← comprehension (.DictComp kx vx [⟨tg, iter, ifs, 0⟩] scope pos) scope X.env (firstIterPos [⟨tg, iter, ifs, 0⟩] pos) newDict false (eval iter X.env) (some (assign (.Name y py) X.env))) _ _ s
  have h : tDcT wi g tt tk tv (own.map (·.2)) σ H (fun x H1 => gName i x σ H1 D.nx) := h
  exact wpAny_bind (thn (dcT_core hc hN I hi ok hu hg ht hk hv hs h fun L C s' m H' I' q hn f => name_last hN hy hyl L C s' m H' I' q hn f) fun _ s' hq => wpAny_pure (wpAny_pure hq))
theorem ps_setDcK (hc : X.calm = true) (hN : X.N.Nodup) (hy : X.N[i]? = some y) (hyl : X.env.scope.names.lookup y = some .local) (hsw : swapsWith (.DictComp kx vx [⟨tg, iter, ifs, 0⟩] scope pos) (some (.Name y py)) spos.line X.env = pure true)
    (hi : PI X tg iter wi) (ok : BlkOk X.N X.env.scope scope own)
    (hg : ∀ (s : Shared) (H : Hp) (C : Addr) (cl : List (Str × Addr)) (fp : List Addr), PG (X.blk s H scope (compEnvC scope cl C X.env) fp) tg g)
    (ht : ∀ (s : Shared) (H : Hp) (C : Addr) (cl : List (Str × Addr)) (fp : List Addr), PTs (X.blk s H scope (compEnvC scope cl C X.env) fp) ifs tt)
    (hk : ∀ (s : Shared) (H : Hp) (C : Addr) (cl : List (Str × Addr)) (fp : List Addr), PE (X.blk s H scope (compEnvC scope cl C X.env) fp) kx tk)
    (hv : ∀ (s : Shared) (H : Hp) (C : Addr) (cl : List (Str × Addr)) (fp : List Addr), PE (X.blk s H scope (compEnvC scope cl C X.env) fp) vx tv)
    (hs : ∀ x, foldedSetIterable iter X.env x = pure x := by intro _; rfl) :
    PS X (.Assign [.Name y py] (.DictComp kx vx [⟨tg, iter, ifs, 0⟩] scope pos) spos) (tAsg (tDc wi g tt tk tv (own.map (·.2))) (gName i)) := by
  refine ⟨fun pins s σ H D I h => ?_⟩
  rw [exec_Assign_Name_used _ _ _ _ hsw]
  refine wpAny_bind (wpAny_standAt (wpAny_bind ?_))
  show wpAny _ X.A (do let _ ← comprehension (.DictComp kx vx [⟨tg, iter, ifs, 0⟩] scope pos) scope X.env (firstIterPos [⟨tg, iter, ifs, 0⟩] pos) newDict false (eval iter X.env) (some (assign (.Name y py) X.env))) _ _ s
  have h : tDc wi g tt tk tv (own.map (·.2)) σ H (fun x H1 => gName i x σ H1 D.nx) := h
  exact wpAny_bind (thn (dc_core hc hN I hi ok hg ht hk hv hs h fun L C s' m H' I' q hn f => name_last hN hy hyl L C s' m H' I' q hn f) fun _ s' hq => wpAny_pure (wpAny_pure hq))
theorem sw_trueD {gs : List Comprehension} {l : Nat} {env : PySem.Env} (hk : env.scope.kind = .function) (hy : env.scope.names.lookup y = some .local) (hl : (py.line == pos.line) = true)
    (ha : (scope.names.any fun (n, k) => n == y && (k == .local || k == .cell)) = false) : swapsWith (.DictComp kx vx gs scope pos) (some (.Name y py)) l env = pure true := by
  have ky : env.kindOf y = some .local := hy
  have hb : env.blockKind = .function := by unfold Env.blockKind; rw [hk]; rfl
  unfold swapsWith
  simp only [hb, ky, ha, Expr.pos, hl]
  rfl
end
end
end GJ

set_option Elab.async false
set_option linter.all false
set_option maxRecDepth 100000
set_option maxHeartbeats 4000000
namespace GJ
open PySem PySem.Spec PyProof.Rows L2
section
variable {K : PySem.W.Frag} {H H1 : Hp} {D a : Addr} {te tk tv : TE} {tt : TT} {vs : List Nat} {σ : L2.St} {j n : Nat} {Qd : Hp → Prop} {xs : List V}
abbrev GoT (K : PySem.W.Frag) (a : Addr) (D : Addr) (H1 : Hp) (Qd : Hp → Prop) (g : TG) (tt : TT) (tk tv : TE) (σ : L2.St) (vs : List Nat) : Prop :=
  ∃ W : Nat → Nat → Hp → Prop, (∃ m, W 0 m (upd H1 D (.dT []))) ∧ ∀ i m H, W i m H →
    ((Itl K a).stop i H ∧ Qd H) ∨ ((Itl K a).go i H ∧ ∃ Nx : Hp → Prop, (∀ H', Nx H' → ∃ m', m' < m ∧ W (i + 1) m' H') ∧ ∀ x H', (Itl K a).yld i H x H' → g x (wipe σ vs) H' fun σ2 H2 => wipe σ2 vs = wipe σ vs ∧ tt σ2 H2 fun b H3 =>
      if b = true then tk σ2 H3 fun y H4 => tv σ2 H4 fun z H5 => ∃ H6, PutT H5 D y z H6 ∧ Nx H6 else Nx H3)
/-- {x: True for x in xs}, the items tuples of letters and texts -/
theorem dcT_lst {α : Type} {key : α → List Key} {l : List α} (s1 : Same H H1) (nD : H1 D = none) (hx : H a = some (.lst xs)) (hn : xs.length ≤ 100000) (hlen : l.length = xs.length)
    (hk : ∀ (i : Nat) x e, xs[i]? = some x → l[i]? = some e → ∃ b, x = .ref b ∧ H b = some (.tup ((key e).map kV)))
    (hw : Wp σ vs j) (hj : ∀ v, (sl σ vs j v)[j]? = some (some v))
    (hd : ∀ H3 kvs, Same H H3 → H3 D = some (.dT kvs) → kvs.length ≤ xs.length → (∀ k, (valV kvs k).isSome = true ↔ ∃ e ∈ l, key e = k) → Qd H3) : GoT K a D H1 Qd (gName j) tYes (tVar j) (tC (.bl true)) σ vs := by
  have nD0 : H D = none := s1.free nD
  refine ⟨fun i m H' => m = xs.length - i ∧ i ≤ xs.length ∧ ∃ kvs, Same H H' ∧ H' D = some (.dT kvs) ∧ kvs.length ≤ i ∧ ∀ k, (valV kvs k).isSome = true ↔ ∃ (m : Nat) (e : α), m < i ∧ l[m]? = some e ∧ key e = k,
    ⟨xs.length, by simp, Nat.zero_le _, [], s1.trans (Same.new nD), upd_same, Nat.le_refl _, fun k => ⟨fun h => (nomatch h), fun ⟨m, _, h, _⟩ => absurd h (Nat.not_lt_zero _)⟩⟩, ?_⟩
  rintro i m H3 ⟨rfl, hi, kvs, s3, hD, hl, hF⟩
  have q : SqL K H3 a xs := SqL.of (s3 _ _ hx)
  by_cases hlt : i < xs.length
  · refine .inr ⟨⟨xs, xs[i], q, by simp [hlt]⟩, fun H' => i + 1 ≤ xs.length ∧ ∃ kvs, Same H H' ∧ H' D = some (.dT kvs) ∧ kvs.length ≤ i + 1 ∧ ∀ k, (valV kvs k).isSome = true ↔ ∃ (m : Nat) (e : α), m < i + 1 ∧ l[m]? = some e ∧ key e = k, fun H' p' => ⟨xs.length - (i + 1), by omega, rfl, p'⟩, fun x H' y => ?_⟩
    obtain ⟨e, y⟩ := y
    subst e
    have hx2 := y xs q
    obtain ⟨e, he⟩ : ∃ e, l[i]? = some e := ⟨l[i], List.getElem?_eq_getElem (by omega)⟩
    obtain ⟨b, rfl, hb⟩ := hk i x e hx2 he
    refine ⟨hw _, ?_⟩
    refine ⟨_, hj _, ?_⟩
    refine ⟨_, ⟨kvs, key e, b, hD, rfl, s3 _ _ hb, small5 (by omega), rfl⟩, by omega, _, Same.put s3 nD0, upd_same, Nat.le_trans (length_putK _ _ _) (by omega), fun k => ?_⟩
    rw [valV_put]
    by_cases hkk : k = key e
    · rw [if_pos hkk]
      exact ⟨fun _ => ⟨i, e, Nat.lt_succ_self i, he, hkk.symm⟩, fun _ => rfl⟩
    · rw [if_neg hkk, hF k]
      constructor
      · rintro ⟨m, e', h1, h2, h3⟩
        exact ⟨m, e', by omega, h2, h3⟩
      · rintro ⟨m, e', h1, h2, h3⟩
        by_cases hm : m = i
        · subst hm
          rw [he] at h2
          cases h2
          exact absurd h3.symm hkk
        · exact ⟨m, e', by omega, h2, h3⟩
  · have e : i = xs.length := by omega
    subst e
    refine .inl ⟨⟨xs, q, Nat.le_refl _⟩, hd H3 kvs s3 hD hl fun k => ?_⟩
    rw [hF k]
    constructor
    · rintro ⟨m, e, h1, h2, h3⟩
      exact ⟨e, List.mem_of_getElem? h2, h3⟩
    · rintro ⟨e, h1, h3⟩
      obtain ⟨m, h2⟩ := List.getElem?_of_mem h1
      exact ⟨m, e, by have := (List.getElem?_eq_some_iff.mp h2).1; omega, h2, h3⟩
def keyS (e : Side) : List Key := [.inl e.1, .inr e.2]
def keyA (e : Arc) : List Key := [.inl e.1, .inr e.2.1, .inr e.2.2.1, .inl e.2.2.2]
theorem keyS_inj {a b : Side} (h : keyS a = keyS b) : a = b := by
  obtain ⟨a1, a2⟩ := a
  obtain ⟨b1, b2⟩ := b
  simp only [keyS, List.cons.injEq, Sum.inl.injEq, Sum.inr.injEq, and_true] at h
  rw [h.1, h.2]
theorem keyA_inj {a b : Arc} (h : keyA a = keyA b) : a = b := by
  obtain ⟨a1, a2, a3, a4⟩ := a
  obtain ⟨b1, b2, b3, b4⟩ := b
  simp only [keyA, List.cons.injEq, Sum.inl.injEq, Sum.inr.injEq, and_true] at h
  rw [h.1, h.2.1, h.2.2.1, h.2.2.2]
/-- the keys of such a dict as data -/
theorem keys_das {α : Type} {key : α → List Key} {f : α → PyData} (hf : ∀ {H : Hp} {b : Addr} {e : α}, H b = some (.tup ((key e).map kV)) → DA H (.ref b) (f e)) {H : Hp} {l : List α} : ∀ {kvs : List (List Key × V)} {bs : List Addr}, IsKeys H kvs bs → (∀ p ∈ kvs, ∃ e ∈ l, key e = p.1) →
    ∃ l' : List α, DAs H (bs.map V.ref) (l'.map f) ∧ l'.map key = kvs.map (·.1) ∧ ∀ e ∈ l', e ∈ l
  | _, _, .nil, _ => ⟨[], .nil, rfl, fun _ h => nomatch h⟩
  | _, _, .cons (a := p) (b := b) h t, g => by
    obtain ⟨e, he, hk⟩ := g p List.mem_cons_self
    obtain ⟨l', q1, q2, q3⟩ := keys_das hf t fun x hx => g x (List.mem_cons_of_mem _ hx)
    refine ⟨e :: l', .cons (hf (by rw [hk]; exact h)) q1, by rw [List.map_cons, List.map_cons, q2, hk], fun x hx => ?_⟩
    rcases List.mem_cons.mp hx with rfl | hx
    · exact he
    · exact q3 x hx
theorem valV_mem {kvs : List (List Key × V)} {k : List Key} : (valV kvs k).isSome = true ↔ k ∈ kvs.map (·.1) := by
  rw [← valV_any, List.any_eq_true]
  constructor
  · rintro ⟨x, h1, h2⟩
    exact List.mem_map.mpr ⟨x, h1, of_decide_eq_true h2⟩
  · intro h
    obtain ⟨x, h1, h2⟩ := List.mem_map.mp h
    exact ⟨x, h1, decide_eq_true h2⟩
end
end GJ

set_option Elab.async false
set_option linter.all false
set_option maxRecDepth 100000
set_option maxHeartbeats 4000000
namespace GJ
open PySem PySem.Spec PyProof.Rows L2 PySem.W
section
variable {X : Cx} {pins : List (Addr × Obj)} {σ : L2.St} {H : Hp} {s : Shared}
/-- a def called from within a built-in's run -/
theorem call_in2 {x : Str} {k : Nat} {ps : List Str} {sp : Sp} (O : Ok X.prog X.w X.K X.mg X.base x k ps sp) (hr : Room (k + 2) X.A) (I : Inv X pins σ H s) {vs : List V} {us : List Value} {Q : VK} (r : Vals vs us) (h : sp vs H Q E0) {E : Value → Shared → Prop} :
    wpAny (model X.prog X.w) X.A.in1.in1 (call (.ref (He.ga X.K x)) us) (EP X pins σ Q) E s := by
  obtain ⟨fd, F, b⟩ := O.ex
  have hl : us.length = ps.length := by rw [← r.length]; exact F.len _ _ _ _ h
  have hb := b s us I.kIn (by rw [List.append_nil]; exact hl)
  rw [List.append_nil] at hb
  refine wpAny_call (codeAny_mono (F.run X.A.in1.in1 X.stack s H ⟨us, []⟩ us vs Q E0 hr.in1.in1 I.env0.in1.in1 hb r h) fun q s' hq => ?_)
  cases q with
  | error e => exact False.elim hq
  | ok f =>
    cases f with
    | ret u => exact I.after hq
    | next => exact False.elim hq
    | brk => exact False.elim hq
    | cont => exact False.elim hq
/-- sorted(xs, key=f), f a def that gives data as keys: a new list of the same items -/
def rSortBy (K : PySem.W.Frag) (x : Str) (sp : Sp) : List V → List V → Hp → VK → Prop := fun vs zs H Q => ∃ (a : Addr) (xs : List V) (kz : List PyData), vs = [.ref a] ∧ zs = [.ref (He.ga K x)] ∧ SqL K H a xs ∧ xs.length ≤ 100000 ∧ kz.length = xs.length ∧
  PySem.W.AllAlike kz ∧ PySem.W.Sortable kz ∧ (∀ d ∈ kz, d.depth ≤ 10) ∧
  (∀ (i : Nat) v d, xs[i]? = some v → kz[i]? = some d → ∀ H1, Same H H1 → ∀ R : VK, (∀ u H2, Same H1 H2 → DA H2 u d → R u H2) → sp [v] H1 R E0) ∧
  ∀ H' p ys, Same H H' → ys.length = xs.length → (∀ y, y ∈ ys ↔ y ∈ xs) → H' p = none → Q (.ref p) (upd H' p (.lst ys))
theorem das_reads (I : Inv X pins σ H s) : ∀ {vs : List V} {us : List Value} {ds : List PyData}, Vals vs us → DAs H vs ds → EachIs (fun v k => ∃ as, Reads s.heap v k as) us ds
  | _, _, _, .nil, .nil => .nil
  | _, _, _, .cons r t, .cons a b => .cons (Dp.reads I _ _ _ (a.dp) r) (das_reads I t b)
theorem vals_get : ∀ {xs : List V} {us : List Value} {j : Nat} {u : Value}, Vals xs us → us[j]? = some u → ∃ x, xs[j]? = some x ∧ RelV x u
  | _, _, 0, _, .cons r _, e => ⟨_, rfl, by cases Option.some.inj e; exact r⟩
  | _, _, j + 1, _, .cons _ t, e => by
    obtain ⟨x, h1, h2⟩ := vals_get (j := j) t (by simpa using e)
    exact ⟨x, by simpa using h1, h2⟩
theorem vals_perm {us us' : List Value} (p : us.Perm us') : ∀ {xs : List V}, Vals xs us → ∃ xs', Vals xs' us' ∧ xs.Perm xs' := by
  induction p with
  | nil => exact fun r => ⟨_, r, .refl _⟩
  | cons u _ ih =>
    intro xs r
    cases r with
    | cons r t =>
      obtain ⟨ys, h1, h2⟩ := ih t
      exact ⟨_, .cons r h1, .cons _ h2⟩
  | swap u v l =>
    intro xs r
    cases r with
    | cons r t =>
      cases t with
      | cons r2 t2 => exact ⟨_, .cons r2 (.cons r t2), .swap _ _ _⟩
  | trans _ _ ih1 ih2 =>
    intro xs r
    obtain ⟨ys, h1, h2⟩ := ih1 r
    obtain ⟨zs, h3, h4⟩ := ih2 h1
    exact ⟨zs, h3, h2.trans h4⟩
theorem sorted_perm {κ : PyProof.Rows.KeyKind} {ks vs : List Value} (hl : ks.length = vs.length) : vs.Perm (PySem.W.sortVals κ false ks vs) := by
  unfold PySem.W.sortVals
  have h := ((List.mergeSort_perm (ks.zip vs) (sortLe κ.toKeyOrd false fun p : Keyed => keyD κ p.1)).map Prod.snd)
  rw [List.map_snd_zip (Nat.le_of_eq hl.symm)] at h
  exact h.symm
abbrev L0 (xs : Array Value) (e : Nat) : Obj := seqObj "list" xs e
/-- the keys made, the items sorted -/
theorem rest_run {x : Str} {k : Nat} {ps : List Str} {sp : Sp} (O : Ok X.prog X.w X.K X.mg X.base x k ps sp) (hr : Room (k + 2) X.A) {a kS : Addr} {e1 : Nat} {xs : List V} {vs : List Value} {kz : List PyData} {Q : VK} {E : Value → Shared → Prop}
    (I : Inv X pins σ H s) (fk : FpOk X pins H kS) (fa : FpOk X pins H a) (hk : s.heap.get? kS = some (L0 #[] 0)) (ha : s.heap.get? a = some (L0 #[] e1)) (hka : kS ≠ a) (rv : Vals xs vs) (hn : xs.length ≤ 100000) (hlen : kz.length = xs.length)
    (hal : PySem.W.AllAlike kz) (hsk : PySem.W.Sortable kz) (hdep : ∀ d ∈ kz, d.depth ≤ 10)
    (hcall : ∀ (i : Nat) v d, xs[i]? = some v → kz[i]? = some d → ∀ H1, Same H H1 → ∀ R : VK, (∀ u H2, Same H1 H2 → DA H2 u d → R u H2) → sp [v] H1 R E0)
    (q : ∀ H' ys, Same H H' → ys.length = xs.length → (∀ y, y ∈ ys ↔ y ∈ xs) → H' a = none → Q (.ref a) (upd H' a (.lst ys))) :
    wpAny (model X.prog X.w) X.A.in1.in1 (ksk_rest a (.ref (He.ga X.K x)) false vs.toArray e1 (.ref kS)) (fun f s' => f = .done (.ret .none) ∧ EP X pins σ Q (.ref a) s') E s := by
  have hvl := rv.length
  have big : vs.length ≤ sizeLine := szle (by omega)
  have nocell : ∀ (ys : Array Value) (n : Nat) v, (L0 ys n).data ≠ .cell v := fun ys n v h => nomatch h
  have pinOk : ∀ {H' : Hp} {s' : Shared} {ys : Array Value} {n : Nat}, Inv X pins σ H' s' → H' kS = none → H' a = none → s'.heap.get? kS = some (L0 ys n) → s'.heap.get? a = some (L0 #[] e1) → Inv X (pins ++ [(kS, L0 ys n), (a, L0 #[] e1)]) σ H' s' := by
    intro H' s' ys n I' nk na gk ga
    refine I'.pins_of fun p hp => ?_
    rcases List.mem_append.mp hp with hp | hp
    · exact I'.pin p (List.mem_append_right _ hp)
    rcases List.mem_cons.mp hp with rfl | hp
    · exact ⟨gk, nk, fk.2.1, fk.2.2.1, nocell _ _⟩
    · rw [List.mem_singleton.mp hp]
      exact ⟨ga, na, fa.2.1, fa.2.2.1, nocell _ _⟩
  unfold ksk_rest
  refine wpAny_bind (wpAny_rule ?_)
  rw [← Array.forIn_toList]
  refine wpAny_bind (ksk_fold (fun j s' => ∃ (H' : Hp) (kA : Array Value) (n : Nat) (ys : List V), Inv X (pins ++ [(kS, L0 kA n), (a, L0 #[] e1)]) σ H' s' ∧ Same H H' ∧ Vals ys kA.toList ∧ DAs H' ys (kz.take j)) vs 0 s
    ⟨H, #[], 0, [], pinOk I fk.1 fa.1 hk ha, Same.refl H, .nil, by rw [List.take_zero]; exact .nil⟩ ?_ ?_)
  · rintro j v s' hx ⟨H', kA, n, ys, I', sm, rk, dk⟩
    simp only [Nat.zero_add] at dk ⊢
    obtain ⟨xv, hx1, rx⟩ := vals_get rv hx
    have hj : j < xs.length := (List.getElem?_eq_some_iff.mp hx1).1
    obtain ⟨d, hd⟩ : ∃ d, kz[j]? = some d := ⟨_, List.getElem?_eq_getElem (by omega)⟩
    refine wpAny_bind (wpAny_attempt (wpAny_mono (call_in2 O hr I' (Paired.cons rx Paired.nil) (hcall j xv d hx1 hd H' sm (fun u H2 => Same H' H2 ∧ DA H2 u d) fun u H2 s2 d2 => ⟨s2, d2⟩) (E := fun _ _ => False)) (fun u s2 he => ?_) fun _ _ hF => hF.elim))
    obtain ⟨y, H2, I2, ry, sm2, d2⟩ := he
    try dsimp only
    have pk := I2.pin (kS, L0 kA n) (List.mem_append_right _ (List.mem_append_right _ List.mem_cons_self))
    have pa := I2.pin (a, L0 #[] e1) (List.mem_append_right _ (List.mem_append_right _ (List.mem_cons_of_mem _ List.mem_cons_self)))
    have hkl : kA.size ≤ 100000 := by
      have h1 : ys.length = kA.size := by rw [Paired.length rk, Array.length_toList]
      have h2 := dk.len
      rw [List.length_take] at h2
      omega
    have upS := Heap.SameBut.update s2.heap kS (Obj.mapSeq (·.push u))
    obtain ⟨c2, hc2⟩ : ∃ c2, (s2.heap.update kS (Obj.mapSeq (·.push u))).get? kS = some (L0 (kA.push u) c2) := ⟨_, get?_update_seq pk.1 (·.push u)⟩
    refine wpAny_bind (listUpdate_at pk.1 rfl ?_ (szle hkl) (Nat.le_trans (Nat.le_of_eq (Array.size_push ..)) (Nat.succ_le_succ (szle hkl))))
    have J : Inv X pins σ H2 { s2 with heap := s2.heap.update kS (Obj.mapSeq (·.push u)), toks := s2.toks } := I2.unpinned.turnedL (ch := [kS]) (fun b o hb e => (upS.2 b fun z => hb (by simp [z])).trans e) fun b hb => by
      rw [List.mem_singleton.mp hb]
      exact ⟨pk.2.1, fk.2⟩
    refine wpAny_pure ⟨rfl, H2, kA.push u, c2, ys ++ [y], pinOk J pk.2.1 pa.2.1 hc2 ((upS.2 a hka.symm).trans pa.1), sm.trans sm2, ?_, ?_⟩
    · rw [show (kA.push u).toList = kA.toList ++ [u] by simp]
      exact rk.append (.cons ry .nil)
    · rw [List.take_add_one, hd]
      exact (dk.up sm2).append (.one d2)
  · rintro s' ⟨H', kA, n, ys, I', sm, rk, dk⟩
    have pk := I'.pin (kS, L0 kA n) (List.mem_append_right _ (List.mem_append_right _ List.mem_cons_self))
    have pa := I'.pin (a, L0 #[] e1) (List.mem_append_right _ (List.mem_append_right _ (List.mem_cons_of_mem _ List.mem_cons_self)))
    rw [List.take_of_length_le (by omega)] at dk
    have hks : kA.size = vs.length := by
      have h1 : ys.length = kA.size := by rw [Paired.length rk, Array.length_toList]
      have h2 := dk.len
      omega
    refine wpAny_bind (listItems_at pk.1 rfl ?_)
    obtain ⟨G1, g1, g2⟩ := restrict s'.heap fun b => decide (b ≠ kS)
    obtain ⟨G2, g3, g4⟩ := restrict s'.heap fun b => decide (b ≠ kS ∧ b ≠ a)
    have un := hr.un
    refine keyH_end (κ := dataKind s'.heap kz) (h₁ := G1) (fun b o hb e => ?_) (g2 kS (by simp)) pk.1 pa.1 hka (SortsAt.data (s := s') (das_reads I' rk dk) hal hsk fun d hd => ?_) hks big fun h3 tk c kp n3 => ⟨rfl, ?_⟩
    · by_cases hbk : b = kS
      · rw [hbk, g2 kS (by simp)] at e
        cases e
      · rw [g1 b (by simp [hbk])] at e
        exact e
    · have := hdep d hd
      show X.A.units + 1 + 1 + d.depth < cLine
      omega
    obtain ⟨out, ro, po⟩ := vals_perm (sorted_perm (κ := dataKind s'.heap kz) (ks := kA.toList) (vs := vs) (by rw [Array.length_toList]; exact hks)) rv
    have J : Inv X pins σ H' { s' with heap := G2, toks := tk } := I'.unpinned.turnedL (ch := [kS, a]) (fun b o hb e => (g3 b (by simp at hb; simp [hb])).trans e) fun b hb => by
      rcases List.mem_cons.mp hb with rfl | hb
      · exact ⟨pk.2.1, fk.2⟩
      · rw [List.mem_singleton.mp hb]
        exact ⟨pa.2.1, fa.2⟩
    have hol : out.length = xs.length := po.length_eq.symm
    refine ⟨.ref a, _, J.laidN (h' := h3) (a := a) (o := .lst out) (t' := tk) (fun b o e => ?_) (g4 a (by simp)) pa.2.1 (show ObjOk X.prog X.w _ h3 _ (.lst out) from ⟨by rw [hol]; exact szle hn, _, c, ro, n3⟩), rfl, q _ _ sm hol (fun y => (po.mem_iff).symm) pa.2.1⟩
    have hb : b ≠ kS ∧ b ≠ a := by
      refine ⟨fun z => ?_, fun z => ?_⟩
      · rw [z, g4 kS (by simp)] at e
        cases e
      · rw [z, g4 a (by simp)] at e
        cases e
    refine kp b o hb.2 ((g1 b (by simp [hb.1])).trans ?_)
    rw [← g3 b (by simp [hb])]
    exact e
theorem cr_sortBy {x : Str} {k : Nat} {ps : List Str} {sp : Sp} (O : Ok X.prog X.w X.K X.mg X.base x k ps sp) (hr : Room (k + 2) X.A) : CallRK X (.builtin "sorted") [Str.ofString "key"] (rSortBy X.K x sp) := by
  intro pins s σ H vs zs us ws Q I r rz h
  obtain ⟨l, xs, kz, rfl, rfl, hs, hn, hlen, hal, hsk, hdep, hcall, q⟩ := h
  obtain rfl := Vals.ref1 r
  obtain rfl := Vals.ref1 rz
  obtain ⟨its, rv, hl, hz⟩ := I.list hs
  have big : its.length ≤ sizeLine := by rw [← Paired.length rv]; exact hz
  refine sorted_of_sort hl.isList big (PyProof.Rows.ksk_s1 _ _) (fun _ => PyProof.Rows.ksk_l1 _ _) fun E' => ?_
  obtain ⟨a, ha⟩ : ∃ a, a = s.heap.objs.size + 1 := ⟨_, rfl⟩
  rw [← ha]
  show wpAny _ _ (Builtin.«list.sort» ⟨[.ref a], [(Str.ofString "key", .ref (He.ga X.K x))]⟩) _ _ _
  rw [PyProof.Rows.ksk_t1]
  have ho : (copyHeap s.heap its).get? a = some (L0 its.toArray 0) := by rw [ha]; exact copyHeap_at s.heap its
  obtain ⟨e1, ho1⟩ : ∃ e1, ((copyHeap s.heap its).update a (Obj.mapSeq fun _ => (#[] : Array Value))).get? a = some (L0 #[] e1) := ⟨_, get?_update_seq ho fun _ => #[]⟩
  unfold ksk_tree
  refine wpAny_bind (listItems_at ho rfl ?_)
  refine wpAny_bind (listUpdate_at ho rfl ?_ (by rw [List.size_toArray]; exact big) (Nat.zero_le _))
  refine wpAny_bind (seqEpoch_at ho1 rfl ?_)
  refine wpAny_bind (wpAny_newTuple ?_ (by show its.length ≤ _; exact big))
  refine wpAny_bind (wpAny_newList ?_ (Nat.zero_le _))
  refine wpAny_holding ?_
  have hsz : (((copyHeap s.heap its).update a (Obj.mapSeq fun _ => (#[] : Array Value))).push (L0 its.toArray 0)).objs.size = (copyHeap s.heap its).objs.size + 1 := by rw [size_push', Heap.size_update]
  have hlt : a < (copyHeap s.heap its).objs.size := Heap.lt_size ho
  have hge : s.heap.objs.size ≤ a := by rw [ha]; exact Nat.le_succ _
  have I1 : Inv X pins σ H { s with heap := sortingHeap (copyHeap s.heap its) a its, toks := s.toks } := I.kept fun b o e => by rw [ha]; exact sorting_copy_old e
  have fr : ∀ {b : Addr}, s.heap.objs.size ≤ b → FpOk X pins H b := fun hb => I.fpOk hb (I.hok.fresh hb)
  refine rest_run (s := { s with heap := sortingHeap (copyHeap s.heap its) a its }) (kS := (((copyHeap s.heap its).update a (Obj.mapSeq fun _ => (#[] : Array Value))).push (seqObj "tuple" its.toArray 0)).objs.size) O hr I1 (fr ?_) (fr hge)
    (Heap.get?_push_size _ rfl) (Heap.get?_push_of_some _ (Heap.get?_push_of_some _ ho1)) ?_ rv hn hlen hal hsk hdep hcall fun H' ys sm yl ym na => q H' a ys sm yl ym na
  · rw [size_push', Heap.size_update]
    exact Nat.le_succ_of_le (Nat.le_trans hge (Nat.le_of_lt hlt))
  · rw [size_push', Heap.size_update]
    exact Nat.ne_of_gt (Nat.lt_succ_of_lt hlt)
end
end GJ

set_option Elab.async false
set_option linter.all false
set_option maxRecDepth 100000
set_option maxHeartbeats 4000000
namespace GJ
open PySem PySem.Spec PyProof.Rows L2 TL
theorem side_fun {H : Hp} {v : V} {a b : Side} (h : DA H v (sideD a)) (g : DA H v (sideD b)) : a = b := by
  obtain ⟨p, rfl, hp⟩ := h.side_inv
  obtain ⟨q, e, hq⟩ := g.side_inv
  cases e
  rw [hp] at hq
  simp only [Option.some.injEq, HO.tup.injEq, List.cons.injEq, V.int.injEq, V.str.injEq, and_true] at hq
  obtain ⟨a1, a2⟩ := a
  obtain ⟨b1, b2⟩ := b
  rw [show a1 = b1 from hq.1, show a2 = b2 from hq.2]
theorem arc_fun {H : Hp} {v : V} {a b : Arc} (h : DA H v (arcD a)) (g : DA H v (arcD b)) : a = b := by
  obtain ⟨p, rfl, hp⟩ := h.arc_inv
  obtain ⟨q, e, hq⟩ := g.arc_inv
  cases e
  rw [hp] at hq
  simp only [Option.some.injEq, HO.tup.injEq, List.cons.injEq, V.int.injEq, V.str.injEq, and_true] at hq
  obtain ⟨a1, a2, a3, a4⟩ := a
  obtain ⟨b1, b2, b3, b4⟩ := b
  rw [show a1 = b1 from hq.1, show a2 = b2 from hq.2.1, show a3 = b3 from hq.2.2.1, show a4 = b4 from hq.2.2.2]
theorem das_same {α : Type} {f : α → PyData} (hf : ∀ {H : Hp} {v : V} {a b : α}, DA H v (f a) → DA H v (f b) → a = b) {H : Hp} {xs ys : List V} {l l' : List α} (h : DAs H xs (l.map f)) (g : DAs H ys (l'.map f)) (m : ∀ v, v ∈ ys ↔ v ∈ xs) : ∀ e, e ∈ l' ↔ e ∈ l := by
  have half : ∀ {xs ys : List V} {l l' : List α}, DAs H xs (l.map f) → DAs H ys (l'.map f) → (∀ v, v ∈ ys → v ∈ xs) → ∀ e, e ∈ l' → e ∈ l := by
    intro xs ys l l' h g m e he
    obtain ⟨i, hi⟩ := List.getElem?_of_mem he
    obtain ⟨v, v1, v2⟩ := g.getD (i := i) (d := f e) (by rw [List.getElem?_map, hi]; rfl)
    obtain ⟨d, d1, d2⟩ := h.mem (m v (List.mem_of_getElem? v1))
    obtain ⟨x, hx, rfl⟩ := map_mem d1
    rw [hf v2 d2]
    exact hx
  exact fun e => ⟨half h g (fun v hv => (m v).mp hv) e, half g h (fun v hv => (m v).mpr hv) e⟩
open PySem.W in
theorem sideK_alike (l : List Side) : AllAlike (l.map sideK) ∧ Sortable (l.map sideK) ∧ ∀ d ∈ l.map sideK, d.depth ≤ 10 := by
  refine ⟨fun d hd d' hd' => ?_, .inl fun d hd => ?_, fun d hd => ?_⟩
  · obtain ⟨x, _, rfl⟩ := List.mem_map.mp hd
    obtain ⟨y, _, rfl⟩ := List.mem_map.mp hd'
    rfl
  · obtain ⟨x, _, rfl⟩ := List.mem_map.mp hd
    exact ⟨_, _, rfl⟩
  · obtain ⟨x, _, rfl⟩ := List.mem_map.mp hd
    simp [sideK, PyData.depth, PyData.depthAll]
open PySem.W in
theorem arcK_alike (l : List Arc) : AllAlike (l.map arcK) ∧ Sortable (l.map arcK) ∧ ∀ d ∈ l.map arcK, d.depth ≤ 10 := by
  refine ⟨fun d hd d' hd' => ?_, .inl fun d hd => ?_, fun d hd => ?_⟩
  · obtain ⟨x, _, rfl⟩ := List.mem_map.mp hd
    obtain ⟨y, _, rfl⟩ := List.mem_map.mp hd'
    rfl
  · obtain ⟨x, _, rfl⟩ := List.mem_map.mp hd
    exact ⟨_, _, rfl⟩
  · obtain ⟨x, _, rfl⟩ := List.mem_map.mp hd
    simp [arcK, PyData.depth, PyData.depthAll]
end GJ

set_option Elab.async false
set_option linter.all false
set_option maxRecDepth 100000
set_option maxHeartbeats 4000000
namespace GJ
open PySem PySem.Spec PyProof.Rows L2 TL
set_option pp.maxSteps 300
section
variable {P : Program} {w : World} {K : PySem.W.Frag} {mg : Str → Option Value} {base : Heap}
set_option hygiene false in
local macro_rules | `(tactic| walk_at "w") => `(tactic| repeat (first
  | refine ⟨_, rfl, ?_⟩
  | refine ⟨_, _, rfl, rfl, (by first | decide | omega), fun r r0 r1 re => ?_⟩
  | refine ⟨_, _, rfl, rfl, (by first | exact Or.inl ⟨by omega, by omega⟩ | exact Or.inr ⟨by omega, by omega⟩ : CMul _ _), ?_⟩
  | refine ⟨_, _, rfl, rfl, (by first | exact ⟨by decide, by decide⟩ | exact ⟨by omega, by omega⟩ : CDiv _ _), ?_⟩
  | refine ⟨_, _, rfl, rfl, (by exact ⟨by decide, by decide, by decide⟩ : CPow _ _), ?_⟩
  | refine ⟨_, _, rfl, rfl, ?_⟩
  | refine ⟨(by rfl : scal _ _ = true), ?_⟩
  | refine Or.inl ⟨_, rfl, ?_⟩
  | refine ⟨_, _, rfl, fun m m0 m1 m2 => ?_⟩
  | refine ⟨_, _, _, _, rfl, rfl, SqL.of (by first | assumption | exact upd_same | exact fx _ | exact fy _), rfl, ?_⟩
  | refine ⟨_, _, _, _, rfl, rfl, (by first | assumption | exact upd_same | exact fx _ | exact fy _), rfl, ?_⟩
  | refine ⟨_, _, _, _, rfl, rfl, SqT.of (by first | assumption | exact upd_same | exact fx _ | exact fy _), rfl, ?_⟩
  | refine ⟨(szle (by omega) : Str.length _ ≤ sizeLine), ?_⟩
  | refine ⟨(szle (by first | omega | (rw [sla]; omega) | (rw [sla, sla]; omega)) : Str.length _ + Str.length _ ≤ sizeLine), ?_⟩
  | refine ⟨_, _, rfl, len_lst (by first | assumption | exact upd_same | exact fx _ | exact fy _), ?_⟩))
set_option hygiene false in
local macro_rules | `(tactic| walk_at "if") => `(tactic| (refine ite2 (fun hc => ?_) (fun hc => ?_) <;>
  simp only [decide_eq_true_eq, Bool.not_eq_true', decide_eq_false_iff_not, V.int.injEq, V.str.injEq, V.bl.injEq, Decidable.not_not, Bool.not_eq_true, V.int_ne, Int.not_lt, Int.not_le, Bool.true_eq_false, Bool.false_eq_true, not_true_eq_false, not_false_eq_true] at hc))
set_option hygiene false in
local macro_rules | `(tactic| walk_at "new") => `(tactic| (refine ⟨by first | decide | (simp only [List.length_cons, List.length_nil, List.length_append, List.length_map]; first | decide | (rw [sizeLine_eq]; omega)), fun p np => ?_⟩))
set_option hygiene false in
local macro_rules | `(tactic| walk_at "yes") => `(tactic| refine itY (by first | rfl | exact decide_eq_true (by first | rfl | omega | assumption) | (simp only [decide_eq_true_eq, Bool.not_eq_true', decide_eq_false_iff_not, V.int.injEq, V.str.injEq, V.bl.injEq]; first | omega | assumption)) ?_)
set_option hygiene false in
local macro_rules | `(tactic| walk_at "no") => `(tactic| refine itN (by first | decide | (simp only [decide_eq_true_eq, Bool.not_eq_true', decide_eq_false_iff_not, V.int.injEq, V.str.injEq, V.bl.injEq, Bool.not_eq_true, Decidable.not_not]; first | omega | assumption)) ?_)
def sp_checkSides : Sp := fun vs H Q _ => ∃ (x v : V) (l : List Side) (n : Int) (wr : Str), vs = [x, v, .int n, .str wr] ∧ DA H v (.list (l.map sideD)) ∧ (∀ e ∈ l, SOk n wr 400 e) ∧ Alpha wr ∧ l.length ≤ 400 ∧
  ∀ q H' (l' : List Side), H q = none → Same H H' → DA H' (.ref q) (.list (l'.map sideD)) → (∀ e, e ∈ l' ↔ e ∈ l) → l'.length ≤ 400 → Q (.ref q) H'
def N_check_sides : List Str := ["place", "value", "size", "write", "index", "entry"]
theorem sc_check_sides : FnScope N_check_sides ["place", "value", "size", "write"] (defScope (top 27)) := ⟨rfl, rfl, rfl, by decide +kernel, rfl, by decide +kernel, by decide +kernel⟩
theorem ok_check_sides (En : Env K mg fas fns prs) : Ok P w K mg base "check_sides" 6 ["place", "value", "size", "write"] sp_checkSides := by
  refine ok_mk 14 27 En sc_check_sides (fun _ _ _ _ _ _ us hl => match us, hl with | [_, _, _, _], _ => rfl) (fun vs H Q E h => ?_) (fun f cdv A outer s H vs Q E hr h => ?_)
  · obtain ⟨x, v, l, n, wr, rfl, _⟩ := h
    rfl
  · obtain ⟨x, v, l, n, wr, rfl, hd, ho, hA, hl, k⟩ := h
    obtain ⟨p, xs, rfl, hp, hx⟩ := hd.lst_inv
    have hlx := hx.len
    rw [List.length_map] at hlx
    refine ⟨_, (pss_cons
        (ps_expr (pe_fn (ok_check_many En) (hr.mono (by decide)) (pa_cons (pv 0) (pa_cons (pv 1) pa_nil))))
      (pss_cons
        (ps_for PassesOwn.never rfl (pi_enum rfl (fr_enumerate En) (pa_cons (pv 1) pa_nil)) (pg_tup rfl (pgs_cons (pg_name (i := 4) sc_check_sides.nd rfl (Or.inl rfl)) (pgs_cons (pg_name (i := 5) sc_check_sides.nd rfl (Or.inl rfl)) pgs_nil))) (pss_one (ps_if (pt_not (pt_val (pe_fn (ok_is_right_side En) (hr.mono (by decide)) (pa_cons (pv 5) (pa_cons (pv 2) (pa_cons (pv 3) pa_nil)))))) (pss_one ps_never) pss_nil)))
      (pss_one
        (ps_ret (pe_callBK (cr_sortBy (ok_side_key En) (hr.mono (by decide))) (by rfl) (fr_sorted En) bt_sorted (pa_cons (pe_callTy (call_list_dT rfl) (by rfl) (fr_list En) bt_list (pa_cons (pe_dcT (own := [("entry", 5)]) (g := gName 5) (tt := tYes) rfl sc_check_sides.nd (pi_listK (K := K) rfl (pv 1)) (blkOk_by (own := [("entry", 5)]) (N := N_check_sides) (sc := defScope (top 27)) (by decide +kernel)) hr.units0 (fun _ _ _ _ _ => (pg_name (i := 5) sc_check_sides.nd rfl (Or.inl rfl))) (fun _ _ _ _ _ => pts_nil) (fun _ _ _ _ _ => (pv 5)) (fun _ _ _ _ _ => pe_bl)) pa_nil)) pa_nil) (pk_cons (pe_glob (v := .ref (He.ga K "side_key")) (by rfl) (ok_side_key (P := P) (w := w) (base := base) En).gl rfl) pk_nil)))))), ?_⟩
    walk_at "w"
    refine ⟨_, _, _, rfl, hd, by rw [List.length_map]; exact hl, fun H1 s1 => ?_⟩
    have hp1 := s1 _ _ hp
    walk_at "w"
    refine ⟨p, xs, rfl, SqL.of hp1, for_it (walk_enum (xs := xs)) (fun i σ H' => ∃ (y u : Option V), σ = [some x, some (.ref p), some (.int n), some (.str wr), y, u] ∧ Same H H') ?_ ?_ ?_ ?_⟩
    · exact ⟨_, _, rfl, s1⟩
    · rintro i σ H2 hi ⟨y, u, rfl, s2⟩
      exact SqL.of (s2 _ _ hp)
    · rintro i v σ H2 H3 hi ⟨y, u, rfl, s2⟩ ⟨T, a, c, rfl, nT, rfl, ea, ec⟩
      cases ea
      obtain ⟨d, d1, d2⟩ := hx.get ec
      obtain ⟨e, he, rfl⟩ := map_mem (List.mem_of_getElem? d1)
      have s3 := s2.trans (Same.new (o := .tup [.int (i : Nat), c]) nT)
      walk_at "w"
      refine ⟨T, _, rfl, SqT.of upd_same, rfl, ?_⟩
      refine ⟨_, _, rfl, _, _, rfl, rfl, ?_⟩
      walk_at "w"
      refine ⟨_, e, _, wr, rfl, d2.up s3, ho e he, hA, ?_⟩
      walk_at "w"
      exact ⟨_, _, rfl, s3⟩
    rintro σ H2 ⟨y, u, rfl, s2⟩
    have hp2 := s2 _ _ hp
    walk_at "w"
    refine ⟨⟨_, SqL.of hp2⟩, fun D nD => ?_⟩
    refine dcT_lst (key := keyS) (l := l) (Same.refl H2) nD hp2 (by omega) hlx.symm ?_ ?_ ?_ ?_
    · intro i v e hv he
      obtain ⟨d, d1, d2⟩ := hx.get hv
      rw [List.getElem?_map, he] at d1
      cases d1
      obtain ⟨b, rfl, hb⟩ := (d2.up s2).side_inv
      exact ⟨b, rfl, hb⟩
    · exact fun _ => rfl
    · exact fun _ => rfl
    intro H3 kvs s3 hD hkl hkm
    walk_at "w"
    refine ⟨D, kvs, rfl, .inl hD, fun L bs nL hbs => ?_⟩
    obtain ⟨l1, j1, k1, m1⟩ := keys_das (key := keyS) (f := sideD) (l := l) (fun h => DA.side h) hbs fun q hq => by
      obtain ⟨e, he, hk⟩ := (hkm q.1).mp (valV_mem.mpr (List.mem_map.mpr ⟨q, hq, rfl⟩))
      exact ⟨e, he, hk⟩
    have mem1 : ∀ e, e ∈ l1 ↔ e ∈ l := fun e => ⟨m1 e, fun he => by
      have := valV_mem.mp ((hkm (keyS e)).mpr ⟨e, he, rfl⟩)
      rw [← k1] at this
      obtain ⟨x, hx, e2⟩ := List.mem_map.mp this
      rw [← keyS_inj e2]
      exact hx⟩
    have jl := j1.len
    rw [List.length_map, List.length_map] at jl
    have bl : l1.length = kvs.length := by
      have := congrArg List.length k1
      rw [List.length_map, List.length_map] at this
      exact this
    have sL := Same.new (o := .lst (bs.map V.ref)) nL
    obtain ⟨al, so, de⟩ := sideK_alike l1
    walk_at "w"
    refine ⟨L, bs.map V.ref, l1.map sideK, rfl, rfl, SqL.of upd_same, by rw [List.length_map]; omega, by rw [List.length_map, List.length_map]; exact jl.symm, al, so, de, ?_, ?_⟩
    · intro i v d hv hd H4 s4 R hR
      rw [List.getElem?_map] at hd
      cases he : l1[i]? with
      | none => rw [he] at hd; cases hd
      | some e =>
        rw [he] at hd
        cases hd
        obtain ⟨d, d1, d2⟩ := j1.get hv
        rw [List.getElem?_map, he] at d1
        cases d1
        exact ⟨v, e, rfl, (d2.up sL).up s4, (ho e (m1 e (List.mem_of_getElem? he))).2.2.1, hR⟩
    · intro H4 q ys s4 yl ym nq
      obtain ⟨l2, j2, q2, m2⟩ := das_subM ((j1.up sL).up s4) fun v hv => (ym v).mp hv
      refine k _ _ l2 (((s2.trans s3).trans (sL.trans s4)).free nq) ?_ (.lst upd_same (j2.up (Same.new nq))) ?_ ?_
      · exact ((s2.trans s3).trans (sL.trans s4)).trans (Same.new nq)
      · exact fun e => (das_same side_fun ((j1.up sL).up s4) j2 ym e).trans (mem1 e)
      · rw [q2, yl, List.length_map]
        omega
def sp_checkArcs : Sp := fun vs H Q _ => ∃ (v : V) (l : List Arc) (n : Int) (rd wr : Str), vs = [v, .int n, .str rd, .str wr] ∧ DA H v (.list (l.map arcD)) ∧ (∀ e ∈ l, AOk n rd wr 400 e) ∧ Alpha wr ∧ l.length ≤ 400 ∧
  ∀ q H' (l' : List Arc), H q = none → Same H H' → DA H' (.ref q) (.list (l'.map arcD)) → (∀ e, e ∈ l' ↔ e ∈ l) → l'.length ≤ 400 → Q (.ref q) H'
def N_check_arcs : List Str := ["value", "size", "read", "write", "index", "entry"]
theorem sc_check_arcs : FnScope N_check_arcs ["value", "size", "read", "write"] (defScope (top 28)) := ⟨rfl, rfl, rfl, by decide +kernel, rfl, by decide +kernel, by decide +kernel⟩
theorem ok_check_arcs (En : Env K mg fas fns prs) : Ok P w K mg base "check_arcs" 6 ["value", "size", "read", "write"] sp_checkArcs := by
  refine ok_mk 15 28 En sc_check_arcs (fun _ _ _ _ _ _ us hl => match us, hl with | [_, _, _, _], _ => rfl) (fun vs H Q E h => ?_) (fun f cdv A outer s H vs Q E hr h => ?_)
  · obtain ⟨v, l, n, rd, wr, rfl, _⟩ := h
    rfl
  · obtain ⟨v, l, n, rd, wr, rfl, hd, ho, hA, hl, k⟩ := h
    obtain ⟨p, xs, rfl, hp, hx⟩ := hd.lst_inv
    have hlx := hx.len
    rw [List.length_map] at hlx
    refine ⟨_, (pss_cons
        (ps_expr (pe_fn (ok_check_many En) (hr.mono (by decide)) (pa_cons pe_str (pa_cons (pv 0) pa_nil))))
      (pss_cons
        (ps_for PassesOwn.never rfl (pi_enum rfl (fr_enumerate En) (pa_cons (pv 0) pa_nil)) (pg_tup rfl (pgs_cons (pg_name (i := 4) sc_check_arcs.nd rfl (Or.inl rfl)) (pgs_cons (pg_name (i := 5) sc_check_arcs.nd rfl (Or.inl rfl)) pgs_nil))) (pss_one (ps_if (pt_not (pt_val (pe_fn (ok_is_right_arc En) (hr.mono (by decide)) (pa_cons (pv 5) (pa_cons (pv 1) (pa_cons (pv 2) (pa_cons (pv 3) pa_nil))))))) (pss_one ps_never) pss_nil)))
      (pss_one
        (ps_ret (pe_callBK (cr_sortBy (ok_arc_key En) (hr.mono (by decide))) (by rfl) (fr_sorted En) bt_sorted (pa_cons (pe_callTy (call_list_dT rfl) (by rfl) (fr_list En) bt_list (pa_cons (pe_dcT (own := [("entry", 5)]) (g := gName 5) (tt := tYes) rfl sc_check_arcs.nd (pi_listK (K := K) rfl (pv 0)) (blkOk_by (own := [("entry", 5)]) (N := N_check_arcs) (sc := defScope (top 28)) (by decide +kernel)) hr.units0 (fun _ _ _ _ _ => (pg_name (i := 5) sc_check_arcs.nd rfl (Or.inl rfl))) (fun _ _ _ _ _ => pts_nil) (fun _ _ _ _ _ => (pv 5)) (fun _ _ _ _ _ => pe_bl)) pa_nil)) pa_nil) (pk_cons (pe_glob (v := .ref (He.ga K "arc_key")) (by rfl) (ok_arc_key (P := P) (w := w) (base := base) En).gl rfl) pk_nil)))))), ?_⟩
    walk_at "w"
    refine ⟨_, _, _, rfl, hd, by rw [List.length_map]; exact hl, fun H1 s1 => ?_⟩
    have hp1 := s1 _ _ hp
    walk_at "w"
    refine ⟨p, xs, rfl, SqL.of hp1, for_it (walk_enum (xs := xs)) (fun i σ H' => ∃ (y u : Option V), σ = [some (.ref p), some (.int n), some (.str rd), some (.str wr), y, u] ∧ Same H H') ?_ ?_ ?_ ?_⟩
    · exact ⟨_, _, rfl, s1⟩
    · rintro i σ H2 hi ⟨y, u, rfl, s2⟩
      exact SqL.of (s2 _ _ hp)
    · rintro i v σ H2 H3 hi ⟨y, u, rfl, s2⟩ ⟨T, a, c, rfl, nT, rfl, ea, ec⟩
      cases ea
      obtain ⟨d, d1, d2⟩ := hx.get ec
      obtain ⟨e, he, rfl⟩ := map_mem (List.mem_of_getElem? d1)
      have s3 := s2.trans (Same.new (o := .tup [.int (i : Nat), c]) nT)
      walk_at "w"
      refine ⟨T, _, rfl, SqT.of upd_same, rfl, ?_⟩
      refine ⟨_, _, rfl, _, _, rfl, rfl, ?_⟩
      walk_at "w"
      refine ⟨_, e, _, rd, wr, rfl, d2.up s3, ho e he, hA, ?_⟩
      walk_at "w"
      exact ⟨_, _, rfl, s3⟩
    rintro σ H2 ⟨y, u, rfl, s2⟩
    have hp2 := s2 _ _ hp
    walk_at "w"
    refine ⟨⟨_, SqL.of hp2⟩, fun D nD => ?_⟩
    refine dcT_lst (key := keyA) (l := l) (Same.refl H2) nD hp2 (by omega) hlx.symm ?_ ?_ ?_ ?_
    · intro i v e hv he
      obtain ⟨d, d1, d2⟩ := hx.get hv
      rw [List.getElem?_map, he] at d1
      cases d1
      obtain ⟨b, rfl, hb⟩ := (d2.up s2).arc_inv
      exact ⟨b, rfl, hb⟩
    · exact fun _ => rfl
    · exact fun _ => rfl
    intro H3 kvs s3 hD hkl hkm
    walk_at "w"
    refine ⟨D, kvs, rfl, .inl hD, fun L bs nL hbs => ?_⟩
    obtain ⟨l1, j1, k1, m1⟩ := keys_das (key := keyA) (f := arcD) (l := l) (fun h => DA.arc h) hbs fun q hq => by
      obtain ⟨e, he, hk⟩ := (hkm q.1).mp (valV_mem.mpr (List.mem_map.mpr ⟨q, hq, rfl⟩))
      exact ⟨e, he, hk⟩
    have mem1 : ∀ e, e ∈ l1 ↔ e ∈ l := fun e => ⟨m1 e, fun he => by
      have := valV_mem.mp ((hkm (keyA e)).mpr ⟨e, he, rfl⟩)
      rw [← k1] at this
      obtain ⟨x, hx, e2⟩ := List.mem_map.mp this
      rw [← keyA_inj e2]
      exact hx⟩
    have jl := j1.len
    rw [List.length_map, List.length_map] at jl
    have bl : l1.length = kvs.length := by
      have := congrArg List.length k1
      rw [List.length_map, List.length_map] at this
      exact this
    have sL := Same.new (o := .lst (bs.map V.ref)) nL
    obtain ⟨al, so, de⟩ := arcK_alike l1
    walk_at "w"
    refine ⟨L, bs.map V.ref, l1.map arcK, rfl, rfl, SqL.of upd_same, by rw [List.length_map]; omega, by rw [List.length_map, List.length_map]; exact jl.symm, al, so, de, ?_, ?_⟩
    · intro i v d hv hd H4 s4 R hR
      rw [List.getElem?_map] at hd
      cases he : l1[i]? with
      | none => rw [he] at hd; cases hd
      | some e =>
        rw [he] at hd
        cases hd
        obtain ⟨d, d1, d2⟩ := j1.get hv
        rw [List.getElem?_map, he] at d1
        cases d1
        exact ⟨v, e, rfl, (d2.up sL).up s4, (ho e (m1 e (List.mem_of_getElem? he))).2.2.1.1, hR⟩
    · intro H4 q ys s4 yl ym nq
      obtain ⟨l2, j2, q2, m2⟩ := das_subM ((j1.up sL).up s4) fun v hv => (ym v).mp hv
      refine k _ _ l2 (((s2.trans s3).trans (sL.trans s4)).free nq) ?_ (.lst upd_same (j2.up (Same.new nq))) ?_ ?_
      · exact ((s2.trans s3).trans (sL.trans s4)).trans (Same.new nq)
      · exact fun e => (das_same arc_fun ((j1.up sL).up s4) j2 ym e).trans (mem1 e)
      · rw [q2, yl, List.length_map]
        omega
end
end GJ


set_option Elab.async false
set_option linter.all false
set_option maxRecDepth 100000
set_option maxHeartbeats 4000000
namespace GJ
open PySem PySem.Spec PyProof.Rows L2 TL
set_option pp.maxSteps 300
/-! the class Machine -/
abbrev mC (K : PySem.W.Frag) : Addr := He.ga K "Machine"
mutual
theorem DA.off {H : Hp} {x : Addr} {o : HO} (hl : ∀ xs, H x ≠ some (.lst xs)) (ht : ∀ xs, H x ≠ some (.tup xs)) : ∀ (d : PyData) {v : V}, DA H v d → DA (upd H x o) v d
  | .none, _, .non => .non
  | .bool b, _, .bl _ => .bl b
  | .int i, _, .int _ => .int i
  | .str z, _, .str _ => .str z
  | .list ds, _, .lst (a := a) (xs := ys) h r => .lst (by rw [upd_ne (fun e => hl ys (by rw [← e]; exact h))]; exact h) (DAs.off hl ht ds r)
  | .tuple ds, _, .tup (a := a) (xs := ys) h r => .tup (by rw [upd_ne (fun e => ht ys (by rw [← e]; exact h))]; exact h) (DAs.off hl ht ds r)
  | .dict _, _, h => nomatch h
theorem DAs.off {H : Hp} {x : Addr} {o : HO} (hl : ∀ xs, H x ≠ some (.lst xs)) (ht : ∀ xs, H x ≠ some (.tup xs)) : ∀ (ds : List PyData) {vs : List V}, DAs H vs ds → DAs (upd H x o) vs ds
  | [], _, .nil => .nil
  | d :: ds, _, .cons h r => .cons (DA.off hl ht d h) (DAs.off hl ht ds r)
end
theorem DA.ins {H : Hp} {x : Addr} {o : HO} {C dx : Addr} {fs : List (Str × V)} (hx : H x = some (.ins C dx fs)) {d : PyData} {v : V} (h : DA H v d) : DA (upd H x o) v d :=
  DA.off (fun xs e => by rw [hx] at e; cases e) (fun xs e => by rw [hx] at e; cases e) d h
def mFs (M : Parts) (b a e : Addr) : List (Str × V) := [("kept_read", .str M.rd), ("kept_write", .str M.wr), ("kept_size", .int M.n), ("kept_begins", .ref b), ("kept_arcs", .ref a), ("kept_ends", .ref e)]
/-- a machine made of the parts M stands at p -/
structure MA (K : PySem.W.Frag) (H : Hp) (p : Addr) (M : Parts) : Prop where
  ex : ∃ (dx b a e : Addr) (lb : List Side) (la : List Arc) (le : List Side), H p = some (.ins (mC K) dx (mFs M b a e)) ∧ DA H (.ref b) (.list (lb.map sideD)) ∧ DA H (.ref a) (.list (la.map arcD)) ∧ DA H (.ref e) (.list (le.map sideD)) ∧
    (∀ x, x ∈ lb ↔ x ∈ M.bs) ∧ (∀ x, x ∈ la ↔ x ∈ M.as) ∧ (∀ x, x ∈ le ↔ x ∈ M.es) ∧ lb.length ≤ 400 ∧ la.length ≤ 400 ∧ le.length ≤ 400
theorem MA.up {K : PySem.W.Frag} {H H' : Hp} {p : Addr} {M : Parts} (h : MA K H p M) (s : Same H H') : MA K H' p M := by
  obtain ⟨dx, b, a, e, lb, la, le, h1, h2, h3, h4, r⟩ := h.ex
  exact ⟨dx, b, a, e, lb, la, le, s _ _ h1, h2.up s, h3.up s, h4.up s, r⟩
end GJ

set_option Elab.async false
set_option linter.all false
set_option maxRecDepth 100000
set_option maxHeartbeats 4000000
namespace GJ
open PySem PySem.Spec PyProof.Rows L2 TL
set_option pp.maxSteps 300
section
variable {P : Program} {w : World} {K : PySem.W.Frag} {mg : Str → Option Value} {base : Heap}
set_option hygiene false in
local macro_rules | `(tactic| walk_at "w") => `(tactic| repeat (first
  | refine ⟨_, rfl, ?_⟩
  | refine ⟨_, _, rfl, rfl, (by first | decide | omega), fun r r0 r1 re => ?_⟩
  | refine ⟨_, _, rfl, rfl, (by first | exact Or.inl ⟨by omega, by omega⟩ | exact Or.inr ⟨by omega, by omega⟩ : CMul _ _), ?_⟩
  | refine ⟨_, _, rfl, rfl, (by first | exact ⟨by decide, by decide⟩ | exact ⟨by omega, by omega⟩ : CDiv _ _), ?_⟩
  | refine ⟨_, _, rfl, rfl, (by exact ⟨by decide, by decide, by decide⟩ : CPow _ _), ?_⟩
  | refine ⟨_, _, rfl, rfl, ?_⟩
  | refine ⟨(by rfl : scal _ _ = true), ?_⟩
  | refine Or.inl ⟨_, rfl, ?_⟩
  | refine ⟨_, _, rfl, fun m m0 m1 m2 => ?_⟩
  | refine ⟨_, _, _, _, rfl, rfl, SqL.of (by first | assumption | exact upd_same | exact fx _ | exact fy _), rfl, ?_⟩
  | refine ⟨_, _, _, _, rfl, rfl, (by first | assumption | exact upd_same | exact fx _ | exact fy _), rfl, ?_⟩
  | refine ⟨_, _, _, _, rfl, rfl, SqT.of (by first | assumption | exact upd_same | exact fx _ | exact fy _), rfl, ?_⟩
  | refine ⟨(szle (by omega) : Str.length _ ≤ sizeLine), ?_⟩
  | refine ⟨(szle (by first | omega | (rw [sla]; omega) | (rw [sla, sla]; omega)) : Str.length _ + Str.length _ ≤ sizeLine), ?_⟩
  | refine ⟨_, _, rfl, len_lst (by first | assumption | exact upd_same | exact fx _ | exact fy _), ?_⟩))
set_option hygiene false in
local macro_rules | `(tactic| walk_at "if") => `(tactic| (refine ite2 (fun hc => ?_) (fun hc => ?_) <;>
  simp only [decide_eq_true_eq, Bool.not_eq_true', decide_eq_false_iff_not, V.int.injEq, V.str.injEq, V.bl.injEq, Decidable.not_not, Bool.not_eq_true, V.int_ne, Int.not_lt, Int.not_le, Bool.true_eq_false, Bool.false_eq_true, not_true_eq_false, not_false_eq_true] at hc))
set_option hygiene false in
local macro_rules | `(tactic| walk_at "new") => `(tactic| (refine ⟨by first | decide | (simp only [List.length_cons, List.length_nil, List.length_append, List.length_map]; first | decide | (rw [sizeLine_eq]; omega)), fun p np => ?_⟩))
set_option hygiene false in
local macro_rules | `(tactic| walk_at "yes") => `(tactic| refine itY (by first | rfl | exact decide_eq_true (by first | rfl | omega | assumption) | (simp only [decide_eq_true_eq, Bool.not_eq_true', decide_eq_false_iff_not, V.int.injEq, V.str.injEq, V.bl.injEq]; first | omega | assumption)) ?_)
set_option hygiene false in
local macro_rules | `(tactic| walk_at "no") => `(tactic| refine itN (by first | decide | (simp only [decide_eq_true_eq, Bool.not_eq_true', decide_eq_false_iff_not, V.int.injEq, V.str.injEq, V.bl.injEq, Bool.not_eq_true, Decidable.not_not]; first | omega | assumption)) ?_)
def sp_init (K : PySem.W.Frag) : Sp := fun vs H Q _ => ∃ (H0 : Hp) (x dx b a e : Addr) (M : Parts), vs = [.ref x, .str M.rd, .str M.wr, .int M.n, .ref b, .ref a, .ref e] ∧ H x = some (.ins (mC K) dx []) ∧ H0 x = none ∧ Same H0 H ∧
  DA H (.ref b) (.list (M.bs.map sideD)) ∧ DA H (.ref a) (.list (M.as.map arcD)) ∧ DA H (.ref e) (.list (M.es.map sideD)) ∧ PV M ∧
  ∀ H' (lb : List Side) (la : List Arc) (le : List Side) (qb qa qe : Addr), Same H0 H' → H0 qb = none → H0 qa = none → H0 qe = none → H' x = some (.ins (mC K) dx (mFs M qb qa qe)) →
    DA H' (.ref qb) (.list (lb.map sideD)) → DA H' (.ref qa) (.list (la.map arcD)) → DA H' (.ref qe) (.list (le.map sideD)) →
    (∀ x, x ∈ lb ↔ x ∈ M.bs) → (∀ x, x ∈ la ↔ x ∈ M.as) → (∀ x, x ∈ le ↔ x ∈ M.es) → lb.length ≤ 400 → la.length ≤ 400 → le.length ≤ 400 → Q .non H'
def N_Machine_init : List Str := ["self", "read", "write", "size", "begins", "arcs", "ends"]
theorem sc_Machine_init : FnScope N_Machine_init ["self", "read", "write", "size", "begins", "arcs", "ends"] (defScope (inClass (top 31) 0)) := ⟨rfl, rfl, rfl, by decide +kernel, rfl, by decide +kernel, by decide +kernel⟩
theorem ok_init (En : Env K mg fas fns prs) : ∃ fd, FnOk P w K mg base CX0 7 (He.ma K (mC K) "__init__") fd ["self", "read", "write", "size", "begins", "arcs", "ends"] (sp_init K) ∧
    KBn K fd ["self", "read", "write", "size", "begins", "arcs", "ends"] 4 ["begins", "arcs", "ends"] (fun us ws => us ++ ws) (fun vs zs => vs ++ zs) := by
  obtain ⟨fd, F⟩ := En.fn 64 dInit rfl
  have F' : FunD K "__init__" "Machine.__init__" (defArgs s_init) (defBody s_init) (defScope s_init) [] [] (He.ma K (mC K) "__init__") fd := F
  refine ⟨fd, F'.ok sc_Machine_init (fun vs H Q E h => ?_) fun cdv A outer s H vs Q E hr h => ?_, ?_⟩
  · obtain ⟨H0, x, dx, b, a, e, M, rfl, _⟩ := h
    rfl
  · suffices hh : ∃ t, PSs (cxOf CX0 P w K mg base N_Machine_init "Machine.__init__" (defScope s_init) (He.ma K (mC K) "__init__") cdv A outer s H E).nox (defBody s_init) t ∧ t { nx := fun _ H' => Q .non H', rt := Q } (start N_Machine_init vs) H by
      obtain ⟨t, h1, h2⟩ := hh
      exact ⟨t, h1.nox, h2⟩
    obtain ⟨H0, x, dx, b, a, e, M, rfl, hx, h0, sm, db, da, de, hPV, k⟩ := h
    refine ⟨_, (pss_cons
        (ps_fld (pv 0) (pe_fn (ok_check_letters En) (hr.mono (by decide)) (pa_cons (pv 1) pa_nil)) rfl)
      (pss_cons
        (ps_fld (pv 0) (pe_fn (ok_check_letters En) (hr.mono (by decide)) (pa_cons (pv 2) pa_nil)) rfl)
      (pss_cons
        (ps_fld (pv 0) (pe_fn (ok_check_number En) (hr.mono (by decide)) (pa_cons (pv 3) (pa_cons pe_int (pa_cons (pe_glob (v := .int 64) rfl (gi_MOST_STATES En).choose_spec ⟨_, rfl⟩) pa_nil)))) rfl)
      (pss_cons
        (ps_fld (pv 0) (pe_fn (ok_check_sides En) (hr.mono (by decide)) (pa_cons pe_str (pa_cons (pv 4) (pa_cons (pv 3) (pa_cons (pv 2) pa_nil))))) rfl)
      (pss_cons
        (ps_fld (pv 0) (pe_fn (ok_check_arcs En) (hr.mono (by decide)) (pa_cons (pv 5) (pa_cons (pv 3) (pa_cons (pv 1) (pa_cons (pv 2) pa_nil))))) rfl)
      (pss_one
        (ps_fld (pv 0) (pe_fn (ok_check_sides En) (hr.mono (by decide)) (pa_cons pe_str (pa_cons (pv 6) (pa_cons (pv 3) (pa_cons (pv 2) pa_nil))))) rfl))))))), ?_⟩
    walk_at "w"
    refine ⟨hPV.ard, ?_⟩
    walk_at "w"
    refine ⟨x, mC K, dx, _, rfl, hx, cl_Machine En, no_kept_read En, Nat.le_of_ble_eq_true rfl, ?_⟩
    obtain ⟨G1, hG1⟩ : ∃ G, G = upd H x (.ins (mC K) dx (putF "kept_read" (.str M.rd) [])) := ⟨_, rfl⟩
    replace db := db.ins (o := .ins (mC K) dx (putF "kept_read" (.str M.rd) [])) hx
    replace da := da.ins (o := .ins (mC K) dx (putF "kept_read" (.str M.rd) [])) hx
    replace de := de.ins (o := .ins (mC K) dx (putF "kept_read" (.str M.rd) [])) hx
    replace sm : Same H0 G1 := by rw [hG1]; exact Same.put sm h0
    rw [← hG1] at db da de
    rw [← hG1]
    replace hx : G1 x = some (.ins (mC K) dx [("kept_read", .str M.rd)]) := by rw [hG1]; exact upd_same
    walk_at "w"
    refine ⟨hPV.awr, ?_⟩
    walk_at "w"
    refine ⟨x, mC K, dx, _, rfl, hx, cl_Machine En, no_kept_write En, Nat.le_of_ble_eq_true rfl, ?_⟩
    obtain ⟨G2, hG2⟩ : ∃ G, G = upd G1 x (.ins (mC K) dx (putF "kept_write" (.str M.wr) [("kept_read", .str M.rd)])) := ⟨_, rfl⟩
    replace db := db.ins (o := .ins (mC K) dx (putF "kept_write" (.str M.wr) [("kept_read", .str M.rd)])) hx
    replace da := da.ins (o := .ins (mC K) dx (putF "kept_write" (.str M.wr) [("kept_read", .str M.rd)])) hx
    replace de := de.ins (o := .ins (mC K) dx (putF "kept_write" (.str M.wr) [("kept_read", .str M.rd)])) hx
    replace sm : Same H0 G2 := by rw [hG2]; exact Same.put sm h0
    rw [← hG2] at db da de
    rw [← hG2]
    replace hx : G2 x = some (.ins (mC K) dx [("kept_read", .str M.rd), ("kept_write", .str M.wr)]) := by rw [hG2]; exact upd_same
    have n0 := hPV.n0
    have n1 := hPV.n1
    walk_at "w"
    refine ⟨_, _, _, rfl, by omega, by omega, ?_⟩
    walk_at "w"
    refine ⟨x, mC K, dx, _, rfl, hx, cl_Machine En, no_kept_size En, Nat.le_of_ble_eq_true rfl, ?_⟩
    obtain ⟨G3, hG3⟩ : ∃ G, G = upd G2 x (.ins (mC K) dx (putF "kept_size" (.int M.n) [("kept_read", .str M.rd), ("kept_write", .str M.wr)])) := ⟨_, rfl⟩
    replace db := db.ins (o := .ins (mC K) dx (putF "kept_size" (.int M.n) [("kept_read", .str M.rd), ("kept_write", .str M.wr)])) hx
    replace da := da.ins (o := .ins (mC K) dx (putF "kept_size" (.int M.n) [("kept_read", .str M.rd), ("kept_write", .str M.wr)])) hx
    replace de := de.ins (o := .ins (mC K) dx (putF "kept_size" (.int M.n) [("kept_read", .str M.rd), ("kept_write", .str M.wr)])) hx
    replace sm : Same H0 G3 := by rw [hG3]; exact Same.put sm h0
    rw [← hG3] at db da de
    rw [← hG3]
    replace hx : G3 x = some (.ins (mC K) dx [("kept_read", .str M.rd), ("kept_write", .str M.wr), ("kept_size", .int M.n)]) := by rw [hG3]; exact upd_same
    walk_at "w"
    refine ⟨_, _, M.bs, _, _, rfl, db, fun e he => (hPV.bs e he).mono (by decide), hPV.awr, Nat.le_trans hPV.cb (by decide), fun qb K1 lb fb s1 jb mb cb => ?_⟩
    have nb := sm.free fb
    replace hx := s1 _ _ hx
    replace db := db.up s1
    replace da := da.up s1
    replace de := de.up s1
    replace sm := sm.trans s1
    walk_at "w"
    refine ⟨x, mC K, dx, _, rfl, hx, cl_Machine En, no_kept_begins En, Nat.le_of_ble_eq_true rfl, ?_⟩
    obtain ⟨G4, hG4⟩ : ∃ G, G = upd K1 x (.ins (mC K) dx (putF "kept_begins" (.ref qb) [("kept_read", .str M.rd), ("kept_write", .str M.wr), ("kept_size", .int M.n)])) := ⟨_, rfl⟩
    replace db := db.ins (o := .ins (mC K) dx (putF "kept_begins" (.ref qb) [("kept_read", .str M.rd), ("kept_write", .str M.wr), ("kept_size", .int M.n)])) hx
    replace da := da.ins (o := .ins (mC K) dx (putF "kept_begins" (.ref qb) [("kept_read", .str M.rd), ("kept_write", .str M.wr), ("kept_size", .int M.n)])) hx
    replace de := de.ins (o := .ins (mC K) dx (putF "kept_begins" (.ref qb) [("kept_read", .str M.rd), ("kept_write", .str M.wr), ("kept_size", .int M.n)])) hx
    replace jb := jb.ins (o := .ins (mC K) dx (putF "kept_begins" (.ref qb) [("kept_read", .str M.rd), ("kept_write", .str M.wr), ("kept_size", .int M.n)])) hx
    replace sm : Same H0 G4 := by rw [hG4]; exact Same.put sm h0
    rw [← hG4] at db da de jb
    rw [← hG4]
    replace hx : G4 x = some (.ins (mC K) dx [("kept_read", .str M.rd), ("kept_write", .str M.wr), ("kept_size", .int M.n), ("kept_begins", .ref qb)]) := by rw [hG4]; exact upd_same
    walk_at "w"
    refine ⟨_, M.as, _, _, _, rfl, da, fun e he => (hPV.as e he).mono (by decide), hPV.awr, Nat.le_trans hPV.ca (by decide), fun qa K2 la fa s2 ja ma ca => ?_⟩
    have na := sm.free fa
    replace hx := s2 _ _ hx
    replace db := db.up s2
    replace da := da.up s2
    replace de := de.up s2
    replace jb := jb.up s2
    replace sm := sm.trans s2
    walk_at "w"
    refine ⟨x, mC K, dx, _, rfl, hx, cl_Machine En, no_kept_arcs En, Nat.le_of_ble_eq_true rfl, ?_⟩
    obtain ⟨G5, hG5⟩ : ∃ G, G = upd K2 x (.ins (mC K) dx (putF "kept_arcs" (.ref qa) [("kept_read", .str M.rd), ("kept_write", .str M.wr), ("kept_size", .int M.n), ("kept_begins", .ref qb)])) := ⟨_, rfl⟩
    replace db := db.ins (o := .ins (mC K) dx (putF "kept_arcs" (.ref qa) [("kept_read", .str M.rd), ("kept_write", .str M.wr), ("kept_size", .int M.n), ("kept_begins", .ref qb)])) hx
    replace da := da.ins (o := .ins (mC K) dx (putF "kept_arcs" (.ref qa) [("kept_read", .str M.rd), ("kept_write", .str M.wr), ("kept_size", .int M.n), ("kept_begins", .ref qb)])) hx
    replace de := de.ins (o := .ins (mC K) dx (putF "kept_arcs" (.ref qa) [("kept_read", .str M.rd), ("kept_write", .str M.wr), ("kept_size", .int M.n), ("kept_begins", .ref qb)])) hx
    replace jb := jb.ins (o := .ins (mC K) dx (putF "kept_arcs" (.ref qa) [("kept_read", .str M.rd), ("kept_write", .str M.wr), ("kept_size", .int M.n), ("kept_begins", .ref qb)])) hx
    replace ja := ja.ins (o := .ins (mC K) dx (putF "kept_arcs" (.ref qa) [("kept_read", .str M.rd), ("kept_write", .str M.wr), ("kept_size", .int M.n), ("kept_begins", .ref qb)])) hx
    replace sm : Same H0 G5 := by rw [hG5]; exact Same.put sm h0
    rw [← hG5] at db da de jb ja
    rw [← hG5]
    replace hx : G5 x = some (.ins (mC K) dx [("kept_read", .str M.rd), ("kept_write", .str M.wr), ("kept_size", .int M.n), ("kept_begins", .ref qb), ("kept_arcs", .ref qa)]) := by rw [hG5]; exact upd_same
    walk_at "w"
    refine ⟨_, _, M.es, _, _, rfl, de, fun e he => (hPV.es e he).mono (by decide), hPV.awr, Nat.le_trans hPV.ce (by decide), fun qe K3 le fe s3 je me ce => ?_⟩
    have ne := sm.free fe
    replace hx := s3 _ _ hx
    replace db := db.up s3
    replace da := da.up s3
    replace de := de.up s3
    replace jb := jb.up s3
    replace ja := ja.up s3
    replace sm := sm.trans s3
    walk_at "w"
    refine ⟨x, mC K, dx, _, rfl, hx, cl_Machine En, no_kept_ends En, Nat.le_of_ble_eq_true rfl, ?_⟩
    obtain ⟨G6, hG6⟩ : ∃ G, G = upd K3 x (.ins (mC K) dx (putF "kept_ends" (.ref qe) [("kept_read", .str M.rd), ("kept_write", .str M.wr), ("kept_size", .int M.n), ("kept_begins", .ref qb), ("kept_arcs", .ref qa)])) := ⟨_, rfl⟩
    replace db := db.ins (o := .ins (mC K) dx (putF "kept_ends" (.ref qe) [("kept_read", .str M.rd), ("kept_write", .str M.wr), ("kept_size", .int M.n), ("kept_begins", .ref qb), ("kept_arcs", .ref qa)])) hx
    replace da := da.ins (o := .ins (mC K) dx (putF "kept_ends" (.ref qe) [("kept_read", .str M.rd), ("kept_write", .str M.wr), ("kept_size", .int M.n), ("kept_begins", .ref qb), ("kept_arcs", .ref qa)])) hx
    replace de := de.ins (o := .ins (mC K) dx (putF "kept_ends" (.ref qe) [("kept_read", .str M.rd), ("kept_write", .str M.wr), ("kept_size", .int M.n), ("kept_begins", .ref qb), ("kept_arcs", .ref qa)])) hx
    replace jb := jb.ins (o := .ins (mC K) dx (putF "kept_ends" (.ref qe) [("kept_read", .str M.rd), ("kept_write", .str M.wr), ("kept_size", .int M.n), ("kept_begins", .ref qb), ("kept_arcs", .ref qa)])) hx
    replace ja := ja.ins (o := .ins (mC K) dx (putF "kept_ends" (.ref qe) [("kept_read", .str M.rd), ("kept_write", .str M.wr), ("kept_size", .int M.n), ("kept_begins", .ref qb), ("kept_arcs", .ref qa)])) hx
    replace je := je.ins (o := .ins (mC K) dx (putF "kept_ends" (.ref qe) [("kept_read", .str M.rd), ("kept_write", .str M.wr), ("kept_size", .int M.n), ("kept_begins", .ref qb), ("kept_arcs", .ref qa)])) hx
    replace sm : Same H0 G6 := by rw [hG6]; exact Same.put sm h0
    rw [← hG6] at db da de jb ja je
    rw [← hG6]
    replace hx : G6 x = some (.ins (mC K) dx [("kept_read", .str M.rd), ("kept_write", .str M.wr), ("kept_size", .int M.n), ("kept_begins", .ref qb), ("kept_arcs", .ref qa), ("kept_ends", .ref qe)]) := by rw [hG6]; exact upd_same
    exact k _ lb la le qb qa qe sm nb na ne hx jb ja je mb ma me cb ca ce
  · obtain ⟨oc, od, dV, kV, doc, pm, an, cdv, ct, osl, rfl, lk, hcd, hD, hK⟩ := F'.ex
    rcases hD with ⟨_, rfl⟩ | ⟨e, _⟩
    · refine ⟨fun s us ws X l1 l2 => ?_, fun r1 r2 => r1.append r2⟩
      match us, l1, ws, l2 with
      | [u1, u2, u3, u4], _, [w1, w2, w3], _ => exact .of_eq rfl
    · exact absurd rfl e
end
end GJ


set_option Elab.async false
set_option linter.all false
set_option maxRecDepth 100000
set_option maxHeartbeats 4000000
namespace GJ
open PySem PySem.Spec PyProof.Rows L2 TL
set_option pp.maxSteps 300
section
variable {X : Cx} {p pos : Pos} {e : Expr} {es : List Expr} {kws : List Keyword} {t tk : TA}
theorem pe_mkMachine (En : Env X.K X.mg fas fns prs) (hr : Room 8 X.A) (ha : PA X (e :: es) t) (hkw : PK X kws tk) (hg : Gl X "Machine" := by rfl)
    (hall : (backToKw pos (keywordEach kws X.env)).all (·.1.isSome) = true := by rfl) (hks : (backToKw pos (keywordEach kws X.env)).filterMap (·.1) = [Str.ofString "begins", Str.ofString "arcs", Str.ofString "ends"] := by rfl)
    (he : starEach (e :: es) X.env = (false, eval e X.env) :: starEach es X.env := by rfl) (hpl : ((backTo pos (starEach (e :: es) X.env)).any (·.1) || (backToKw pos (keywordEach kws X.env)).any (·.1.isNone)) = false := by rfl) :
    PE X (.Call (.Name "Machine" p) (e :: es) kws pos) (tMakeK (mC X.K) 3 3 (sp_init X.K) (fun vs zs => vs ++ zs) E0 t tk) := by
  obtain ⟨fd, F, b⟩ := ok_init (P := X.prog) (w := X.w) (base := X.base) En
  exact pe_makeK (mk_Machine En) F hr hg (gl_Machine En) b pass0 ha hkw hall hks (by decide) he hpl
theorem Wd.lsts {z : Zz} {H H' : Hp} (w : Wd z H H') (h : ∀ b ∈ z.m, ∃ ys, H b = some (.lst ys)) : ∀ b ∈ z.m, ∃ ys, H' b = some (.lst ys) := fun b hb => by
  obtain ⟨_, ⟨ns, i, x, t, d, s1, s2, _⟩, _⟩ := w.st
  by_cases e1 : b = z.s
  · exact ⟨_, by rw [e1]; exact s1⟩
  by_cases e2 : b = z.c
  · exact ⟨_, by rw [e2]; exact s2⟩
  obtain ⟨ys, hy⟩ := h b hb
  exact ⟨ys, w.kp _ _ e1 e2 hy⟩
theorem da_hideL {α : Type} {f : α → PyData} (hf : ∀ {H : Hp} {v : V} {a : α}, DA H v (f a) → ∃ p xs, v = .ref p ∧ H p = some (.tup xs) ∧ ∀ {H' : Hp}, H' p = some (.tup xs) → DA H' v (f a)) {z : Zz} {H : Hp} {q : Addr} {l : List α} (hz : St z H) (hm : ∀ b ∈ z.m, ∃ ys, H b = some (.lst ys)) (n1 : q ≠ z.s) (n2 : q ≠ z.c) (n3 : q ∉ z.m)
    (h : DA H (.ref q) (.list (l.map f))) : DA (hide z H) (.ref q) (.list (l.map f)) := by
  obtain ⟨_, xs, e, h1, h2⟩ := h.lst_inv
  cases e
  obtain ⟨_, ⟨ns, i, x, t, d, s1, s2, _⟩, _⟩ := hz
  refine .lst (hide_of ⟨n1, n2, n3⟩ h1) (DAs.of_get h2.len fun i v d e1 e2 => ?_)
  obtain ⟨d', e3, e4⟩ := h2.get e1
  rw [e2] at e3
  cases e3
  rw [List.getElem?_map] at e2
  cases q : l[i]? with
  | none => rw [q] at e2; cases e2
  | some a =>
    rw [q] at e2
    cases e2
    obtain ⟨p, ys, rfl, hp, hk⟩ := hf e4
    refine hk (hide_of ⟨fun e => ?_, fun e => ?_, fun e => ?_⟩ hp)
    · rw [e, s1] at hp; cases hp
    · rw [e, s2] at hp; cases hp
    · obtain ⟨ys, h3⟩ := hm _ e
      rw [h3] at hp; cases hp
theorem side_tup {H : Hp} {v : V} {a : Side} (h : DA H v (sideD a)) : ∃ p xs, v = .ref p ∧ H p = some (.tup xs) ∧ ∀ {H' : Hp}, H' p = some (.tup xs) → DA H' v (sideD a) := by
  obtain ⟨p, rfl, hp⟩ := h.side_inv
  exact ⟨p, _, rfl, hp, fun h => DA.side h⟩
theorem arc_tup {H : Hp} {v : V} {a : Arc} (h : DA H v (arcD a)) : ∃ p xs, v = .ref p ∧ H p = some (.tup xs) ∧ ∀ {H' : Hp}, H' p = some (.tup xs) → DA H' v (arcD a) := by
  obtain ⟨p, rfl, hp⟩ := h.arc_inv
  exact ⟨p, _, rfl, hp, fun h => DA.arc h⟩
end
section
variable {P : Program} {w : World} {K : PySem.W.Frag} {mg : Str → Option Value} {base : Heap}
set_option hygiene false in
local macro_rules | `(tactic| walk_at "w") => `(tactic| repeat (first
  | refine ⟨_, rfl, ?_⟩
  | refine ⟨_, _, rfl, rfl, (by first | decide | omega), fun r r0 r1 re => ?_⟩
  | refine ⟨_, _, rfl, rfl, (by first | exact Or.inl ⟨by omega, by omega⟩ | exact Or.inr ⟨by omega, by omega⟩ : CMul _ _), ?_⟩
  | refine ⟨_, _, rfl, rfl, (by first | exact ⟨by decide, by decide⟩ | exact ⟨by omega, by omega⟩ : CDiv _ _), ?_⟩
  | refine ⟨_, _, rfl, rfl, (by exact ⟨by decide, by decide, by decide⟩ : CPow _ _), ?_⟩
  | refine ⟨_, _, rfl, rfl, ?_⟩
  | refine ⟨(by rfl : scal _ _ = true), ?_⟩
  | refine Or.inl ⟨_, rfl, ?_⟩
  | refine ⟨_, _, rfl, fun m m0 m1 m2 => ?_⟩
  | refine ⟨_, _, _, _, rfl, rfl, SqL.of (by first | assumption | exact upd_same | exact fx _ | exact fy _), rfl, ?_⟩
  | refine ⟨_, _, _, _, rfl, rfl, (by first | assumption | exact upd_same | exact fx _ | exact fy _), rfl, ?_⟩
  | refine ⟨_, _, _, _, rfl, rfl, SqT.of (by first | assumption | exact upd_same | exact fx _ | exact fy _), rfl, ?_⟩
  | refine ⟨(szle (by omega) : Str.length _ ≤ sizeLine), ?_⟩
  | refine ⟨(szle (by first | omega | (rw [sla]; omega) | (rw [sla, sla]; omega)) : Str.length _ + Str.length _ ≤ sizeLine), ?_⟩
  | refine ⟨_, _, rfl, len_lst (by first | assumption | exact upd_same | exact fx _ | exact fy _), ?_⟩))
set_option hygiene false in
local macro_rules | `(tactic| walk_at "if") => `(tactic| (refine ite2 (fun hc => ?_) (fun hc => ?_) <;>
  simp only [decide_eq_true_eq, Bool.not_eq_true', decide_eq_false_iff_not, V.int.injEq, V.str.injEq, V.bl.injEq, Decidable.not_not, Bool.not_eq_true, V.int_ne, Int.not_lt, Int.not_le, Bool.true_eq_false, Bool.false_eq_true, not_true_eq_false, not_false_eq_true] at hc))
set_option hygiene false in
local macro_rules | `(tactic| walk_at "new") => `(tactic| (refine ⟨by first | decide | (simp only [List.length_cons, List.length_nil, List.length_append, List.length_map]; first | decide | (rw [sizeLine_eq]; omega)), fun p np => ?_⟩))
set_option hygiene false in
local macro_rules | `(tactic| walk_at "yes") => `(tactic| refine itY (by first | rfl | exact decide_eq_true (by first | rfl | omega | assumption) | (simp only [decide_eq_true_eq, Bool.not_eq_true', decide_eq_false_iff_not, V.int.injEq, V.str.injEq, V.bl.injEq]; first | omega | assumption)) ?_)
set_option hygiene false in
local macro_rules | `(tactic| walk_at "no") => `(tactic| refine itN (by first | decide | (simp only [decide_eq_true_eq, Bool.not_eq_true', decide_eq_false_iff_not, V.int.injEq, V.str.injEq, V.bl.injEq, Bool.not_eq_true, Decidable.not_not]; first | omega | assumption)) ?_)
def sp_machineOf (K : PySem.W.Frag) : Sp := fun vs H Q _ => ∃ (z : Zz) (v : V) (M : Parts), vs = [v] ∧ St z H ∧ (∀ b ∈ z.m, ∃ ys, H b = some (.lst ys)) ∧ DA (hide z H) v (partsD M) ∧ PV M ∧ ∀ p H', Wd z H H' → MA K (hide z H') p M → Q (.ref p) H'
def N__law_machine_of : List Str := ["_law_parts"]
theorem sc__law_machine_of : FnScope N__law_machine_of ["_law_parts"] (defScope (top 66)) := ⟨rfl, rfl, rfl, by decide +kernel, rfl, by decide +kernel, by decide +kernel⟩
theorem ok__law_machine_of (En : Env K mg fas fns prs) : Ok P w K mg base "_law_machine_of" 9 ["_law_parts"] (sp_machineOf K) := by
  refine ok_mk 47 66 En sc__law_machine_of (fun _ _ _ _ _ _ us hl => match us, hl with | [_], _ => rfl) (fun vs H Q E h => ?_) (fun f cdv A outer s H vs Q E hr h => ?_)
  · obtain ⟨z, v, M, rfl, _⟩ := h
    rfl
  · obtain ⟨z, v, M, rfl, hz, hm, hv, hPV, k⟩ := h
    obtain ⟨p, b, a, e, xb, xa, xe, rfl, hp, hb, ha, he, jb, ja, je⟩ := hv.parts_inv
    refine ⟨_, (pss_one (ps_ret (pe_mkMachine En (hr.mono (by decide)) (pa_cons (pe_ix (ix_tupK (K := K) rfl) (pv 0) pe_int (fun _ _ => rfl)) (pa_cons (pe_ix (ix_tupK (K := K) rfl) (pv 0) pe_int (fun _ _ => rfl)) (pa_cons (pe_ix (ix_tupK (K := K) rfl) (pv 0) pe_int (fun _ _ => rfl)) pa_nil))) (pk_cons (pe_callTy (call_list_ofK (K := K) rfl) (by rfl) (fr_list En) bt_list (pa_cons (pe_ix (ix_tupK (K := K) rfl) (pv 0) pe_int (fun _ _ => rfl)) pa_nil)) (pk_cons (pe_callTy (call_list_ofK (K := K) rfl) (by rfl) (fr_list En) bt_list (pa_cons (pe_ix (ix_tupK (K := K) rfl) (pv 0) pe_int (fun _ _ => rfl)) pa_nil)) (pk_cons (pe_callTy (call_list_ofK (K := K) rfl) (by rfl) (fr_list En) bt_list (pa_cons (pe_ix (ix_tupK (K := K) rfl) (pv 0) pe_int (fun _ _ => rfl)) pa_nil)) pk_nil)))))), ?_⟩
    have hp' := hide_le _ _ _ _ hp
    have hb' := hide_le _ _ _ _ hb
    have ha' := hide_le _ _ _ _ ha
    have he' := hide_le _ _ _ _ he
    walk_at "w"
    refine ⟨_, _, rfl, Or.inl (SqL.of hb'), fun L0 nL0 => ?_⟩
    have uL0 := (Wd.refl hz).new (o := .lst xb) nL0
    have hL0 := (Wd.refl hz).here (o := .lst xb) nL0
    generalize upd H L0 (.lst xb) = G1 at *
    replace hp := uL0.up _ _ hp
    replace hp' := hide_le _ _ _ _ hp
    replace hb := uL0.up _ _ hb
    replace hb' := hide_le _ _ _ _ hb
    replace ha := uL0.up _ _ ha
    replace ha' := hide_le _ _ _ _ ha
    replace he := uL0.up _ _ he
    replace he' := hide_le _ _ _ _ he
    replace jb := uL0.das jb
    replace ja := uL0.das ja
    replace je := uL0.das je
    have hL0' := hide_le _ _ _ _ hL0
    walk_at "w"
    refine ⟨_, _, rfl, Or.inl (SqL.of ha'), fun L1 nL1 => ?_⟩
    have uL1 := (Wd.refl uL0.st).new (o := .lst xa) nL1
    have hL1 := (Wd.refl uL0.st).here (o := .lst xa) nL1
    generalize upd G1 L1 (.lst xa) = G2 at *
    replace hp := uL1.up _ _ hp
    replace hp' := hide_le _ _ _ _ hp
    replace hb := uL1.up _ _ hb
    replace hb' := hide_le _ _ _ _ hb
    replace ha := uL1.up _ _ ha
    replace ha' := hide_le _ _ _ _ ha
    replace he := uL1.up _ _ he
    replace he' := hide_le _ _ _ _ he
    replace hL0 := uL1.up _ _ hL0
    replace hL0' := hide_le _ _ _ _ hL0
    replace jb := uL1.das jb
    replace ja := uL1.das ja
    replace je := uL1.das je
    have hL1' := hide_le _ _ _ _ hL1
    walk_at "w"
    refine ⟨_, _, rfl, Or.inl (SqL.of he'), fun L2 nL2 => ?_⟩
    have uL2 := (Wd.refl uL1.st).new (o := .lst xe) nL2
    have hL2 := (Wd.refl uL1.st).here (o := .lst xe) nL2
    generalize upd G2 L2 (.lst xe) = G3 at *
    replace hp := uL2.up _ _ hp
    replace hp' := hide_le _ _ _ _ hp
    replace hb := uL2.up _ _ hb
    replace hb' := hide_le _ _ _ _ hb
    replace ha := uL2.up _ _ ha
    replace ha' := hide_le _ _ _ _ ha
    replace he := uL2.up _ _ he
    replace he' := hide_le _ _ _ _ he
    replace hL0 := uL2.up _ _ hL0
    replace hL0' := hide_le _ _ _ _ hL0
    replace hL1 := uL2.up _ _ hL1
    replace hL1' := hide_le _ _ _ _ hL1
    replace jb := uL2.das jb
    replace ja := uL2.das ja
    replace je := uL2.das je
    have hL2' := hide_le _ _ _ _ hL2
    walk_at "w"
    have w0 := ((uL0.trans uL1).trans uL2)
    refine ⟨rfl, rfl, fun x dx nx ndx hne => ?_⟩
    have ndx2 := ndx
    have u1 := (Wd.refl uL2.st).new (o := .own x) ndx
    have nx2 : upd G3 dx (.own x) x = none := by rw [upd_ne hne.symm]; exact nx
    have u2 := u1.new (o := .ins (mC K) dx []) nx2
    have sm : Same G3 (upd (upd G3 dx (.own x)) x (.ins (mC K) dx [])) := (Same.new ndx).trans (Same.new nx2)
    have nx3 := uL2.st.ne nx
    refine ⟨G3, x, dx, L0, L1, L2, M, rfl, upd_same, nx, sm, (DA.lst hL0 jb).un.up sm, (DA.lst hL1 ja).un.up sm, (DA.lst hL2 je).un.up sm, hPV, fun H' lb la le qb qa qe s1 n1 n2 n3 hx j1 j2 j3 m1 m2 m3 c1 c2 c3 => ⟨rfl, ?_⟩⟩
    have wF := Wd.of_same uL2.st s1
    have hm' := (w0.trans wF).lsts hm
    have f1 := uL2.st.ne n1
    have f2 := uL2.st.ne n2
    have f3 := uL2.st.ne n3
    refine k x H' (w0.trans wF) ⟨dx, qb, qa, qe, lb, la, le, hide_of nx3 hx, da_hideL side_tup wF.st hm' f1.1 f1.2.1 f1.2.2 j1, da_hideL arc_tup wF.st hm' f2.1 f2.2.1 f2.2.2 j2, da_hideL side_tup wF.st hm' f3.1 f3.2.1 f3.2.2 j3, m1, m2, m3, c1, c2, c3⟩
end
end GJ


set_option Elab.async false
set_option linter.all false
set_option maxRecDepth 100000
set_option maxHeartbeats 4000000
namespace GJ
open PySem PySem.Spec PyProof.Rows L2 TL
set_option pp.maxSteps 300
section
variable {P : Program} {w : World} {K : PySem.W.Frag} {mg : Str → Option Value} {base : Heap}
set_option hygiene false in
local macro_rules | `(tactic| walk_at "w") => `(tactic| repeat (first
  | refine ⟨_, rfl, ?_⟩
  | refine ⟨_, _, rfl, rfl, (by first | decide | omega), fun r r0 r1 re => ?_⟩
  | refine ⟨_, _, rfl, rfl, (by first | exact Or.inl ⟨by omega, by omega⟩ | exact Or.inr ⟨by omega, by omega⟩ : CMul _ _), ?_⟩
  | refine ⟨_, _, rfl, rfl, (by first | exact ⟨by decide, by decide⟩ | exact ⟨by omega, by omega⟩ : CDiv _ _), ?_⟩
  | refine ⟨_, _, rfl, rfl, (by exact ⟨by decide, by decide, by decide⟩ : CPow _ _), ?_⟩
  | refine ⟨_, _, rfl, rfl, ?_⟩
  | refine ⟨(by rfl : scal _ _ = true), ?_⟩
  | refine Or.inl ⟨_, rfl, ?_⟩
  | refine ⟨_, _, rfl, fun m m0 m1 m2 => ?_⟩
  | refine ⟨_, _, _, _, rfl, rfl, SqL.of (by first | assumption | exact upd_same | exact fx _ | exact fy _), rfl, ?_⟩
  | refine ⟨_, _, _, _, rfl, rfl, (by first | assumption | exact upd_same | exact fx _ | exact fy _), rfl, ?_⟩
  | refine ⟨_, _, _, _, rfl, rfl, SqT.of (by first | assumption | exact upd_same | exact fx _ | exact fy _), rfl, ?_⟩
  | refine ⟨(szle (by omega) : Str.length _ ≤ sizeLine), ?_⟩
  | refine ⟨(szle (by first | omega | (rw [sla]; omega) | (rw [sla, sla]; omega)) : Str.length _ + Str.length _ ≤ sizeLine), ?_⟩
  | refine ⟨_, _, rfl, len_lst (by first | assumption | exact upd_same | exact fx _ | exact fy _), ?_⟩))
set_option hygiene false in
local macro_rules | `(tactic| walk_at "if") => `(tactic| (refine ite2 (fun hc => ?_) (fun hc => ?_) <;>
  simp only [decide_eq_true_eq, Bool.not_eq_true', decide_eq_false_iff_not, V.int.injEq, V.str.injEq, V.bl.injEq, Decidable.not_not, Bool.not_eq_true, V.int_ne, Int.not_lt, Int.not_le, Bool.true_eq_false, Bool.false_eq_true, not_true_eq_false, not_false_eq_true] at hc))
set_option hygiene false in
local macro_rules | `(tactic| walk_at "new") => `(tactic| (refine ⟨by first | decide | (simp only [List.length_cons, List.length_nil, List.length_append, List.length_map]; first | decide | (rw [sizeLine_eq]; omega)), fun p np => ?_⟩))
set_option hygiene false in
local macro_rules | `(tactic| walk_at "yes") => `(tactic| refine itY (by first | rfl | exact decide_eq_true (by first | rfl | omega | assumption) | (simp only [decide_eq_true_eq, Bool.not_eq_true', decide_eq_false_iff_not, V.int.injEq, V.str.injEq, V.bl.injEq]; first | omega | assumption)) ?_)
set_option hygiene false in
local macro_rules | `(tactic| walk_at "no") => `(tactic| refine itN (by first | decide | (simp only [decide_eq_true_eq, Bool.not_eq_true', decide_eq_false_iff_not, V.int.injEq, V.str.injEq, V.bl.injEq, Bool.not_eq_true, Decidable.not_not]; first | omega | assumption)) ?_)
def sp_getSize (K : PySem.W.Frag) : Sp := fun vs H Q _ => ∃ (a : Addr) (M : Parts), vs = [.ref a] ∧ MA K H a M ∧ Q (.int M.n) H
def N_Machine_size : List Str := ["self"]
theorem sc_Machine_size : FnScope N_Machine_size ["self"] (defScope (inClass (top 31) 3)) := ⟨rfl, rfl, rfl, by decide +kernel, rfl, by decide +kernel, by decide +kernel⟩
theorem get_size (En : Env K mg fas fns prs) : PropOf K (mC K) "size" (prAd K ("size", 3)) (gtAd K ("size", 3)) ∧ ∃ fd, FnOk P w K mg base CX0 1 (gtAd K ("size", 3)) fd ["self"] (sp_getSize K) ∧ Binds K fd ["self"] [] := by
  obtain ⟨hp, fd, F⟩ := En.pr 2 ("size", 3) rfl
  have F' : FunD K "size" "Machine.size" (defArgs (inClass (top 31) 3)) (defBody (inClass (top 31) 3)) (defScope (inClass (top 31) 3)) [] [] (gtAd K ("size", 3)) fd := F
  refine ⟨hp, fd, F'.ok sc_Machine_size (fun vs H Q E h => ?_) fun cdv A outer s H vs Q E hr h => ?_, F'.bindsN (fun _ _ _ _ _ _ us hl => match us, hl with | [_], _ => rfl)⟩
  · obtain ⟨a, M, rfl, _⟩ := h
    rfl
  · suffices hh : ∃ t, PSs (cxOf CX0 P w K mg base N_Machine_size "Machine.size" (defScope (inClass (top 31) 3)) (gtAd K ("size", 3)) cdv A outer s H E).nox (defBody (inClass (top 31) 3)) t ∧ t { nx := fun _ H' => Q .non H', rt := Q } (start N_Machine_size vs) H by
      obtain ⟨t, h1, h2⟩ := hh
      exact ⟨t, h1.nox, h2⟩
    obtain ⟨a0, M, rfl, hM, k⟩ := h
    obtain ⟨dx, b, a, e, lb, la, le, hx, db, da, de, m1, m2, m3, c1, c2, c3⟩ := hM.ex
    refine ⟨_, (pss_one (ps_ret (pe_fld (pv 0) rfl))), ?_⟩
    walk_at "w"
    refine ⟨a0, mC K, dx, _, .int M.n, rfl, hx, cl_Machine En, no_kept_size En, rfl, ?_⟩
    exact k
def sp_get_begins (K : PySem.W.Frag) : Sp := fun vs H Q _ => ∃ (a : Addr) (M : Parts), vs = [.ref a] ∧ MA K H a M ∧ ∀ q H' (l : List Side), H q = none → Same H H' → DA H' (.ref q) (.list (l.map sideD)) → (∀ x, x ∈ l ↔ x ∈ M.bs) → l.length ≤ 400 → Q (.ref q) H'
def N_Machine_begins : List Str := ["self"]
theorem sc_Machine_begins : FnScope N_Machine_begins ["self"] (defScope (inClass (top 31) 4)) := ⟨rfl, rfl, rfl, by decide +kernel, rfl, by decide +kernel, by decide +kernel⟩
theorem get_begins (En : Env K mg fas fns prs) : PropOf K (mC K) "begins" (prAd K ("begins", 4)) (gtAd K ("begins", 4)) ∧ ∃ fd, FnOk P w K mg base CX0 1 (gtAd K ("begins", 4)) fd ["self"] (sp_get_begins K) ∧ Binds K fd ["self"] [] := by
  obtain ⟨hp, fd, F⟩ := En.pr 3 ("begins", 4) rfl
  have F' : FunD K "begins" "Machine.begins" (defArgs (inClass (top 31) 4)) (defBody (inClass (top 31) 4)) (defScope (inClass (top 31) 4)) [] [] (gtAd K ("begins", 4)) fd := F
  refine ⟨hp, fd, F'.ok sc_Machine_begins (fun vs H Q E h => ?_) fun cdv A outer s H vs Q E hr h => ?_, F'.bindsN (fun _ _ _ _ _ _ us hl => match us, hl with | [_], _ => rfl)⟩
  · obtain ⟨a, M, rfl, _⟩ := h
    rfl
  · suffices hh : ∃ t, PSs (cxOf CX0 P w K mg base N_Machine_begins "Machine.begins" (defScope (inClass (top 31) 4)) (gtAd K ("begins", 4)) cdv A outer s H E).nox (defBody (inClass (top 31) 4)) t ∧ t { nx := fun _ H' => Q .non H', rt := Q } (start N_Machine_begins vs) H by
      obtain ⟨t, h1, h2⟩ := hh
      exact ⟨t, h1.nox, h2⟩
    obtain ⟨a0, M, rfl, hM, k⟩ := h
    obtain ⟨dx, b, a, e, lb, la, le, hx, db, da, de, m1, m2, m3, c1, c2, c3⟩ := hM.ex
    refine ⟨_, (pss_one (ps_ret (pe_callTy (call_list_ofK (K := K) rfl) (by rfl) (fr_list En) bt_list (pa_cons (pe_fld (pv 0) rfl) pa_nil)))), ?_⟩
    walk_at "w"
    refine ⟨a0, mC K, dx, _, .ref b, rfl, hx, cl_Machine En, no_kept_begins En, rfl, ?_⟩
    obtain ⟨_, ys, ee, hy, jy⟩ := db.lst_inv
    cases ee
    walk_at "w"
    refine ⟨_, _, rfl, Or.inl (SqL.of hy), fun L nL => ?_⟩
    exact k L _ _ nL (Same.new nL) (.lst upd_same (jy.up (Same.new nL))) m1 c1
def sp_get_arcs (K : PySem.W.Frag) : Sp := fun vs H Q _ => ∃ (a : Addr) (M : Parts), vs = [.ref a] ∧ MA K H a M ∧ ∀ q H' (l : List Arc), H q = none → Same H H' → DA H' (.ref q) (.list (l.map arcD)) → (∀ x, x ∈ l ↔ x ∈ M.as) → l.length ≤ 400 → Q (.ref q) H'
def N_Machine_arcs : List Str := ["self"]
theorem sc_Machine_arcs : FnScope N_Machine_arcs ["self"] (defScope (inClass (top 31) 5)) := ⟨rfl, rfl, rfl, by decide +kernel, rfl, by decide +kernel, by decide +kernel⟩
theorem get_arcs (En : Env K mg fas fns prs) : PropOf K (mC K) "arcs" (prAd K ("arcs", 5)) (gtAd K ("arcs", 5)) ∧ ∃ fd, FnOk P w K mg base CX0 1 (gtAd K ("arcs", 5)) fd ["self"] (sp_get_arcs K) ∧ Binds K fd ["self"] [] := by
  obtain ⟨hp, fd, F⟩ := En.pr 4 ("arcs", 5) rfl
  have F' : FunD K "arcs" "Machine.arcs" (defArgs (inClass (top 31) 5)) (defBody (inClass (top 31) 5)) (defScope (inClass (top 31) 5)) [] [] (gtAd K ("arcs", 5)) fd := F
  refine ⟨hp, fd, F'.ok sc_Machine_arcs (fun vs H Q E h => ?_) fun cdv A outer s H vs Q E hr h => ?_, F'.bindsN (fun _ _ _ _ _ _ us hl => match us, hl with | [_], _ => rfl)⟩
  · obtain ⟨a, M, rfl, _⟩ := h
    rfl
  · suffices hh : ∃ t, PSs (cxOf CX0 P w K mg base N_Machine_arcs "Machine.arcs" (defScope (inClass (top 31) 5)) (gtAd K ("arcs", 5)) cdv A outer s H E).nox (defBody (inClass (top 31) 5)) t ∧ t { nx := fun _ H' => Q .non H', rt := Q } (start N_Machine_arcs vs) H by
      obtain ⟨t, h1, h2⟩ := hh
      exact ⟨t, h1.nox, h2⟩
    obtain ⟨a0, M, rfl, hM, k⟩ := h
    obtain ⟨dx, b, a, e, lb, la, le, hx, db, da, de, m1, m2, m3, c1, c2, c3⟩ := hM.ex
    refine ⟨_, (pss_one (ps_ret (pe_callTy (call_list_ofK (K := K) rfl) (by rfl) (fr_list En) bt_list (pa_cons (pe_fld (pv 0) rfl) pa_nil)))), ?_⟩
    walk_at "w"
    refine ⟨a0, mC K, dx, _, .ref a, rfl, hx, cl_Machine En, no_kept_arcs En, rfl, ?_⟩
    obtain ⟨_, ys, ee, hy, jy⟩ := da.lst_inv
    cases ee
    walk_at "w"
    refine ⟨_, _, rfl, Or.inl (SqL.of hy), fun L nL => ?_⟩
    exact k L _ _ nL (Same.new nL) (.lst upd_same (jy.up (Same.new nL))) m2 c2
def sp_get_ends (K : PySem.W.Frag) : Sp := fun vs H Q _ => ∃ (a : Addr) (M : Parts), vs = [.ref a] ∧ MA K H a M ∧ ∀ q H' (l : List Side), H q = none → Same H H' → DA H' (.ref q) (.list (l.map sideD)) → (∀ x, x ∈ l ↔ x ∈ M.es) → l.length ≤ 400 → Q (.ref q) H'
def N_Machine_ends : List Str := ["self"]
theorem sc_Machine_ends : FnScope N_Machine_ends ["self"] (defScope (inClass (top 31) 6)) := ⟨rfl, rfl, rfl, by decide +kernel, rfl, by decide +kernel, by decide +kernel⟩
theorem get_ends (En : Env K mg fas fns prs) : PropOf K (mC K) "ends" (prAd K ("ends", 6)) (gtAd K ("ends", 6)) ∧ ∃ fd, FnOk P w K mg base CX0 1 (gtAd K ("ends", 6)) fd ["self"] (sp_get_ends K) ∧ Binds K fd ["self"] [] := by
  obtain ⟨hp, fd, F⟩ := En.pr 5 ("ends", 6) rfl
  have F' : FunD K "ends" "Machine.ends" (defArgs (inClass (top 31) 6)) (defBody (inClass (top 31) 6)) (defScope (inClass (top 31) 6)) [] [] (gtAd K ("ends", 6)) fd := F
  refine ⟨hp, fd, F'.ok sc_Machine_ends (fun vs H Q E h => ?_) fun cdv A outer s H vs Q E hr h => ?_, F'.bindsN (fun _ _ _ _ _ _ us hl => match us, hl with | [_], _ => rfl)⟩
  · obtain ⟨a, M, rfl, _⟩ := h
    rfl
  · suffices hh : ∃ t, PSs (cxOf CX0 P w K mg base N_Machine_ends "Machine.ends" (defScope (inClass (top 31) 6)) (gtAd K ("ends", 6)) cdv A outer s H E).nox (defBody (inClass (top 31) 6)) t ∧ t { nx := fun _ H' => Q .non H', rt := Q } (start N_Machine_ends vs) H by
      obtain ⟨t, h1, h2⟩ := hh
      exact ⟨t, h1.nox, h2⟩
    obtain ⟨a0, M, rfl, hM, k⟩ := h
    obtain ⟨dx, b, a, e, lb, la, le, hx, db, da, de, m1, m2, m3, c1, c2, c3⟩ := hM.ex
    refine ⟨_, (pss_one (ps_ret (pe_callTy (call_list_ofK (K := K) rfl) (by rfl) (fr_list En) bt_list (pa_cons (pe_fld (pv 0) rfl) pa_nil)))), ?_⟩
    walk_at "w"
    refine ⟨a0, mC K, dx, _, .ref e, rfl, hx, cl_Machine En, no_kept_ends En, rfl, ?_⟩
    obtain ⟨_, ys, ee, hy, jy⟩ := de.lst_inv
    cases ee
    walk_at "w"
    refine ⟨_, _, rfl, Or.inl (SqL.of hy), fun L nL => ?_⟩
    exact k L _ _ nL (Same.new nL) (.lst upd_same (jy.up (Same.new nL))) m3 c3
end
section
variable {X : Cx} {e : Expr} {pos : Pos} {ta : TE} {k : Nat}
theorem pe_pr_size (En : Env X.K X.mg fas fns prs) (he : PE X e ta) (hr : Room 2 X.A) (hab : attributeBase e "size" X.env (eval e X.env) = eval e X.env := by rfl) : PE X (.Attribute e "size" pos) (tProp (mC X.K) (sp_getSize X.K) [] E0 ta) := by
  obtain ⟨hp, fd, F, b⟩ := get_size (P := X.prog) (w := X.w) (base := X.base) En
  exact pe_prop he (cl_Machine En) hp F hr b .nil pass0 hab
theorem pe_pr_begins (En : Env X.K X.mg fas fns prs) (he : PE X e ta) (hr : Room 2 X.A) (hab : attributeBase e "begins" X.env (eval e X.env) = eval e X.env := by rfl) : PE X (.Attribute e "begins" pos) (tProp (mC X.K) (sp_get_begins X.K) [] E0 ta) := by
  obtain ⟨hp, fd, F, b⟩ := get_begins (P := X.prog) (w := X.w) (base := X.base) En
  exact pe_prop he (cl_Machine En) hp F hr b .nil pass0 hab
theorem pe_pr_arcs (En : Env X.K X.mg fas fns prs) (he : PE X e ta) (hr : Room 2 X.A) (hab : attributeBase e "arcs" X.env (eval e X.env) = eval e X.env := by rfl) : PE X (.Attribute e "arcs" pos) (tProp (mC X.K) (sp_get_arcs X.K) [] E0 ta) := by
  obtain ⟨hp, fd, F, b⟩ := get_arcs (P := X.prog) (w := X.w) (base := X.base) En
  exact pe_prop he (cl_Machine En) hp F hr b .nil pass0 hab
theorem pe_pr_ends (En : Env X.K X.mg fas fns prs) (he : PE X e ta) (hr : Room 2 X.A) (hab : attributeBase e "ends" X.env (eval e X.env) = eval e X.env := by rfl) : PE X (.Attribute e "ends" pos) (tProp (mC X.K) (sp_get_ends X.K) [] E0 ta) := by
  obtain ⟨hp, fd, F, b⟩ := get_ends (P := X.prog) (w := X.w) (base := X.base) En
  exact pe_prop he (cl_Machine En) hp F hr b .nil pass0 hab
end
end GJ


set_option Elab.async false
set_option linter.all false
set_option maxRecDepth 100000
set_option maxHeartbeats 4000000
namespace GJ
open PySem PySem.Spec PyProof.Rows L2 TL
set_option pp.maxSteps 300
/-- how far two lists agree -/
def cpl : List Nat → List Nat → Nat
  | x :: xs, y :: ys => if x = y then cpl xs ys + 1 else 0
  | _, _ => 0
theorem cpl_le : ∀ (x y : List Nat), cpl x y ≤ x.length ∧ cpl x y ≤ y.length
  | [], _ => ⟨Nat.zero_le _, Nat.zero_le _⟩
  | _ :: _, [] => ⟨Nat.zero_le _, Nat.zero_le _⟩
  | x :: xs, y :: ys => by
    have := cpl_le xs ys
    unfold cpl
    split <;> simp only [List.length_cons] <;> omega
theorem cpl_take : ∀ (m : Nat) (x y : List Nat), m ≤ x.length → m ≤ y.length → (x.take m = y.take m ↔ m ≤ cpl x y)
  | 0, _, _, _, _ => ⟨fun _ => Nat.zero_le _, fun _ => rfl⟩
  | m + 1, [], _, h, _ => absurd h (by simp)
  | m + 1, _ :: _, [], _, h => absurd h (by simp)
  | m + 1, x :: xs, y :: ys, h, g => by
    have ih := cpl_take m xs ys (by simpa using h) (by simpa using g)
    rw [List.take_succ_cons, List.take_succ_cons, List.cons.injEq]
    unfold cpl
    split
    · rename_i e
      rw [ih]
      exact ⟨fun q => Nat.succ_le_succ q.2, fun q => ⟨e, Nat.le_of_succ_le_succ q⟩⟩
    · rename_i e
      exact ⟨fun q => absurd q.1 e, fun q => absurd q (Nat.not_succ_le_zero m)⟩
theorem seg_split {x : List Nat} {a m : Nat} (h : a ≤ m) : x.take m = x.take a ++ (x.drop a).take (m - a) := by
  rw [← List.take_append_drop a (x.take m), List.take_take, Nat.min_eq_left h, List.drop_take]
theorem cpl_seg {x y : List Nat} {a m : Nat} (ha : a ≤ cpl x y) (h : a ≤ m) (hx : m ≤ x.length) (hy : m ≤ y.length) : ((x.drop a).take (m - a) = (y.drop a).take (m - a) ↔ m ≤ cpl x y) := by
  have e := (cpl_take a x y (Nat.le_trans h hx) (Nat.le_trans h hy)).mpr ha
  rw [← cpl_take m x y hx hy, seg_split h, seg_split (x := y) h, e]
  exact ⟨fun q => by rw [q], fun q => List.append_cancel_left q⟩
section
variable {P : Program} {w : World} {K : PySem.W.Frag} {mg : Str → Option Value} {base : Heap}
set_option hygiene false in
local macro_rules | `(tactic| walk_at "w") => `(tactic| repeat (first
  | refine ⟨_, rfl, ?_⟩
  | refine ⟨_, _, rfl, rfl, (by first | decide | omega), fun r r0 r1 re => ?_⟩
  | refine ⟨_, _, rfl, rfl, (by first | exact Or.inl ⟨by omega, by omega⟩ | exact Or.inr ⟨by omega, by omega⟩ : CMul _ _), ?_⟩
  | refine ⟨_, _, rfl, rfl, (by first | exact ⟨by decide, by decide⟩ | exact ⟨by omega, by omega⟩ : CDiv _ _), ?_⟩
  | refine ⟨_, _, rfl, rfl, (by exact ⟨by decide, by decide, by decide⟩ : CPow _ _), ?_⟩
  | refine ⟨_, _, rfl, rfl, ?_⟩
  | refine ⟨(by rfl : scal _ _ = true), ?_⟩
  | refine Or.inl ⟨_, rfl, ?_⟩
  | refine ⟨_, _, rfl, fun m m0 m1 m2 => ?_⟩
  | refine ⟨_, _, _, _, rfl, rfl, SqL.of (by first | assumption | exact upd_same | exact fx _ | exact fy _), rfl, ?_⟩
  | refine ⟨_, _, _, _, rfl, rfl, (by first | assumption | exact upd_same | exact fx _ | exact fy _), rfl, ?_⟩
  | refine ⟨_, _, _, _, rfl, rfl, SqT.of (by first | assumption | exact upd_same | exact fx _ | exact fy _), rfl, ?_⟩
  | refine ⟨(szle (by omega) : Str.length _ ≤ sizeLine), ?_⟩
  | refine ⟨(szle (by first | omega | (rw [sla]; omega) | (rw [sla, sla]; omega)) : Str.length _ + Str.length _ ≤ sizeLine), ?_⟩
  | refine ⟨_, _, rfl, len_lst (by first | assumption | exact upd_same | exact fx _ | exact fy _), ?_⟩))
set_option hygiene false in
local macro_rules | `(tactic| walk_at "if") => `(tactic| (refine ite2 (fun hc => ?_) (fun hc => ?_) <;>
  simp only [decide_eq_true_eq, Bool.not_eq_true', decide_eq_false_iff_not, V.int.injEq, V.str.injEq, V.bl.injEq, Decidable.not_not, Bool.not_eq_true, V.int_ne, Int.not_lt, Int.not_le, Bool.true_eq_false, Bool.false_eq_true, not_true_eq_false, not_false_eq_true] at hc))
set_option hygiene false in
local macro_rules | `(tactic| walk_at "new") => `(tactic| (refine ⟨by first | decide | (simp only [List.length_cons, List.length_nil, List.length_append, List.length_map]; first | decide | (rw [sizeLine_eq]; omega)), fun p np => ?_⟩))
set_option hygiene false in
local macro_rules | `(tactic| walk_at "yes") => `(tactic| refine itY (by first | rfl | exact decide_eq_true (by first | rfl | omega | assumption) | (simp only [decide_eq_true_eq, Bool.not_eq_true', decide_eq_false_iff_not, V.int.injEq, V.str.injEq, V.bl.injEq]; first | omega | assumption)) ?_)
set_option hygiene false in
local macro_rules | `(tactic| walk_at "no") => `(tactic| refine itN (by first | decide | (simp only [decide_eq_true_eq, Bool.not_eq_true', decide_eq_false_iff_not, V.int.injEq, V.str.injEq, V.bl.injEq, Bool.not_eq_true, Decidable.not_not]; first | omega | assumption)) ?_)
def sp_shared : Sp := fun vs H Q _ => ∃ (x y : Str), vs = [.str x, .str y] ∧ (tl x).length ≤ 90000 ∧ (tl y).length ≤ 90000 ∧ ∀ n : Nat, n = cpl (tl x) (tl y) → Q (.int n) H
def N_shared_length : List Str := ["first", "second", "low", "high", "middle"]
theorem sc_shared_length : FnScope N_shared_length ["first", "second"] (defScope (top 14)) := ⟨rfl, rfl, rfl, by decide +kernel, rfl, by decide +kernel, by decide +kernel⟩
theorem ok_shared_length (En : Env K mg fas fns prs) : Ok P w K mg base "shared_length" 1 ["first", "second"] sp_shared := by
  refine ok_mk 5 14 En sc_shared_length (fun _ _ _ _ _ _ us hl => match us, hl with | [_, _], _ => rfl) (fun vs H Q E h => ?_) (fun f cdv A outer s H vs Q E hr h => ?_)
  · obtain ⟨x, y, rfl, _⟩ := h
    rfl
  · obtain ⟨x, y, rfl, hx, hy, k⟩ := h
    have lx : x.length = (tl x).length := rfl
    have ly : y.length = (tl y).length := rfl
    have cl := cpl_le (tl x) (tl y)
    refine ⟨_, (pss_cons
        (ps_set (i := 2) sc_shared_length.nd rfl (Or.inl rfl) pe_int)
      (pss_cons
        (ps_set (i := 3) sc_shared_length.nd rfl (Or.inl rfl) (pe_callB (call_minR rfl) (by rfl) (fr_min En) bt_min (pa_cons (pe_callB (call_lenK (K := K) rfl) (by rfl) (fr_len En) bt_len (pa_cons (pv 0) pa_nil)) (pa_cons (pe_callB (call_lenK (K := K) rfl) (by rfl) (fr_len En) bt_len (pa_cons (pv 1) pa_nil)) pa_nil))))
      (pss_cons
        (ps_while PassesOwn.never (pt_cmpR op_lt (pv 2) (pv 3) (nomark _)) (pss_cons
        (ps_set (i := 4) sc_shared_length.nd rfl (Or.inl rfl) (pe_op op_fdiv (pe_op op_add (pe_op op_add (pv 2) (pv 3)) pe_int) pe_int))
      (pss_one
        (ps_if (pt_cmpR op_eq (pe_slice sl_str (pv 0) (po_some (pv 2)) (po_some (pv 4))) (pe_slice sl_str (pv 1) (po_some (pv 2)) (po_some (pv 4))) (nomark _)) (pss_one (ps_set (i := 2) sc_shared_length.nd rfl (Or.inl rfl) (pv 4))) (pss_one (ps_set (i := 3) sc_shared_length.nd rfl (Or.inl rfl) (pe_op op_sub (pv 4) pe_int)))))))
      (pss_one
        (ps_ret (pv 2)))))), ?_⟩
    walk_at "w"
    refine ⟨_, _, rfl, len_str (by omega), ?_⟩
    walk_at "w"
    refine ⟨_, _, rfl, len_str (by omega), ?_⟩
    walk_at "w"
    obtain ⟨c, hc⟩ : ∃ c, c = cpl (tl x) (tl y) := ⟨_, rfl⟩
    rw [← hc] at cl
    refine ⟨fun q σ H' => ∃ (a b : Nat) (u : Option V), σ = [some (.str x), some (.str y), some (.int a), some (.int b), u] ∧ H' = H ∧ q = b - a ∧ a ≤ c ∧ c ≤ b ∧ b ≤ (tl x).length ∧ b ≤ (tl y).length, ⟨m.toNat - 0, 0, m.toNat, none, ?_, rfl, rfl, Nat.zero_le _, by omega, by omega, by omega⟩, ?_⟩
    · rw [Int.toNat_of_nonneg (by omega)]
      rfl
    rintro q σ H' ⟨a, b, u, rfl, rfl, rfl, ha, hb, hbx, hby⟩
    walk_at "w"
    refine ite2 (fun hlt => ?_) (fun hlt => ?_)
    · have hlt := Int.ofNat_lt.mp (of_decide_eq_true hlt)
      refine ⟨_, fun _ _ h => h, ?_⟩
      obtain ⟨mid, hm⟩ : ∃ mid : Nat, mid = (a + b + 1) / 2 := ⟨_, rfl⟩
      have hmi : ((a : Int) + b + 1) / 2 = (mid : Int) := by omega
      walk_at "w"
      have e1 : tl (cutS x (some (a : Int)) (some (((a : Int) + b + 1) / 2))) = ((tl x).drop a).take (mid - a) := by rw [hmi]; exact tl_sub (by omega) (by omega)
      have e2 : tl (cutS y (some (a : Int)) (some (((a : Int) + b + 1) / 2))) = ((tl y).drop a).take (mid - a) := by rw [hmi]; exact tl_sub (by omega) (by omega)
      have seg := cpl_seg (x := tl x) (y := tl y) (a := a) (m := mid) (by omega) (by omega) (by omega) (by omega)
      refine ite2 (fun he => ?_) (fun he => ?_)
      · have he := V.str.inj (of_decide_eq_true he)
        have := seg.mp (by rw [← e1, ← e2, he])
        walk_at "w"
        refine ⟨b - mid, by omega, mid, b, some (.int (((a : Int) + b + 1) / 2)), ?_, rfl, rfl, by omega, hb, hbx, hby⟩
        rw [← hmi]
        rfl
      · have hne : ¬ mid ≤ c := fun h => he (decide_eq_true (congrArg V.str (tl_ext (by rw [e1, e2]; exact seg.mpr (by omega)))))
        walk_at "w"
        refine ⟨mid - 1 - a, by omega, a, mid - 1, some (.int mid), ?_, rfl, rfl, ha, by omega, by omega, by omega⟩
        rw [← hmi, show ((mid - 1 : Nat) : Int) = ((a : Int) + b + 1) / 2 - 1 by omega]
        rfl
    · have hlt : ¬ a < b := fun h => hlt (decide_eq_true (Int.ofNat_lt.mpr h))
      walk_at "w"
      exact k a (by omega)
def sp_lagOf : Sp := fun vs H Q _ => ∃ (x y : Str), vs = [.str x, .str y] ∧ (tl x).length ≤ 90000 ∧ (tl y).length ≤ 90000 ∧
  ∀ p H' (a b : Str), Same H H' → tl a = (tl x).drop (cpl (tl x) (tl y)) → tl b = (tl y).drop (cpl (tl x) (tl y)) → H' p = some (.tup [.str a, .str b]) → Q (.ref p) H'
def N_lag_of : List Str := ["first", "second", "at"]
theorem sc_lag_of : FnScope N_lag_of ["first", "second"] (defScope (top 15)) := ⟨rfl, rfl, rfl, by decide +kernel, rfl, by decide +kernel, by decide +kernel⟩
theorem ok_lag_of (En : Env K mg fas fns prs) : Ok P w K mg base "lag_of" 2 ["first", "second"] sp_lagOf := by
  refine ok_mk 6 15 En sc_lag_of (fun _ _ _ _ _ _ us hl => match us, hl with | [_, _], _ => rfl) (fun vs H Q E h => ?_) (fun f cdv A outer s H vs Q E hr h => ?_)
  · obtain ⟨x, y, rfl, _⟩ := h
    rfl
  · obtain ⟨x, y, rfl, hx, hy, k⟩ := h
    have lx : x.length = (tl x).length := rfl
    have ly : y.length = (tl y).length := rfl
    refine ⟨_, (pss_cons
        (ps_set (i := 2) sc_lag_of.nd rfl (Or.inl rfl) (pe_fn (ok_shared_length En) (hr.mono (by decide)) (pa_cons (pv 0) (pa_cons (pv 1) pa_nil))))
      (pss_one
        (ps_ret (pe_tup (pa_cons (pe_slice sl_str (pv 0) (po_some (pv 2)) po_none) (pa_cons (pe_slice sl_str (pv 1) (po_some (pv 2)) po_none) pa_nil)))))), ?_⟩
    walk_at "w"
    refine ⟨x, y, rfl, hx, hy, fun n hn => ?_⟩
    walk_at "w"
    refine ⟨szr rfl, fun p np => ?_⟩
    refine k p _ _ _ (Same.new np) ?_ ?_ upd_same
    · rw [tl_suf (by omega), Int.toNat_natCast, hn]
    · rw [tl_suf (by omega), Int.toNat_natCast, hn]
end
end GJ


set_option Elab.async false
set_option linter.all false
set_option maxRecDepth 100000
set_option maxHeartbeats 4000000
namespace GJ
open PySem PySem.Spec PyProof.Rows L2 TL
set_option pp.maxSteps 300
/-- data within bounds that no bad thing breaks -/
abbrev Ld (d : PyData) : Prop := wt d < 100000000
theorem Ld.str {x : Str} (h : Ld (.str x)) : PyData.strOk x = true ∧ (tl x).length ≤ 50000000 := by
  unfold Ld at h
  simp only [wt] at h
  split at h
  · rename_i q
    refine ⟨strOk_of fun c hc => ?_, by omega⟩
    have := List.all_eq_true.mp q c hc
    simp only [okc, Bool.or_eq_true, Bool.and_eq_true, decide_eq_true_eq] at this
    omega
  · omega
theorem wts_mem : ∀ {ds : List PyData} {d : PyData}, d ∈ ds → wt d ≤ wts ds
  | e :: ds, d, h => by
    simp only [wts]
    rcases List.mem_cons.mp h with rfl | h
    · omega
    · have := wts_mem h
      omega
theorem Ld.tup {ds : List PyData} (h : Ld (.tuple ds)) {d : PyData} (g : d ∈ ds) : Ld d := by
  unfold Ld at *
  simp only [wt] at h
  have := wts_mem g
  omega
theorem Ld.lst {ds : List PyData} (h : Ld (.list ds)) {d : PyData} (g : d ∈ ds) : Ld d := by
  unfold Ld at *
  simp only [wt] at h
  have := wts_mem g
  split at h
  · omega
  · omega
theorem wts_len : ∀ (ds : List PyData), 4 * ds.length ≤ wts ds
  | [] => Nat.zero_le _
  | d :: ds => by
    have := wts_len ds
    simp only [wts, List.length_cons]
    omega
theorem Ld.lstLen {ds : List PyData} (h : Ld (.list ds)) : ds.length ≤ 1000 := by
  unfold Ld at h
  simp only [wt] at h
  split at h
  · assumption
  · omega
theorem Ld.tupLen {ds : List PyData} (h : Ld (.tuple ds)) : ds.length ≤ 25000000 := by
  unfold Ld at h
  simp only [wt] at h
  have := wts_len ds
  omega
theorem shaped_list {ds : List PyData} (h : ∀ d ∈ ds, SeqAt.shaped d = true ∧ d.depth ≤ 10) : SeqAt.shaped (.list ds) = true := by
  have a : PyData.canLayAll0 ds = true := by
    induction ds with
    | nil => rfl
    | cons d ds ih =>
      simp only [PyData.canLayAll0, Bool.and_eq_true]
      exact ⟨SeqAt.canLay_of_shaped (h d List.mem_cons_self).1, ih fun e he => h e (List.mem_cons_of_mem _ he)⟩
  have b : PyData.depthAll ds ≤ 10 := by
    induction ds with
    | nil => simp [PyData.depthAll]
    | cons d ds ih =>
      simp only [PyData.depthAll]
      simp only [PyData.canLayAll0, Bool.and_eq_true] at a
      exact Nat.max_le.mpr ⟨(h d List.mem_cons_self).2, ih (fun e he => h e (List.mem_cons_of_mem _ he)) a.2⟩
  unfold SeqAt.shaped
  rw [Bool.and_eq_true]
  refine ⟨by simpa [PyData.canLay0] using a, decide_eq_true ?_⟩
  simp only [PyData.depth]
  omega
theorem len2 {α : Type} : ∀ {l : List α}, l.length = 2 → ∃ a b, l = [a, b]
  | [a, b], _ => ⟨a, b, rfl⟩
theorem len3 {α : Type} : ∀ {l : List α}, l.length = 3 → ∃ a b c, l = [a, b, c]
  | [a, b, c], _ => ⟨a, b, c, rfl⟩
theorem len4 {α : Type} : ∀ {l : List α}, l.length = 4 → ∃ a b c d, l = [a, b, c, d]
  | [a, b, c, d], _ => ⟨a, b, c, d, rfl⟩
theorem eqv_side (a b : Side) : PyData.eqv (sideD a) (sideD b) = true ↔ a = b := by
  obtain ⟨a1, a2⟩ := a
  obtain ⟨b1, b2⟩ := b
  simp [sideD, PyData.eqv, PyData.eqvAll]
section
variable {P : Program} {w : World} {K : PySem.W.Frag} {mg : Str → Option Value} {base : Heap}
set_option hygiene false in
local macro_rules | `(tactic| walk_at "w") => `(tactic| repeat (first
  | refine ⟨_, rfl, ?_⟩
  | refine ⟨_, _, rfl, rfl, (by first | decide | omega), fun r r0 r1 re => ?_⟩
  | refine ⟨_, _, rfl, rfl, (by first | exact Or.inl ⟨by omega, by omega⟩ | exact Or.inr ⟨by omega, by omega⟩ : CMul _ _), ?_⟩
  | refine ⟨_, _, rfl, rfl, (by first | exact ⟨by decide, by decide⟩ | exact ⟨by omega, by omega⟩ : CDiv _ _), ?_⟩
  | refine ⟨_, _, rfl, rfl, (by exact ⟨by decide, by decide, by decide⟩ : CPow _ _), ?_⟩
  | refine ⟨_, _, rfl, rfl, ?_⟩
  | refine ⟨(by rfl : scal _ _ = true), ?_⟩
  | refine Or.inl ⟨_, rfl, ?_⟩
  | refine ⟨_, _, rfl, fun m m0 m1 m2 => ?_⟩
  | refine ⟨_, _, _, _, rfl, rfl, SqL.of (by first | assumption | exact upd_same | exact fx _ | exact fy _), rfl, ?_⟩
  | refine ⟨_, _, _, _, rfl, rfl, (by first | assumption | exact upd_same | exact fx _ | exact fy _), rfl, ?_⟩
  | refine ⟨_, _, _, _, rfl, rfl, SqT.of (by first | assumption | exact upd_same | exact fx _ | exact fy _), rfl, ?_⟩
  | refine ⟨(szle (by omega) : Str.length _ ≤ sizeLine), ?_⟩
  | refine ⟨(szle (by first | omega | (rw [sla]; omega) | (rw [sla, sla]; omega)) : Str.length _ + Str.length _ ≤ sizeLine), ?_⟩
  | refine ⟨_, _, rfl, len_lst (by first | assumption | exact upd_same | exact fx _ | exact fy _), ?_⟩))
set_option hygiene false in
local macro_rules | `(tactic| walk_at "if") => `(tactic| (refine ite2 (fun hc => ?_) (fun hc => ?_) <;>
  simp only [decide_eq_true_eq, Bool.not_eq_true', decide_eq_false_iff_not, V.int.injEq, V.str.injEq, V.bl.injEq, Decidable.not_not, Bool.not_eq_true, V.int_ne, Int.not_lt, Int.not_le, Bool.true_eq_false, Bool.false_eq_true, not_true_eq_false, not_false_eq_true] at hc))
set_option hygiene false in
local macro_rules | `(tactic| walk_at "new") => `(tactic| (refine ⟨by first | decide | (simp only [List.length_cons, List.length_nil, List.length_append, List.length_map]; first | decide | (rw [sizeLine_eq]; omega)), fun p np => ?_⟩))
set_option hygiene false in
local macro_rules | `(tactic| walk_at "yes") => `(tactic| refine itY (by first | rfl | exact decide_eq_true (by first | rfl | omega | assumption) | (simp only [decide_eq_true_eq, Bool.not_eq_true', decide_eq_false_iff_not, V.int.injEq, V.str.injEq, V.bl.injEq]; first | omega | assumption)) ?_)
set_option hygiene false in
local macro_rules | `(tactic| walk_at "no") => `(tactic| refine itN (by first | decide | (simp only [decide_eq_true_eq, Bool.not_eq_true', decide_eq_false_iff_not, V.int.injEq, V.str.injEq, V.bl.injEq, Bool.not_eq_true, Decidable.not_not]; first | omega | assumption)) ?_)
def sp_knownSide : Sp := fun vs H Q _ => ∃ (v k : V) (d : PyData) (l : List Side), vs = [v, k] ∧ DA H v d ∧ Ld d ∧ DA H k (.list (l.map sideD)) ∧ (∀ e ∈ l, SeqAt.shaped (sideD e) = true) ∧
  ∀ r : Bool, (r = true ↔ ∃ e ∈ l, d = sideD e) → Q (.bl r) H
def N_is_known_side : List Str := ["value", "known"]
theorem sc_is_known_side : FnScope N_is_known_side ["value", "known"] (defScope (top 33)) := ⟨rfl, rfl, rfl, by decide +kernel, rfl, by decide +kernel, by decide +kernel⟩
theorem ok_is_known_side (En : Env K mg fas fns prs) : Ok P w K mg base "is_known_side" 2 ["value", "known"] sp_knownSide := by
  refine ok_mk 18 33 En sc_is_known_side (fun _ _ _ _ _ _ us hl => match us, hl with | [_, _], _ => rfl) (fun vs H Q E h => ?_) (fun f cdv A outer s H vs Q E hr h => ?_)
  · obtain ⟨v, kn, d, l, rfl, _⟩ := h
    rfl
  · obtain ⟨v, kn, d, l, rfl, hd, hL, hk, hs, k⟩ := h
    have no : ∀ (h : ∀ e ∈ l, d ≠ sideD e), Q (.bl false) H := fun h => k false ⟨fun q => (nomatch q), fun ⟨e, he, q⟩ => absurd q (h e he)⟩
    refine ⟨_, (pss_cons
        (ps_if (PW.pt (pw_or (pt_not (pt_val (pe_callB (call_isiK2 (K := K) rfl) (by rfl) (fr_isinstance En) bt_isinstance (pa_cons (pv 0) (pa_cons (pe_bltn (v := .ty "tuple") (by rfl) (fr_tuple En) bt_tuple rfl) pa_nil))))) (pw_or1 (pt_cmpR op_ne (pe_callB (call_lenK (K := K) rfl) (by rfl) (fr_len En) bt_len (pa_cons (pv 0) pa_nil)) pe_int (nomark _))))) (pss_one (ps_ret pe_bl)) pss_nil)
      (pss_one
        (ps_ret (pe_and (pe_fn (ok_is_number En) (hr.mono (by decide)) (pa_cons (pe_ix (ix_tupK (K := K) rfl) (pv 0) pe_int (fun _ _ => rfl)) pa_nil)) (pe_and (pe_callB (call_isiK2 (K := K) rfl) (by rfl) (fr_isinstance En) bt_isinstance (pa_cons (pe_ix (ix_tupK (K := K) rfl) (pv 0) pe_int (fun _ _ => rfl)) (pa_cons (pe_bltn (v := .ty "str") (by rfl) (fr_str En) bt_str rfl) pa_nil))) (pe_one (pe_cmpR (op_inDK (K := K) rfl (u65 hr)) (pv 0) (pv 1) rfl))))))), ?_⟩
    walk_at "w"
    refine ⟨_, _, _, _, _, rfl, .ty _, hd.ty, k_tup hd, ?_⟩
    walk_at "w"
    cases ht : isTup d with
    | false =>
      walk_at "w"
      refine itY rfl ?_
      walk_at "w"
      exact no fun e _ q => by rw [q] at ht; cases ht
    | true =>
      obtain ⟨ds, rfl⟩ : ∃ ds, d = .tuple ds := by cases d <;> first | exact ⟨_, rfl⟩ | cases ht
      obtain ⟨p, xs, rfl, hp, hx⟩ := hd.tup_inv
      have hxl := hx.len
      have hdl := hL.tupLen
      walk_at "w"
      refine ⟨_, _, rfl, len_tup hp, ?_⟩
      walk_at "w"
      refine ite2 (fun hc => ?_) (fun hc => ?_)
      · walk_at "w"
        refine no fun e _ q => ?_
        rw [hxl, PyData.tuple.inj q] at hc
        simp only [List.length_cons, List.length_nil] at hc
        exact absurd hc (by rw [decide_eq_true (by rfl)]; decide)
      · have h2 : xs.length = 2 := by
          simp only [decide_eq_true_eq, Decidable.not_not, V.int.injEq, Bool.not_eq_true', decide_eq_false_iff_not, ne_eq] at hc
          omega
        obtain ⟨v1, v2, rfl⟩ := len2 h2
        obtain ⟨d1, d2, rfl⟩ := len2 (hxl.symm.trans h2)
        obtain ⟨_, _, e, j1, hx⟩ := hx.cons_inv
        cases e
        obtain ⟨_, _, e, j2, _⟩ := hx.cons_inv
        cases e
        walk_at "w"
        refine ⟨_, d1, rfl, j1, ?_⟩
        walk_at "w"
        cases hi : isInt d1 with
        | false =>
          refine itN (fun h => nomatch h) ?_
          refine no fun e _ q => ?_
          cases q
          cases hi
        | true =>
          obtain ⟨i, rfl⟩ : ∃ i, d1 = .int i := by cases d1 <;> first | exact ⟨_, rfl⟩ | cases hi
          refine itY rfl ?_
          walk_at "w"
          refine ⟨_, _, _, _, _, rfl, .ty _, j2.ty, k_str j2, ?_⟩
          walk_at "w"
          cases hs2 : isStr d2 with
          | false =>
            refine itN (fun h => nomatch h) ?_
            refine no fun e _ q => ?_
            cases q
            cases hs2
          | true =>
            obtain ⟨x, rfl⟩ : ∃ i, d2 = .str i := by cases d2 <;> first | exact ⟨_, rfl⟩ | cases hs2
            refine itY rfl ?_
            have sx : SeqAt.shaped (sideD (i, x)) = true := by
              have := (hL.tup (d := .str x) (by simp)).str.1
              simp [sideD, SeqAt.shaped, PyData.canLay0, PyData.canLayAll0, PyData.depth, PyData.depthAll, this]
            walk_at "w"
            refine ⟨sideD (i, x), l.map sideD, hd.dp _, hk.dp _, sx, shaped_list fun d hd => ?_, ?_⟩
            · obtain ⟨e, he, rfl⟩ := map_mem hd
              exact ⟨hs e he, by simp [sideD, PyData.depth, PyData.depthAll]⟩
            · refine k _ ?_
              rw [List.any_eq_true]
              constructor
              · rintro ⟨d, hd, he⟩
                obtain ⟨e, h1, rfl⟩ := map_mem hd
                exact ⟨e, h1, by rw [(eqv_side e (i, x)).mp he]; rfl⟩
              · rintro ⟨e, he, q⟩
                refine ⟨sideD e, List.mem_map.mpr ⟨e, he, rfl⟩, ?_⟩
                rw [← q]
                exact (eqv_side (i, x) (i, x)).mpr rfl
def sp_knownArc : Sp := fun vs H Q _ => ∃ (v : V) (D : Addr) (d : PyData) (l : List Arc) (kvs : List (List Key × V)), vs = [v, .ref D] ∧ DA H v d ∧ Ld d ∧ H D = some (.dT kvs) ∧ (∀ k, (valV kvs k).isSome = true ↔ ∃ e ∈ l, keyA e = k) ∧
  ∀ r : Bool, (r = true ↔ ∃ e ∈ l, d = arcD e) → Q (.bl r) H
def N_is_known_arc : List Str := ["value", "known"]
theorem sc_is_known_arc : FnScope N_is_known_arc ["value", "known"] (defScope (top 34)) := ⟨rfl, rfl, rfl, by decide +kernel, rfl, by decide +kernel, by decide +kernel⟩
theorem ok_is_known_arc (En : Env K mg fas fns prs) : Ok P w K mg base "is_known_arc" 2 ["value", "known"] sp_knownArc := by
  refine ok_mk 19 34 En sc_is_known_arc (fun _ _ _ _ _ _ us hl => match us, hl with | [_, _], _ => rfl) (fun vs H Q E h => ?_) (fun f cdv A outer s H vs Q E hr h => ?_)
  · obtain ⟨v, D, d, l, kvs, rfl, _⟩ := h
    rfl
  · obtain ⟨v, D, d, l, kvs, rfl, hd, hL, hD, hm, k⟩ := h
    have no : ∀ (h : ∀ e ∈ l, d ≠ arcD e), Q (.bl false) H := fun h => k false ⟨fun q => (nomatch q), fun ⟨e, he, q⟩ => absurd q (h e he)⟩
    refine ⟨_, (pss_cons
        (ps_if (PW.pt (pw_or (pt_not (pt_val (pe_callB (call_isiK2 (K := K) rfl) (by rfl) (fr_isinstance En) bt_isinstance (pa_cons (pv 0) (pa_cons (pe_bltn (v := .ty "tuple") (by rfl) (fr_tuple En) bt_tuple rfl) pa_nil))))) (pw_or1 (pt_cmpR op_ne (pe_callB (call_lenK (K := K) rfl) (by rfl) (fr_len En) bt_len (pa_cons (pv 0) pa_nil)) pe_int (nomark _))))) (pss_one (ps_ret pe_bl)) pss_nil)
      (pss_cons
        (ps_if (PW.pt (pw_or (pt_not (pt_val (pe_fn (ok_is_number En) (hr.mono (by decide)) (pa_cons (pe_ix (ix_tupK (K := K) rfl) (pv 0) pe_int (fun _ _ => rfl)) pa_nil)))) (pw_or1 (pt_not (pt_val (pe_fn (ok_is_number En) (hr.mono (by decide)) (pa_cons (pe_ix (ix_tupK (K := K) rfl) (pv 0) pe_int (fun _ _ => rfl)) pa_nil))))))) (pss_one (ps_ret pe_bl)) pss_nil)
      (pss_one
        (ps_ret (pe_and (pe_callB (call_isiK2 (K := K) rfl) (by rfl) (fr_isinstance En) bt_isinstance (pa_cons (pe_ix (ix_tupK (K := K) rfl) (pv 0) pe_int (fun _ _ => rfl)) (pa_cons (pe_bltn (v := .ty "str") (by rfl) (fr_str En) bt_str rfl) pa_nil))) (pe_and (pe_callB (call_isiK2 (K := K) rfl) (by rfl) (fr_isinstance En) bt_isinstance (pa_cons (pe_ix (ix_tupK (K := K) rfl) (pv 0) pe_int (fun _ _ => rfl)) (pa_cons (pe_bltn (v := .ty "str") (by rfl) (fr_str En) bt_str rfl) pa_nil))) (pe_one (pe_cmp (pc_din (hu_of hr) (pv 0) (pv 1)))))))))), ?_⟩
    walk_at "w"
    refine ⟨_, _, _, _, _, rfl, .ty _, hd.ty, k_tup hd, ?_⟩
    walk_at "w"
    cases ht : isTup d with
    | false =>
      walk_at "w"
      refine itY rfl ?_
      walk_at "w"
      exact no fun e _ q => by rw [q] at ht; cases ht
    | true =>
      obtain ⟨ds, rfl⟩ : ∃ ds, d = .tuple ds := by cases d <;> first | exact ⟨_, rfl⟩ | cases ht
      obtain ⟨p, xs, rfl, hp, hx⟩ := hd.tup_inv
      have hxl := hx.len
      have hdl := hL.tupLen
      walk_at "w"
      refine ⟨_, _, rfl, len_tup hp, ?_⟩
      walk_at "w"
      refine ite2 (fun hc => ?_) (fun hc => ?_)
      · walk_at "w"
        refine no fun e _ q => ?_
        rw [hxl, PyData.tuple.inj q] at hc
        simp only [List.length_cons, List.length_nil] at hc
        exact absurd hc (by rw [decide_eq_true (by rfl)]; decide)
      · have h4 : xs.length = 4 := by
          simp only [decide_eq_true_eq, Decidable.not_not, V.int.injEq, Bool.not_eq_true', decide_eq_false_iff_not, ne_eq] at hc
          omega
        obtain ⟨v1, v2, v3, v4, rfl⟩ := len4 h4
        obtain ⟨d1, d2, d3, d4, rfl⟩ := len4 (hxl.symm.trans h4)
        obtain ⟨_, _, e, j1, hx⟩ := hx.cons_inv
        cases e
        obtain ⟨_, _, e, j2, hx⟩ := hx.cons_inv
        cases e
        obtain ⟨_, _, e, j3, hx⟩ := hx.cons_inv
        cases e
        obtain ⟨_, _, e, j4, _⟩ := hx.cons_inv
        cases e
        walk_at "w"
        refine ⟨_, d1, rfl, j1, ?_⟩
        walk_at "w"
        cases hi : isInt d1 with
        | false =>
          walk_at "w"
          refine no fun e _ q => ?_
          cases q
          cases hi
        | true =>
          obtain ⟨i, rfl⟩ : ∃ i, d1 = .int i := by cases d1 <;> first | exact ⟨_, rfl⟩ | cases hi
          walk_at "w"
          refine ⟨_, d4, rfl, j4, ?_⟩
          walk_at "w"
          cases hi4 : isInt d4 with
          | false =>
            refine itY rfl ?_
            walk_at "w"
            refine no fun e _ q => ?_
            cases q
            cases hi4
          | true =>
            obtain ⟨t, rfl⟩ : ∃ i, d4 = .int i := by cases d4 <;> first | exact ⟨_, rfl⟩ | cases hi4
            refine itN (fun h => nomatch h) ?_
            walk_at "w"
            refine ⟨_, _, _, _, _, rfl, .ty _, j2.ty, k_str j2, ?_⟩
            walk_at "w"
            cases hs2 : isStr d2 with
            | false =>
              refine itN (fun h => nomatch h) ?_
              refine no fun e _ q => ?_
              cases q
              cases hs2
            | true =>
              obtain ⟨x, rfl⟩ : ∃ i, d2 = .str i := by cases d2 <;> first | exact ⟨_, rfl⟩ | cases hs2
              refine itY rfl ?_
              walk_at "w"
              refine ⟨_, _, _, _, _, rfl, .ty _, j3.ty, k_str j3, ?_⟩
              walk_at "w"
              cases hs3 : isStr d3 with
              | false =>
                refine itN (fun h => nomatch h) ?_
                refine no fun e _ q => ?_
                cases q
                cases hs3
              | true =>
                obtain ⟨y, rfl⟩ : ∃ i, d3 = .str i := by cases d3 <;> first | exact ⟨_, rfl⟩ | cases hs3
                refine itY rfl ?_
                obtain rfl := j1.int_inv
                obtain rfl := j2.str_inv
                obtain rfl := j3.str_inv
                obtain rfl := j4.int_inv
                walk_at "w"
                refine ⟨D, valV kvs (keyA (i, x, y, t)), rfl, DGet.t hD (k := keyA (i, x, y, t)) hp, ?_⟩
                refine k _ ?_
                rw [hm]
                constructor
                · rintro ⟨e, he, q⟩
                  exact ⟨e, he, by rw [keyA_inj q]; rfl⟩
                · rintro ⟨e, he, q⟩
                  refine ⟨e, he, ?_⟩
                  obtain ⟨e1, e2, e3, e4⟩ := e
                  simp only [arcD, PyData.tuple.injEq, List.cons.injEq, PyData.int.injEq, PyData.str.injEq, and_true] at q
                  rw [q.1, q.2.1, q.2.2.1, q.2.2.2]
end
end GJ


set_option Elab.async false
set_option linter.all false
set_option maxRecDepth 100000
set_option maxHeartbeats 4000000
namespace GJ
open PySem PySem.Spec PyProof.Rows L2 TL
set_option pp.maxSteps 300
def Chain (M : Parts) : Int → List Arc → Prop
  | _, [] => True
  | s, a :: as => (a ∈ M.as ∧ a.1 = s) ∧ Chain M a.2.2.2 as
def lastSt : Int → List Arc → Int
  | s, [] => s
  | _, a :: as => lastSt a.2.2.2 as
def WayOk (M : Parts) (w : Way) : Prop := w.1 ∈ M.bs ∧ Chain M w.1.1 w.2
theorem chain_app {M : Parts} : ∀ {s : Int} {as bs : List Arc}, Chain M s (as ++ bs) ↔ Chain M s as ∧ Chain M (lastSt s as) bs
  | _, [], _ => ⟨fun h => ⟨True.intro, h⟩, fun h => h.2⟩
  | s, a :: as, bs => by
    show ((a ∈ M.as ∧ a.1 = s) ∧ Chain M a.2.2.2 (as ++ bs)) ↔ ((a ∈ M.as ∧ a.1 = s) ∧ Chain M a.2.2.2 as) ∧ Chain M (lastSt a.2.2.2 as) bs
    rw [chain_app (as := as)]
    exact ⟨fun ⟨h, g, q⟩ => ⟨⟨h, g⟩, q⟩, fun ⟨⟨h, g⟩, q⟩ => ⟨h, g, q⟩⟩
theorem lastSt_app : ∀ {s : Int} {as : List Arc} {a : Arc}, lastSt s (as ++ [a]) = a.2.2.2
  | _, [], _ => rfl
  | _, b :: as, a => lastSt_app (s := b.2.2.2) (as := as)
theorem arcD_inj {a b : Arc} (h : arcD a = arcD b) : a = b := by
  obtain ⟨a1, a2, a3, a4⟩ := a
  obtain ⟨b1, b2, b3, b4⟩ := b
  simp only [arcD, PyData.tuple.injEq, List.cons.injEq, PyData.int.injEq, PyData.str.injEq, and_true] at h
  rw [h.1, h.2.1, h.2.2.1, h.2.2.2]
theorem sideD_inj {a b : Side} (h : sideD a = sideD b) : a = b := by
  obtain ⟨a1, a2⟩ := a
  obtain ⟨b1, b2⟩ := b
  simp only [sideD, PyData.tuple.injEq, List.cons.injEq, PyData.int.injEq, PyData.str.injEq, and_true] at h
  rw [h.1, h.2]
theorem mapD_inj : ∀ {a b : List Arc}, a.map arcD = b.map arcD → a = b
  | [], [], _ => rfl
  | [], _ :: _, h => nomatch h
  | _ :: _, [], h => nomatch h
  | x :: a, y :: b, h => by
    simp only [List.map_cons, List.cons.injEq] at h
    rw [arcD_inj h.1, mapD_inj h.2]
theorem map_of_get {α β : Type} {f : α → β} {l : List α} {ys : List β} (hl : ys.length = l.length) (h : ∀ (i : Nat) y, ys[i]? = some y → ∃ a, l[i]? = some a ∧ y = f a) : ys = l.map f := by
  apply List.ext_getElem?
  intro i
  rw [List.getElem?_map]
  cases q : ys[i]? with
  | none =>
    have := List.getElem?_eq_none_iff.mp q
    rw [List.getElem?_eq_none_iff.mpr (by omega)]
    rfl
  | some y =>
    obtain ⟨a, h1, h2⟩ := h i y q
    rw [h1, h2]
    rfl
theorem take_succ_get {α : Type} {l : List α} {i : Nat} {a : α} (h : l[i]? = some a) : l.take (i + 1) = l.take i ++ [a] := by
  rw [List.take_add_one, h]
  rfl
/-- a way that goes on as ds says has its i-th arc known and leaving from where one stands -/
theorem chain_at {M : Parts} {s : Int} {as w : List Arc} {i : Nat} {d : PyData} (h : (w.map arcD).take i = as.map arcD) (hd : (w.map arcD)[i]? = some d) (c : Chain M s w) : ∃ a ∈ M.as, d = arcD a ∧ a.1 = lastSt s as := by
  rw [← List.map_take] at h
  have e := mapD_inj h
  rw [List.getElem?_map] at hd
  cases q : w[i]? with
  | none => rw [q] at hd; cases hd
  | some a =>
    rw [q] at hd
    cases hd
    have c2 : Chain M s (w.take (i + 1)) := by
      rw [← List.take_append_drop (i + 1) w] at c
      exact (chain_app.mp c).1
    rw [take_succ_get q, e] at c2
    obtain ⟨_, ⟨h1, h2⟩, _⟩ := chain_app.mp c2
    exact ⟨a, h1, rfl, h2⟩
section
variable {P : Program} {w : World} {K : PySem.W.Frag} {mg : Str → Option Value} {base : Heap}
set_option hygiene false in
local macro_rules | `(tactic| walk_at "w") => `(tactic| repeat (first
  | refine ⟨_, rfl, ?_⟩
  | refine ⟨_, _, rfl, rfl, (by first | decide | omega), fun r r0 r1 re => ?_⟩
  | refine ⟨_, _, rfl, rfl, (by first | exact Or.inl ⟨by omega, by omega⟩ | exact Or.inr ⟨by omega, by omega⟩ : CMul _ _), ?_⟩
  | refine ⟨_, _, rfl, rfl, (by first | exact ⟨by decide, by decide⟩ | exact ⟨by omega, by omega⟩ : CDiv _ _), ?_⟩
  | refine ⟨_, _, rfl, rfl, (by exact ⟨by decide, by decide, by decide⟩ : CPow _ _), ?_⟩
  | refine ⟨_, _, rfl, rfl, ?_⟩
  | refine ⟨(by rfl : scal _ _ = true), ?_⟩
  | refine Or.inl ⟨_, rfl, ?_⟩
  | refine ⟨_, _, rfl, fun m m0 m1 m2 => ?_⟩
  | refine ⟨_, _, _, _, rfl, rfl, SqL.of (by first | assumption | exact upd_same | exact fx _ | exact fy _), rfl, ?_⟩
  | refine ⟨_, _, _, _, rfl, rfl, (by first | assumption | exact upd_same | exact fx _ | exact fy _), rfl, ?_⟩
  | refine ⟨_, _, _, _, rfl, rfl, SqT.of (by first | assumption | exact upd_same | exact fx _ | exact fy _), rfl, ?_⟩
  | refine ⟨(szle (by omega) : Str.length _ ≤ sizeLine), ?_⟩
  | refine ⟨(szle (by first | omega | (rw [sla]; omega) | (rw [sla, sla]; omega)) : Str.length _ + Str.length _ ≤ sizeLine), ?_⟩
  | refine ⟨_, _, rfl, len_lst (by first | assumption | exact upd_same | exact fx _ | exact fy _), ?_⟩))
set_option hygiene false in
local macro_rules | `(tactic| walk_at "if") => `(tactic| (refine ite2 (fun hc => ?_) (fun hc => ?_) <;>
  simp only [decide_eq_true_eq, Bool.not_eq_true', decide_eq_false_iff_not, V.int.injEq, V.str.injEq, V.bl.injEq, Decidable.not_not, Bool.not_eq_true, V.int_ne, Int.not_lt, Int.not_le, Bool.true_eq_false, Bool.false_eq_true, not_true_eq_false, not_false_eq_true] at hc))
set_option hygiene false in
local macro_rules | `(tactic| walk_at "new") => `(tactic| (refine ⟨by first | decide | (simp only [List.length_cons, List.length_nil, List.length_append, List.length_map]; first | decide | (rw [sizeLine_eq]; omega)), fun p np => ?_⟩))
set_option hygiene false in
local macro_rules | `(tactic| walk_at "yes") => `(tactic| refine itY (by first | rfl | exact decide_eq_true (by first | rfl | omega | assumption) | (simp only [decide_eq_true_eq, Bool.not_eq_true', decide_eq_false_iff_not, V.int.injEq, V.str.injEq, V.bl.injEq]; first | omega | assumption)) ?_)
set_option hygiene false in
local macro_rules | `(tactic| walk_at "no") => `(tactic| refine itN (by first | decide | (simp only [decide_eq_true_eq, Bool.not_eq_true', decide_eq_false_iff_not, V.int.injEq, V.str.injEq, V.bl.injEq, Bool.not_eq_true, Decidable.not_not]; first | omega | assumption)) ?_)
def sp_lastState (K : PySem.W.Frag) : Sp := fun vs H Q _ => ∃ (m : Addr) (vb va : V) (M : Parts) (db da : PyData), vs = [.ref m, vb, va] ∧ MA K H m M ∧ PV M ∧ DA H vb db ∧ DA H va da ∧ Ld db ∧ Ld da ∧
  (∀ H' (w : Way), Same H H' → db = sideD w.1 → da = .list (w.2.map arcD) → WayOk M w → Q (.int (lastSt w.1.1 w.2)) H') ∧
  (∀ H', Same H H' → (¬ ∃ w : Way, db = sideD w.1 ∧ da = .list (w.2.map arcD) ∧ WayOk M w) → Q .non H')
def N_last_state : List Str := ["machine", "begin", "arcs", "known", "state", "arc"]
theorem sc_last_state : FnScope N_last_state ["machine", "begin", "arcs"] (defScope (top 35)) := ⟨rfl, rfl, rfl, by decide +kernel, rfl, by decide +kernel, by decide +kernel⟩
theorem ok_last_state (En : Env K mg fas fns prs) : Ok P w K mg base "last_state" 3 ["machine", "begin", "arcs"] (sp_lastState K) := by
  refine ok_mk 20 35 En sc_last_state (fun _ _ _ _ _ _ us hl => match us, hl with | [_, _, _], _ => rfl) (fun vs H Q E h => ?_) (fun f cdv A outer s H vs Q E hr h => ?_)
  · obtain ⟨m, vb, va, M, db, da, rfl, _⟩ := h
    rfl
  · obtain ⟨m, vb, va, M, db, da, rfl, hM, hPV, jb, ja, Lb, La, kY, kN⟩ := h
    obtain ⟨dx, b0, a0, e0, _, _, _, hx, _⟩ := hM.ex
    refine ⟨_, (pss_cons
        (ps_if (PW.pt (pw_or (pt_not (pt_val (pe_fn (ok_is_known_side En) (hr.mono (by decide)) (pa_cons (pv 1) (pa_cons (pe_pr_begins En (pv 0) hr) pa_nil))))) (pw_or1 (pt_not (pt_val (pe_callB (call_isiK2 (K := K) rfl) (by rfl) (fr_isinstance En) bt_isinstance (pa_cons (pv 2) (pa_cons (pe_bltn (v := .ty "list") (by rfl) (fr_list En) bt_list rfl) pa_nil)))))))) (pss_one (ps_ret pe_non)) pss_nil)
      (pss_cons
        (ps_setDcT (i := 3) (own := [("arc", 5)]) (g := gName 5) (tt := tYes) rfl sc_last_state.nd rfl rfl (sw_trueD rfl rfl rfl (by decide +kernel)) (pi_listK (K := K) rfl (pe_pr_arcs En (pv 0) hr)) (blkOk_by (own := [("arc", 5)]) (N := N_last_state) (sc := defScope (top 35)) (by decide +kernel)) hr.units0 (fun _ _ _ _ _ => (pg_name (i := 5) sc_last_state.nd rfl (Or.inl rfl))) (fun _ _ _ _ _ => pts_nil) (fun _ _ _ _ _ => (pv 5)) (fun _ _ _ _ _ => pe_bl))
      (pss_cons
        (ps_set (i := 4) sc_last_state.nd rfl (Or.inl rfl) (pe_ix (ix_tupK (K := K) rfl) (pv 1) pe_int (fun _ _ => rfl)))
      (pss_cons
        (ps_for PassesOwn.never rfl (pi_listK (K := K) rfl (pv 2)) (pg_name (i := 5) sc_last_state.nd rfl (Or.inl rfl)) (pss_cons
        (ps_if (PW.pt (pw_or (pt_not (pt_val (pe_fn (ok_is_known_arc En) (hr.mono (by decide)) (pa_cons (pv 5) (pa_cons (pv 3) pa_nil))))) (pw_or1 (pt_cmpR op_ne (pe_ix (ix_tupK (K := K) rfl) (pv 5) pe_int (fun _ _ => rfl)) (pv 4) (nomark _))))) (pss_one (ps_ret pe_non)) pss_nil)
      (pss_one
        (ps_set (i := 4) sc_last_state.nd rfl (Or.inl rfl) (pe_ix (ix_tupK (K := K) rfl) (pv 5) pe_int (fun _ _ => rfl))))))
      (pss_one
        (ps_ret (pv 4))))))), ?_⟩
    walk_at "w"
    refine ⟨m, dx, _, rfl, hx, m, M, rfl, hM, fun q H1 lb nq s1 jlb mlb cl => ?_⟩
    walk_at "w"
    refine ⟨vb, .ref q, db, lb, rfl, jb.up s1, Lb, jlb, fun e he => (hPV.bs e ((mlb e).mp he)).shaped hPV.awr, fun r hr => ?_⟩
    walk_at "w"
    cases r with
    | false =>
      refine itY rfl ?_
      walk_at "w"
      refine kN _ s1 ?_
      rintro ⟨w, e1, _, h1, _⟩
      exact nomatch hr.mpr ⟨w.1, (mlb _).mpr h1, e1⟩
    | true =>
      obtain ⟨sd, hsd, rfl⟩ := hr.mp rfl
      replace hsd := (mlb sd).mp hsd
      have ja1 := ja.up s1
      refine itN (fun h => nomatch h) ?_
      walk_at "w"
      refine ⟨_, _, _, _, _, rfl, .ty _, ja1.ty, k_lst ja1, ?_⟩
      walk_at "w"
      cases hl : isLst da with
      | false =>
        refine itY rfl ?_
        walk_at "w"
        refine kN _ s1 ?_
        rintro ⟨w, _, e2, _⟩
        rw [e2] at hl
        cases hl
      | true =>
        obtain ⟨ds, rfl⟩ : ∃ ds, da = .list ds := by cases da <;> first | exact ⟨_, rfl⟩ | cases hl
        refine itN (fun h => nomatch h) ?_
        have hM1 := hM.up s1
        have hx1 := s1 _ _ hx
        walk_at "w"
        refine ⟨m, dx, _, rfl, hx1, m, M, rfl, hM1, fun q2 H2 la nq2 s2 jla mla cla => ?_⟩
        obtain ⟨_, xq, ee, hxq, jq⟩ := jla.lst_inv
        cases ee
        have lq := jq.len
        rw [List.length_map] at lq
        walk_at "w"
        refine ⟨⟨_, SqL.of hxq⟩, fun D nD => ?_⟩
        refine dcT_lst (key := keyA) (l := la) (Same.refl H2) nD hxq (by omega) lq.symm ?_ ?_ ?_ ?_
        · intro i v e hv he
          obtain ⟨d, d1, d2⟩ := jq.get hv
          rw [List.getElem?_map, he] at d1
          cases d1
          obtain ⟨b, rfl, hb⟩ := d2.arc_inv
          exact ⟨b, rfl, hb⟩
        · exact fun _ => rfl
        · exact fun _ => rfl
        intro H3 kvs s3 hD hkl hkm
        have s03 := (s1.trans s2).trans s3
        obtain ⟨pb, rfl, hpb⟩ := (jb.up s03).side_inv
        obtain ⟨pa, xs, rfl, hpa, hxs⟩ := (ja.up s03).lst_inv
        have hxl := hxs.len
        walk_at "w"
        refine ⟨⟨_, SqL.of hpa⟩, for_list (xs := xs) (fun i σ H' => ∃ (as : List Arc) (u : Option V), σ = [some (.ref m), some (.ref pb), some (.ref pa), some (.ref D), some (.int (lastSt sd.1 as)), u] ∧ H' = H3 ∧ ds.take i = as.map arcD ∧ Chain M sd.1 as) ?_ ?_ ?_ ?_⟩
        · exact ⟨[], _, rfl, rfl, rfl, True.intro⟩
        · rintro i σ H4 hi ⟨as, u, rfl, rfl, h1, h2⟩
          exact SqL.of hpa
        · rintro i v σ H4 hi ⟨as, u, rfl, rfl, h1, h2⟩
          obtain ⟨d, hd, jd⟩ := hxs.get hi
          have bad : (∀ e ∈ M.as, d = arcD e → e.1 ≠ lastSt sd.1 as) → ¬ ∃ w : Way, sideD sd = sideD w.1 ∧ PyData.list ds = .list (w.2.map arcD) ∧ WayOk M w := by
            rintro hb ⟨w, e1, e2, e3, e4⟩
            rw [← sideD_inj e1] at e4
            have e2 := PyData.list.inj e2
            rw [e2] at hd h1
            obtain ⟨a, ha, h3, h4⟩ := chain_at h1 hd e4
            exact hb a ha h3 h4
          walk_at "w"
          refine ⟨v, D, d, la, kvs, rfl, jd, La.lst (List.mem_of_getElem? hd), hD, hkm, fun r hr => ?_⟩
          walk_at "w"
          cases r with
          | false =>
            refine itY rfl ?_
            walk_at "w"
            exact kN _ s03 (bad fun e he h => absurd (hr.mpr ⟨e, (mla e).mpr he, h⟩) (fun h => nomatch h))
          | true =>
            obtain ⟨a, ha, rfl⟩ := hr.mp rfl
            replace ha := (mla a).mp ha
            obtain ⟨p, rfl, hp⟩ := jd.arc_inv
            refine itN (fun h => nomatch h) ?_
            walk_at "w"
            refine ite2 (fun hc => ?_) (fun hc => ?_)
            · have hc : a.1 ≠ lastSt sd.1 as := fun e => by
                rw [e, decide_eq_true (rfl : V.int (lastSt sd.1 as) = _)] at hc
                exact nomatch hc
              walk_at "w"
              exact kN _ s03 (bad fun e he h => by rw [← arcD_inj h]; exact hc)
            · have hc : a.1 = lastSt sd.1 as := by
                simp only [V.int_ne, Bool.not_eq_true', decide_eq_false_iff_not, Decidable.not_not] at hc
                exact hc
              walk_at "w"
              refine ⟨as ++ [a], _, by rw [lastSt_app]; rfl, rfl, by rw [take_succ_get hd, h1, List.map_append]; rfl, chain_app.mpr ⟨h2, ⟨ha, hc⟩, True.intro⟩⟩
        · rintro σ H4 ⟨as, u, rfl, rfl, h1, h2⟩
          rw [List.take_of_length_le (by omega)] at h1
          walk_at "w"
          exact kY _ (sd, as) s03 rfl (by rw [h1]) ⟨hsd, h2⟩
def sp_isWay (K : PySem.W.Frag) : Sp := fun vs H Q _ => ∃ (m : Addr) (v : V) (M : Parts) (d : PyData), vs = [.ref m, v] ∧ MA K H m M ∧ PV M ∧ DA H v d ∧ Ld d ∧
  ∀ H' (r : Bool), Same H H' → (r = true ↔ ∃ w : Way, d = wayD w ∧ WayOk M w) → Q (.bl r) H'
def N_is_way : List Str := ["machine", "paper"]
theorem sc_is_way : FnScope N_is_way ["machine", "paper"] (defScope (top 36)) := ⟨rfl, rfl, rfl, by decide +kernel, rfl, by decide +kernel, by decide +kernel⟩
theorem ok_is_way (En : Env K mg fas fns prs) : Ok P w K mg base "is_way" 4 ["machine", "paper"] (sp_isWay K) := by
  refine ok_mk 21 36 En sc_is_way (fun _ _ _ _ _ _ us hl => match us, hl with | [_, _], _ => rfl) (fun vs H Q E h => ?_) (fun f cdv A outer s H vs Q E hr h => ?_)
  · obtain ⟨m, v, M, d, rfl, _⟩ := h
    rfl
  · obtain ⟨m, v, M, d, rfl, hM, hPV, jd, Lb, k⟩ := h
    have no : (¬ ∃ w : Way, d = wayD w ∧ WayOk M w) → Q (.bl false) H := fun h => k _ _ (Same.refl H) ⟨fun q => (nomatch q), fun q => absurd q h⟩
    refine ⟨_, (pss_cons
        (ps_if (PW.pt (pw_or (pt_not (pt_val (pe_callB (call_isiK2 (K := K) rfl) (by rfl) (fr_isinstance En) bt_isinstance (pa_cons (pv 1) (pa_cons (pe_bltn (v := .ty "tuple") (by rfl) (fr_tuple En) bt_tuple rfl) pa_nil))))) (pw_or1 (pt_cmpR op_ne (pe_callB (call_lenK (K := K) rfl) (by rfl) (fr_len En) bt_len (pa_cons (pv 1) pa_nil)) pe_int (nomark _))))) (pss_one (ps_ret pe_bl)) pss_nil)
      (pss_one
        (ps_ret (pe_cmp (pc_notN (pe_fn (ok_last_state En) (hr.mono (by decide)) (pa_cons (pv 0) (pa_cons (pe_ix (ix_tupK (K := K) rfl) (pv 1) pe_int (fun _ _ => rfl)) (pa_cons (pe_ix (ix_tupK (K := K) rfl) (pv 1) pe_int (fun _ _ => rfl)) pa_nil))))))))), ?_⟩
    walk_at "w"
    refine ⟨_, _, _, _, _, rfl, .ty _, jd.ty, k_tup jd, ?_⟩
    walk_at "w"
    cases ht : isTup d with
    | false =>
      walk_at "w"
      refine itY rfl ?_
      walk_at "w"
      exact no fun ⟨w, q, _⟩ => by rw [q] at ht; cases ht
    | true =>
      obtain ⟨ds, rfl⟩ : ∃ ds, d = .tuple ds := by cases d <;> first | exact ⟨_, rfl⟩ | cases ht
      obtain ⟨p, xs, rfl, hp, hx⟩ := jd.tup_inv
      have hxl := hx.len
      have hdl := Lb.tupLen
      walk_at "w"
      refine ⟨_, _, rfl, len_tup hp, ?_⟩
      walk_at "w"
      refine ite2 (fun hc => ?_) (fun hc => ?_)
      · walk_at "w"
        refine no ?_
        rintro ⟨w, q, _⟩
        rw [hxl, PyData.tuple.inj q] at hc
        simp only [List.length_cons, List.length_nil] at hc
        exact absurd hc (by rw [decide_eq_true (by rfl)]; decide)
      · have h2 : xs.length = 2 := by
          simp only [decide_eq_true_eq, Decidable.not_not, V.int.injEq, Bool.not_eq_true', decide_eq_false_iff_not, ne_eq] at hc
          omega
        obtain ⟨v1, v2, rfl⟩ := len2 h2
        obtain ⟨d1, d2, rfl⟩ := len2 (hxl.symm.trans h2)
        obtain ⟨_, _, e, j1, hx⟩ := hx.cons_inv
        cases e
        obtain ⟨_, _, e, j2, _⟩ := hx.cons_inv
        cases e
        walk_at "w"
        refine ⟨m, v1, v2, M, d1, d2, rfl, hM, hPV, j1, j2, Lb.tup (by simp), Lb.tup (by simp), fun H' w s1 e1 e2 ok => ?_, fun H' s1 no1 => ?_⟩
        · refine k H' _ s1 ⟨fun _ => ⟨w, by rw [e1, e2]; rfl, ok⟩, fun _ => ?_⟩
          rw [decide_eq_false (fun h => nomatch h)]
          rfl
        · refine k H' _ s1 ⟨fun h => ?_, ?_⟩
          · rw [decide_eq_true rfl] at h
            exact nomatch h
          · rintro ⟨w, q, ok⟩
            have q := PyData.tuple.inj q
            simp only [List.cons.injEq, and_true] at q
            exact absurd ⟨w, q.1, q.2, ok⟩ no1
/-- the letters that a way reads -/
def readL (w : Way) : List Nat := (w.2.map fun a => tl a.2.1).flatten
def sp_readOf : Sp := fun vs H Q _ => ∃ (v : V) (w : Way), vs = [v] ∧ DA H v (wayD w) ∧ w.2.length ≤ 5000 ∧ (∀ a ∈ w.2, (tl a.2.1).length ≤ 1) ∧ ∀ (x : Str) H', Same H H' → tl x = readL w → Q (.str x) H'
def N_read_of : List Str := ["course", "arc"]
theorem sc_read_of : FnScope N_read_of ["course"] (defScope (top 37)) := ⟨rfl, rfl, rfl, by decide +kernel, rfl, by decide +kernel, by decide +kernel⟩
theorem ok_read_of (En : Env K mg fas fns prs) : Ok P w K mg base "read_of" 1 ["course"] sp_readOf := by
  refine ok_mk 22 37 En sc_read_of (fun _ _ _ _ _ _ us hl => match us, hl with | [_], _ => rfl) (fun vs H Q E h => ?_) (fun f cdv A outer s H vs Q E hr h => ?_)
  · obtain ⟨v, w, rfl, _⟩ := h
    rfl
  · obtain ⟨v, w, rfl, jw, hl, h1, k⟩ := h
    obtain ⟨p, sd, l, xs, rfl, hp, hsd, hlx, jl⟩ := jw.way_inv
    have hxl := jl.len
    rw [List.length_map] at hxl
    refine ⟨_, (pss_one (ps_ret (pe_join pe_str (pe_lc (own := [("arc", 1)]) (g := gName 1) (tt := tYes) rfl sc_read_of.nd (pi_listK (K := K) rfl (pe_ix (ix_tupK (K := K) rfl) (pv 0) pe_int (fun _ _ => rfl))) (blkOk_by (own := [("arc", 1)]) (N := N_read_of) (sc := defScope (top 37)) (by decide +kernel)) (fun _ _ _ _ _ => (pg_name (i := 1) sc_read_of.nd rfl (Or.inl rfl))) (fun _ _ _ _ _ => pts_nil) (fun _ _ _ _ _ => (pe_ix (ix_tupK (K := K) rfl) (pv 1) pe_int (fun _ _ => rfl))))))), ?_⟩
    walk_at "w"
    refine ⟨⟨_, rfl⟩, ?_⟩
    walk_at "w"
    refine ⟨⟨_, SqL.of hlx⟩, fun D nD => ?_⟩
    refine lc_mapP (Same.refl H) nD hlx (by omega) (fun i v => ∃ a, w.2[i]? = some a ∧ v = .str a.2.1) ?_ ?_ ?_
    · exact fun _ => rfl
    · intro i x H3 R hi s3 hR
      obtain ⟨d, d1, d2⟩ := jl.get hi
      rw [List.getElem?_map] at d1
      cases q : w.2[i]? with
      | none => rw [q] at d1; cases d1
      | some a =>
        rw [q] at d1
        cases d1
        obtain ⟨c, rfl, hc⟩ := (d2.up s3).arc_inv
        have hc0 := hc
        walk_at "w"
        exact hR _ _ (Same.refl _) ⟨a, q, rfl⟩
    intro H3 ys s3 hD hyl hF
    obtain rfl : ys = (w.2.map (·.2.1)).map V.str := map_of_get (by rw [List.length_map]; omega) fun i v hv => by
      obtain ⟨a, q, e⟩ := hF i v hv
      exact ⟨_, by rw [List.getElem?_map, q]; rfl, e⟩
    refine ⟨_, D, _, rfl, rfl, Or.inl (SqL.of hD), ?_, ?_⟩
    · have := sum_len (n := 1) (w.2.map (·.2.1)) fun y h => by
        obtain ⟨a, ha, rfl⟩ := List.mem_map.mp h
        exact h1 a ha
      rw [List.length_map] at this
      show _ + (w.2.map (·.2.1)).length * 0 ≤ 16777216
      omega
    · refine k _ _ s3 ?_
      rw [tl_join0, List.map_map]
      rfl
end
end GJ


set_option Elab.async false
set_option linter.all false
set_option maxRecDepth 100000
set_option maxHeartbeats 4000000
namespace GJ
open PySem PySem.Spec PyProof.Rows L2 TL
set_option pp.maxSteps 300
inductive Rt (S : Int → Prop) (E : Int → Int → Prop) : Int → Prop
  | base {k : Int} : S k → Rt S E k
  | step {a b : Int} : Rt S E a → E a b → Rt S E b
def mkF (F : List Int) : List (Key × V) := F.map fun k => ((.inl k : Key), V.bl true)
theorem valF (F : List Int) (k : Int) : valV (mkF F) (.inl k) = if k ∈ F then some (.bl true) else none := by
  induction F with
  | nil => rfl
  | cons a F ih =>
    by_cases h : a = k
    · subst h
      rw [show mkF (a :: F) = ((.inl a : Key), V.bl true) :: mkF F from rfl, valV_pos rfl, if_pos List.mem_cons_self]
    · rw [show mkF (a :: F) = ((.inl a : Key), V.bl true) :: mkF F from rfl, valV_neg (fun e => h (Sum.inl.inj e)), ih]
      by_cases g : k ∈ F
      · rw [if_pos g, if_pos (List.mem_cons_of_mem _ g)]
      · rw [if_neg g, if_neg (fun q => (List.mem_cons.mp q).elim (fun e => h e.symm) g)]
def addF (F : List Int) (k : Int) : List Int := if k ∈ F then F else F ++ [k]
theorem putF' (F : List Int) (k : Int) : putK (mkF F) (.inl k) (.bl true) = mkF (addF F k) := by
  unfold addF
  by_cases h : k ∈ F
  · rw [if_pos h]
    unfold putK
    rw [valV_any, valF, if_pos h, if_pos (by rfl : (some (V.bl true)).isSome = true)]
    unfold mkF
    rw [List.map_map]
    refine List.map_congr_left fun a _ => ?_
    show (if (Sum.inl a : Key) = Sum.inl k then ((Sum.inl a : Key), V.bl true) else _) = _
    split <;> rfl
  · rw [if_neg h, putK_new _ (by rw [valF, if_neg h])]
    unfold mkF
    rw [List.map_append]
    rfl
theorem mem_addF {F : List Int} {k a : Int} : a ∈ addF F k ↔ a ∈ F ∨ a = k := by
  unfold addF
  split
  · exact ⟨.inl, fun h => h.elim id fun e => e ▸ ‹_›⟩
  · rw [List.mem_append, List.mem_singleton]
theorem nd_addF {F : List Int} {k : Int} (h : F.Nodup) : (addF F k).Nodup := by
  unfold addF
  split
  · exact h
  · rename_i g
    refine List.nodup_append.mpr ⟨h, List.nodup_cons.mpr ⟨fun h => (nomatch h), List.nodup_nil⟩, fun a ha b hb e => ?_⟩
    rw [List.mem_singleton.mp hb] at e
    exact g (e ▸ ha)
/-- distinct numbers below N are at most N -/
theorem nd_le {N : Nat} : ∀ {F : List Int}, F.Nodup → (∀ k ∈ F, 0 ≤ k ∧ k < (N : Int)) → F.length ≤ N := by
  induction N with
  | zero =>
    intro F h g
    cases F with
    | nil => exact Nat.le_refl _
    | cons a F => have := g a List.mem_cons_self; omega
  | succ N ih =>
    intro F h g
    have h2 := (List.Nodup.sublist List.filter_sublist h : (F.filter fun k => decide (k ≠ (N : Int))).Nodup)
    have l2 := ih h2 fun k hk => by
      obtain ⟨h3, h4⟩ := List.mem_filter.mp hk
      have := g k h3
      have := of_decide_eq_true h4
      omega
    have l3 : ∀ {F : List Int}, F.Nodup → F.length ≤ (F.filter fun k => decide (k ≠ (N : Int))).length + 1 := by
      intro F
      induction F with
      | nil => intro _; exact Nat.zero_le _
      | cons a F ihF =>
        intro hn
        have hn2 := List.nodup_cons.mp hn
        by_cases e : a = (N : Int)
        · have : F.filter (fun k => decide (k ≠ (N : Int))) = F := List.filter_eq_self.mpr fun b hb => decide_eq_true fun q => hn2.1 (by rw [e, ← q]; exact hb)
          rw [List.filter_cons_of_neg (by simp [e]), this, List.length_cons]
          exact Nat.le_refl _
        · rw [List.filter_cons_of_pos (by simp [e]), List.length_cons, List.length_cons]
          have := ihF hn2.2
          omega
    have := l3 h
    omega
/-- {x: True for x in xs}, the items letters -/
theorem dcK_ints {K : PySem.W.Frag} {H H1 : Hp} {D a : Addr} {vs : List Nat} {σ : L2.St} {j : Nat} {Qd : Hp → Prop} {ns : List Int} (s1 : Same H H1) (nD : H1 D = none) (hx : H a = some (.lst (ns.map V.int))) (hn : ns.length ≤ 100000)
    (hw : Wp σ vs j) (hj : ∀ v, (sl σ vs j v)[j]? = some (some v)) (hd : ∀ H3 F, Same H H3 → H3 D = some (.dK (mkF F)) → F.Nodup → (∀ k, k ∈ F ↔ k ∈ ns) → Qd H3) :
    ∃ W : Nat → Nat → Hp → Prop, (∃ m, W 0 m (upd H1 D (.dK []))) ∧ ∀ i m H, W i m H → ((Itl K a).stop i H ∧ Qd H) ∨ ((Itl K a).go i H ∧ ∃ Nx : Hp → Prop, (∀ H', Nx H' → ∃ m', m' < m ∧ W (i + 1) m' H') ∧ ∀ x H', (Itl K a).yld i H x H' → gName j x (wipe σ vs) H' fun σ2 H2 => wipe σ2 vs = wipe σ vs ∧ tYes σ2 H2 fun b H3 =>
      if b = true then tVar j σ2 H3 fun y H4 => tC (.bl true) σ2 H4 fun z H5 => ∃ kvs k, y = kV k ∧ H5 D = some (.dK kvs) ∧ kvs.length < sizeLine ∧ Nx (upd H5 D (.dK (putK kvs k z))) else Nx H3) := by
  have nD0 : H D = none := s1.free nD
  have hxl : (ns.map V.int).length = ns.length := List.length_map _
  refine ⟨fun i m H' => m = ns.length - i ∧ i ≤ ns.length ∧ ∃ F, Same H H' ∧ H' D = some (.dK (mkF F)) ∧ F.Nodup ∧ F.length ≤ i ∧ ∀ k, k ∈ F ↔ k ∈ ns.take i,
    ⟨ns.length, by simp, Nat.zero_le _, [], s1.trans (Same.new nD), upd_same, List.nodup_nil, Nat.le_refl _, fun k => by simp⟩, ?_⟩
  rintro i m H3 ⟨rfl, hi, F, s3, hD, nd, hl, hF⟩
  have q : SqL K H3 a (ns.map V.int) := SqL.of (s3 _ _ hx)
  by_cases hlt : i < ns.length
  · refine .inr ⟨⟨_, (ns.map V.int)[i]'(by omega), q, List.getElem?_eq_getElem (by omega)⟩, fun H' => i + 1 ≤ ns.length ∧ ∃ F, Same H H' ∧ H' D = some (.dK (mkF F)) ∧ F.Nodup ∧ F.length ≤ i + 1 ∧ ∀ k, k ∈ F ↔ k ∈ ns.take (i + 1), fun H' p' => ⟨ns.length - (i + 1), by omega, rfl, p'⟩, fun x H' y => ?_⟩
    obtain ⟨e, y⟩ := y
    subst e
    have hx2 := y _ q
    rw [List.getElem?_map] at hx2
    obtain ⟨n, hn2⟩ : ∃ n, ns[i]? = some n := ⟨ns[i], List.getElem?_eq_getElem hlt⟩
    rw [hn2] at hx2
    cases hx2
    refine ⟨hw _, ?_⟩
    refine ⟨_, hj _, ?_⟩
    refine ⟨mkF F, .inl n, rfl, hD, by unfold mkF; rw [List.length_map]; exact small5 (by omega), by omega, addF F n, Same.put s3 nD0, by rw [upd_same, putF'], nd_addF nd, ?_, fun k => ?_⟩
    · unfold addF
      split
      · omega
      · rw [List.length_append]
        show F.length + 1 ≤ i + 1
        omega
    · rw [mem_addF, hF k, take_succ_get hn2, List.mem_append, List.mem_singleton]
  · have e : i = ns.length := by omega
    subst e
    rw [List.take_length] at hF
    exact .inl ⟨⟨_, q, by omega⟩, hd H3 F s3 hD nd hF⟩
section
variable {P : Program} {w : World} {K : PySem.W.Frag} {mg : Str → Option Value} {base : Heap}
set_option hygiene false in
local macro_rules | `(tactic| walk_at "w") => `(tactic| repeat (first
  | refine ⟨_, rfl, ?_⟩
  | refine ⟨_, _, rfl, rfl, (by first | decide | omega), fun r r0 r1 re => ?_⟩
  | refine ⟨_, _, rfl, rfl, (by first | exact Or.inl ⟨by omega, by omega⟩ | exact Or.inr ⟨by omega, by omega⟩ : CMul _ _), ?_⟩
  | refine ⟨_, _, rfl, rfl, (by first | exact ⟨by decide, by decide⟩ | exact ⟨by omega, by omega⟩ : CDiv _ _), ?_⟩
  | refine ⟨_, _, rfl, rfl, (by exact ⟨by decide, by decide, by decide⟩ : CPow _ _), ?_⟩
  | refine ⟨_, _, rfl, rfl, ?_⟩
  | refine ⟨(by rfl : scal _ _ = true), ?_⟩
  | refine Or.inl ⟨_, rfl, ?_⟩
  | refine ⟨_, _, rfl, fun m m0 m1 m2 => ?_⟩
  | refine ⟨_, _, _, _, rfl, rfl, SqL.of (by first | assumption | exact upd_same | exact fx _ | exact fy _), rfl, ?_⟩
  | refine ⟨_, _, _, _, rfl, rfl, (by first | assumption | exact upd_same | exact fx _ | exact fy _), rfl, ?_⟩
  | refine ⟨_, _, _, _, rfl, rfl, SqT.of (by first | assumption | exact upd_same | exact fx _ | exact fy _), rfl, ?_⟩
  | refine ⟨(szle (by omega) : Str.length _ ≤ sizeLine), ?_⟩
  | refine ⟨(szle (by first | omega | (rw [sla]; omega) | (rw [sla, sla]; omega)) : Str.length _ + Str.length _ ≤ sizeLine), ?_⟩
  | refine ⟨_, _, rfl, len_lst (by first | assumption | exact upd_same | exact fx _ | exact fy _), ?_⟩))
set_option hygiene false in
local macro_rules | `(tactic| walk_at "if") => `(tactic| (refine ite2 (fun hc => ?_) (fun hc => ?_) <;>
  simp only [decide_eq_true_eq, Bool.not_eq_true', decide_eq_false_iff_not, V.int.injEq, V.str.injEq, V.bl.injEq, Decidable.not_not, Bool.not_eq_true, V.int_ne, Int.not_lt, Int.not_le, Bool.true_eq_false, Bool.false_eq_true, not_true_eq_false, not_false_eq_true] at hc))
set_option hygiene false in
local macro_rules | `(tactic| walk_at "new") => `(tactic| (refine ⟨by first | decide | (simp only [List.length_cons, List.length_nil, List.length_append, List.length_map]; first | decide | (rw [sizeLine_eq]; omega)), fun p np => ?_⟩))
set_option hygiene false in
local macro_rules | `(tactic| walk_at "yes") => `(tactic| refine itY (by first | rfl | exact decide_eq_true (by first | rfl | omega | assumption) | (simp only [decide_eq_true_eq, Bool.not_eq_true', decide_eq_false_iff_not, V.int.injEq, V.str.injEq, V.bl.injEq]; first | omega | assumption)) ?_)
set_option hygiene false in
local macro_rules | `(tactic| walk_at "no") => `(tactic| refine itN (by first | decide | (simp only [decide_eq_true_eq, Bool.not_eq_true', decide_eq_false_iff_not, V.int.injEq, V.str.injEq, V.bl.injEq, Bool.not_eq_true, Decidable.not_not]; first | omega | assumption)) ?_)
/-- a dict from letters to lists of letters -/
def Lds (H : Hp) (D : Addr) (f : Int → List Int) : Prop := ∃ kvs, H D = some (.dK kvs) ∧ ∀ k : Int, (valV kvs (.inl k) = none ∧ f k = []) ∨ ∃ l, valV kvs (.inl k) = some (.ref l) ∧ H l = some (.lst ((f k).map V.int))
theorem Lds.up {H H' : Hp} {D : Addr} {f : Int → List Int} (h : Lds H D f) (s : Same H H') : Lds H' D f := by
  obtain ⟨kvs, h1, h2⟩ := h
  exact ⟨kvs, s _ _ h1, fun k => (h2 k).imp id fun ⟨l, a, b⟩ => ⟨l, a, s _ _ b⟩⟩
def sp_reached : Sp := fun vs H Q _ => ∃ (a D : Addr) (ns : List Int) (f : Int → List Int) (N : Nat), vs = [.ref a, .ref D] ∧ H a = some (.lst (ns.map V.int)) ∧ Lds H D f ∧ N ≤ 1000 ∧ ns.length ≤ 1000 ∧ (∀ k, (f k).length ≤ 1000) ∧
  (∀ k ∈ ns, 0 ≤ k ∧ k < (N : Int)) ∧ (∀ k, ∀ t ∈ f k, 0 ≤ t ∧ t < (N : Int)) ∧
  ∀ R H' (F : List Int), Same H H' → H' R = some (.dK (mkF F)) → (∀ k, k ∈ F ↔ Rt (· ∈ ns) (fun a b => b ∈ f a) k) → Q (.ref R) H'
def N_reached : List Str := ["starts", "leads", "found", "todo", "state", "target"]
theorem sc_reached : FnScope N_reached ["starts", "leads"] (defScope (top 39)) := ⟨rfl, rfl, rfl, by decide +kernel, rfl, by decide +kernel, by decide +kernel⟩
theorem ok_reached (En : Env K mg fas fns prs) : Ok P w K mg base "reached" 1 ["starts", "leads"] sp_reached := by
  refine ok_mk 23 39 En sc_reached (fun _ _ _ _ _ _ us hl => match us, hl with | [_, _], _ => rfl) (fun vs H Q E h => ?_) (fun f cdv A outer s H vs Q E hr h => ?_)
  · obtain ⟨a, D, ns, f, N, rfl, _⟩ := h
    rfl
  · obtain ⟨a, D, ns, f, N, rfl, ha, hD, hN, hn, hf, rn, rf, k⟩ := h
    refine ⟨_, (pss_cons
        (ps_setDcK (i := 2) (own := [("state", 4)]) (g := gName 4) (tt := tYes) rfl sc_reached.nd rfl rfl (sw_trueD rfl rfl rfl (by decide +kernel)) (pi_listK (K := K) rfl (pv 0)) (blkOk_by (own := [("state", 4)]) (N := N_reached) (sc := defScope (top 39)) (by decide +kernel)) (fun _ _ _ _ _ => (pg_name (i := 4) sc_reached.nd rfl (Or.inl rfl))) (fun _ _ _ _ _ => pts_nil) (fun _ _ _ _ _ => (pv 4)) (fun _ _ _ _ _ => pe_bl))
      (pss_cons
        (ps_set (i := 3) sc_reached.nd rfl (Or.inl rfl) (pe_callTy (call_list_dK rfl) (by rfl) (fr_list En) bt_list (pa_cons (pv 2) pa_nil)))
      (pss_cons
        (ps_while PassesOwn.never (pt_truth (pv 3) (by intro _; rfl)) (pss_cons
        (ps_set (i := 4) sc_reached.nd rfl (Or.inl rfl) (pe_bm0 PySem.F.plainAttrs_list PySem.F.slot_list_pop PySem.F.type_list_pop mt_pop (pv 3)))
      (pss_one
        (ps_for PassesOwn.never rfl (pi_listK (K := K) rfl (pe_dget2 (hu_of hr) (pv 1) (pv 4) (pe_lst pa_nil) ⟨rfl, rfl, rfl, rfl⟩)) (pg_name (i := 5) sc_reached.nd rfl (Or.inl rfl)) (pss_one (ps_if (pt_cmp (pc_dnotin (hu_of hr) (pv 5) (pv 2))) (pss_cons
        (ps_dput (hu_of hr) (pv 2) (pv 5) pe_bl rfl)
      (pss_one
        (ps_expr (pe_bm PySem.F.plainAttrs_list PySem.F.slot_list_append PySem.F.type_list_append mt_append (pv 3) (pa_cons (pv 5) pa_nil))))) pss_nil))))))
      (pss_one
        (ps_ret (pv 2)))))), ?_⟩
    walk_at "w"
    refine ⟨⟨_, SqL.of ha⟩, fun R nR => ?_⟩
    refine dcK_ints (Same.refl H) nR ha (by omega) ?_ ?_ ?_
    · exact fun _ => rfl
    · exact fun _ => rfl
    intro H1 F0 s1 hR nd0 hF0
    have fl0 : F0.length ≤ N := nd_le nd0 fun k hk => rn k ((hF0 k).mp hk)
    walk_at "w"
    refine ⟨R, _, rfl, hR, fun T nT => ?_⟩
    have hRT : R ≠ T := ne_of_none hR nT
    have nR0 : H R = none := nR
    have nT0 : H T = none := s1.free nT
    have eT : (mkF F0).map (fun kv => kV kv.1) = F0.map V.int := by
      unfold mkF
      rw [List.map_map]
      rfl
    walk_at "w"
    obtain ⟨G, hG⟩ : ∃ G : Int → Prop, G = Rt (· ∈ ns) (fun a b => b ∈ f a) := ⟨_, rfl⟩
    rw [← hG] at k
    refine ⟨fun m σ H' => ∃ (F ts : List Int) (u4 u5 : Option V), σ = [some (.ref a), some (.ref D), some (.ref R), some (.ref T), u4, u5] ∧ m = 2 * (N - F.length) + ts.length ∧ m ≤ 3000 ∧ Same H H' ∧ H' R = some (.dK (mkF F)) ∧ H' T = some (.lst (ts.map V.int)) ∧
      F.Nodup ∧ F.length ≤ N ∧ (∀ k ∈ ts, k ∈ F) ∧ (∀ k ∈ F, G k) ∧ (∀ k ∈ F, 0 ≤ k ∧ k < (N : Int)) ∧ (∀ k ∈ ns, k ∈ F) ∧ ∀ k ∈ F, k ∉ ts → ∀ t ∈ f k, t ∈ F, ?_, ?_⟩
    · refine ⟨_, F0, F0, none, none, rfl, rfl, by omega, s1.trans (Same.new nT), (Same.new nT) _ _ hR, by rw [upd_same, eT], nd0, fl0, fun k h => h, fun k h => by rw [hG]; exact .base ((hF0 k).mp h), fun k h => rn k ((hF0 k).mp h), fun k h => (hF0 k).mpr h, fun k h g => absurd h g⟩
    rintro m σ H2 ⟨F, ts, u4, u5, rfl, rfl, hm, s2, hR2, hT2, nd, fl, tsF, FG, Fr, nsF, clo⟩
    walk_at "w"
    refine ⟨!(ts.map V.int).isEmpty, .inl ⟨_, SqL.of hT2, rfl⟩, ?_⟩
    have cases_ts := List.eq_nil_or_concat ts
    simp only [List.concat_eq_append] at cases_ts
    rcases cases_ts with rfl | ⟨ts', st, rfl⟩
    · refine itN (fun h => nomatch h) ?_
      walk_at "w"
      refine k R _ F s2 hR2 fun x => ⟨FG x, fun h => ?_⟩
      rw [hG] at h
      induction h with
      | base h => exact nsF _ h
      | step _ h ih => exact clo _ ih (fun h => nomatch h) _ h
    · have stF : st ∈ F := tsF st (List.mem_append_right _ List.mem_cons_self)
      have stR := Fr st stF
      rw [show (!((ts' ++ [st]).map V.int).isEmpty) = true by rw [List.map_append]; cases ts'.map V.int <;> rfl]
      refine itY rfl ?_
      refine ⟨_, fun _ _ h => h, ?_⟩
      rw [List.map_append] at hT2
      walk_at "w"
      refine ⟨.inl ⟨rfl, _, SqL.of hT2⟩, ?_⟩
      refine ⟨T, _, .int st, rfl, rfl, hT2, by simp, ?_⟩
      have eD : (ts'.map V.int ++ [st].map V.int).dropLast = ts'.map V.int := List.dropLast_concat
      rw [eD]
      have s3 : Same H (upd H2 T (.lst (ts'.map V.int))) := Same.put s2 nT0
      have hR3 : upd H2 T (.lst (ts'.map V.int)) R = some (.dK (mkF F)) := by rw [upd_ne hRT]; exact hR2
      have hT3 : upd H2 T (.lst (ts'.map V.int)) T = some (.lst (ts'.map V.int)) := upd_same
      generalize upd H2 T (.lst (ts'.map V.int)) = H3 at *
      obtain ⟨kd, hD0, hDl⟩ := hD
      have hD3 := s3 _ _ hD0
      walk_at "w"
      refine ⟨.inl ⟨kd, .inl hD3⟩, ?_⟩
      walk_at "w"
      refine ⟨szr rfl, fun p np => ?_⟩
      have sp := Same.new (o := .lst []) np
      have hD4 := sp _ _ hD3
      refine ⟨valV kd (.inl st), .inl ⟨kd, .inl st, .inl hD4, rfl, rfl⟩, ?_⟩
      obtain ⟨lx, hlx, hlx2, lxT⟩ : ∃ lx, (valV kd (.inl st)).getD (.ref p) = V.ref lx ∧ upd H3 p (.lst []) lx = some (.lst ((f st).map V.int)) ∧ lx ≠ T := by
        rcases hDl st with ⟨h1, h2⟩ | ⟨l, h1, h2⟩
        · rw [h1, h2]
          exact ⟨p, rfl, upd_same, (ne_of_none hT3 np).symm⟩
        · rw [h1]
          exact ⟨l, rfl, sp _ _ (s3 _ _ h2), ne_of_none h2 nT0⟩
      rw [hlx]
      have s4 := s3.trans sp
      have hR4 := sp _ _ hR3
      have hT4 := sp _ _ hT3
      have lxR : lx ≠ R := fun e => by rw [e, hR4] at hlx2; cases hlx2
      generalize upd H3 p (.lst []) = H4 at *
      have lenF := hf st
      obtain ⟨m0, hm0⟩ : ∃ m0, m0 = 2 * (N - F.length) + (ts' ++ [st]).length := ⟨_, rfl⟩
      rw [← hm0] at hm ⊢
      walk_at "w"
      refine ⟨⟨_, SqL.of hlx2⟩, for_list (xs := (f st).map V.int) (fun j σ H' => ∃ (F ts : List Int) (u5 : Option V), σ = [some (.ref a), some (.ref D), some (.ref R), some (.ref T), some (.int st), u5] ∧ 2 * (N - F.length) + ts.length < m0 ∧ Same H H' ∧ H' R = some (.dK (mkF F)) ∧ H' T = some (.lst (ts.map V.int)) ∧ H' lx = some (.lst ((f st).map V.int)) ∧
        F.Nodup ∧ F.length ≤ N ∧ (∀ k ∈ ts, k ∈ F) ∧ (∀ k ∈ F, G k) ∧ (∀ k ∈ F, 0 ≤ k ∧ k < (N : Int)) ∧ (∀ k ∈ ns, k ∈ F) ∧ (∀ k ∈ F, k ∉ ts → k ≠ st → ∀ t ∈ f k, t ∈ F) ∧ st ∈ F ∧ ∀ t ∈ (f st).take j, t ∈ F) ?_ ?_ ?_ ?_⟩
      · exact ⟨F, ts', _, rfl, by rw [hm0, List.length_append]; show _ < _ + (ts'.length + 1); omega, s4, hR4, hT4, hlx2, nd, fl, fun k h => tsF k (List.mem_append_left _ h), FG, Fr, nsF, fun k h g g2 => clo k h fun q => (List.mem_append.mp q).elim g fun q => g2 (List.mem_singleton.mp q), stF, fun t h => nomatch h⟩
      · rintro j σ H5 hj ⟨F, ts, u5, rfl, _, _, _, _, hlx5, _⟩
        exact SqL.of hlx5
      · rintro j v σ H5 hj ⟨F2, ts, u5, rfl, me, s5, hR5, hT5, hlx5, nd, fl, tsF, FG, Fr, nsF, clo, stF, pre⟩
        rw [List.getElem?_map] at hj
        cases q : (f st)[j]? with
        | none => rw [q] at hj; cases hj
        | some t =>
          rw [q] at hj
          cases hj
          have tf := List.mem_of_getElem? q
          walk_at "w"
          refine ⟨R, valV (mkF F2) (.inl t), rfl, DGet.k (k := .inl t) hR5, ?_⟩
          rw [valF]
          by_cases ht : t ∈ F2
          · rw [if_pos ht]
            walk_at "w"
            exact ⟨F2, ts, _, rfl, me, s5, hR5, hT5, hlx5, nd, fl, tsF, FG, Fr, nsF, clo, stF, fun u hu => by
              rw [take_succ_get q, List.mem_append, List.mem_singleton] at hu
              exact hu.elim (pre u) fun e => e ▸ ht⟩
          · rw [if_neg ht]
            walk_at "w"
            have eF : addF F2 t = F2 ++ [t] := by unfold addF; rw [if_neg ht]
            refine ⟨R, _, rfl, DPut.k (k := .inl t) hR5 (by unfold mkF; rw [List.length_map]; exact small5 (by omega)), ?_⟩
            rw [putF', eF]
            have s6 : Same H (upd H5 R (.dK (mkF (F2 ++ [t])))) := Same.put s5 nR0
            have hR6 : upd H5 R (.dK (mkF (F2 ++ [t]))) R = some (.dK (mkF (F2 ++ [t]))) := upd_same
            have hT6 : upd H5 R (.dK (mkF (F2 ++ [t]))) T = some (.lst (ts.map V.int)) := by rw [upd_ne hRT.symm]; exact hT5
            have hl6 : upd H5 R (.dK (mkF (F2 ++ [t]))) lx = some (.lst ((f st).map V.int)) := by rw [upd_ne lxR]; exact hlx5
            generalize upd H5 R (.dK (mkF (F2 ++ [t]))) = H6 at *
            have nd2 : (F2 ++ [t]).Nodup := by rw [← eF]; exact nd_addF nd
            have tr := rf st t tf
            have Fr2 := mem_snoc Fr tr
            have fl2 := nd_le nd2 Fr2
            have fl2' := fl2
            rw [List.length_append] at fl2'
            replace fl2' : F2.length + 1 ≤ N := fl2'
            walk_at "w"
            refine ⟨.inl ⟨rfl, _, SqL.of hT6⟩, ?_⟩
            walk_at "w"
            refine ⟨T, _, .int t, rfl, rfl, hT6, by rw [List.length_map]; exact small5 (by omega), ?_⟩
            refine ⟨F2 ++ [t], ts ++ [t], _, rfl, ?_, Same.put s6 nT0, by rw [upd_ne hRT]; exact hR6, by rw [upd_same, List.map_append]; rfl, by rw [upd_ne lxT]; exact hl6, nd2, fl2, ?_, mem_snoc FG (by rw [hG]; exact .step (by rw [← hG]; exact FG st stF) tf), Fr2, fun u hu => List.mem_append_left _ (nsF u hu), ?_, List.mem_append_left _ stF, ?_⟩
            · rw [List.length_append, List.length_append]
              show 2 * (N - (F2.length + 1)) + (ts.length + 1) < m0
              omega
            · intro u hu
              rcases List.mem_append.mp hu with hu | hu
              · exact List.mem_append_left _ (tsF u hu)
              · exact List.mem_append_right _ hu
            · intro u hu g1 g2 v hv
              rcases List.mem_append.mp hu with hu | hu
              · exact List.mem_append_left _ (clo u hu (fun q => g1 (List.mem_append_left _ q)) g2 v hv)
              · exact absurd (List.mem_append_right _ hu) g1
            · intro u hu
              rw [take_succ_get q, List.mem_append, List.mem_singleton] at hu
              exact hu.elim (fun h => List.mem_append_left _ (pre u h)) fun e => e ▸ List.mem_append_right _ List.mem_cons_self
      · rintro σ H5 ⟨F2, ts, u5, rfl, me, s5, hR5, hT5, hlx5, nd, fl, tsF, FG, Fr, nsF, clo, stF, pre⟩
        rw [List.length_map, List.take_length] at pre
        exact ⟨_, me, F2, ts, _, _, rfl, rfl, by omega, s5, hR5, hT5, nd, fl, tsF, FG, Fr, nsF, fun k h g => by
          by_cases e : k = st
          · rw [e]; exact pre
          · exact clo k h g e⟩
end
end GJ


set_option Elab.async false
set_option linter.all false
set_option maxRecDepth 100000
set_option maxHeartbeats 4000000
namespace GJ
open PySem PySem.Spec PyProof.Rows L2 TL
set_option pp.maxSteps 300
def plus (f : Int → List Int) (a b : Int) : Int → List Int := fun k => if k = a then f a ++ [b] else f k
/-- a dict of lists of letters that is being made; H0: what stood before -/
structure Mk2 (H0 H : Hp) (D : Addr) (kvs : List (Key × V)) (f : Int → List Int) : Prop where
  d : H D = some (.dK kvs)
  d0 : H0 D = none
  l : ∀ k : Int, (valV kvs (.inl k) = none ∧ f k = []) ∨ ∃ l, valV kvs (.inl k) = some (.ref l) ∧ H l = some (.lst ((f k).map V.int)) ∧ H0 l = none
  i : ∀ (k1 k2 : Int) l, valV kvs (.inl k1) = some (.ref l) → valV kvs (.inl k2) = some (.ref l) → k1 = k2
theorem Mk2.lds {H0 H : Hp} {D : Addr} {kvs : List (Key × V)} {f : Int → List Int} (m : Mk2 H0 H D kvs f) : Lds H D f := ⟨kvs, m.d, fun k => (m.l k).imp id fun ⟨l, a, b, _⟩ => ⟨l, a, b⟩⟩
/-- a heap in which nothing of the dict changes -/
theorem Mk2.up {H0 H H' : Hp} {D : Addr} {kvs : List (Key × V)} {f : Int → List Int} (m : Mk2 H0 H D kvs f) (h1 : H' D = H D) (h2 : ∀ (k : Int) l, valV kvs (.inl k) = some (.ref l) → H' l = H l) : Mk2 H0 H' D kvs f :=
  ⟨h1.trans m.d, m.d0, fun k => (m.l k).imp id fun ⟨l, a, b, c⟩ => ⟨l, a, (h2 k l a).trans b, c⟩, m.i⟩
/-- the list of a key gets one more -/
theorem Mk2.old {H0 H : Hp} {D l : Addr} {kvs : List (Key × V)} {f : Int → List Int} {a b : Int} (m : Mk2 H0 H D kvs f) (h : valV kvs (.inl a) = some (.ref l)) : Mk2 H0 (upd H l (.lst ((f a ++ [b]).map V.int))) D kvs (plus f a b) := by
  have hl : ∃ ys, H l = some (.lst ys) := by
    rcases m.l a with ⟨h1, _⟩ | ⟨l', h1, h2, _⟩
    · rw [h] at h1; cases h1
    · rw [h] at h1; cases h1; exact ⟨_, h2⟩
  obtain ⟨ys, hl⟩ := hl
  have hD : D ≠ l := fun e => by rw [← e, m.d] at hl; cases hl
  refine ⟨by rw [upd_ne hD]; exact m.d, m.d0, fun k => ?_, m.i⟩
  by_cases hk : k = a
  · subst hk
    rcases m.l k with ⟨h1, _⟩ | ⟨l', h1, h2, h3⟩
    · rw [h] at h1; cases h1
    · rw [h] at h1
      cases h1
      exact .inr ⟨l, h, by rw [upd_same]; unfold plus; rw [if_pos rfl], h3⟩
  · unfold plus
    rw [if_neg hk]
    rcases m.l k with h1 | ⟨l', h1, h2, h3⟩
    · exact .inl h1
    · have ne : l' ≠ l := fun e => hk (m.i k a l (by rw [← e]; exact h1) h)
      exact .inr ⟨l', h1, by rw [upd_ne ne]; exact h2, h3⟩
/-- a new key with a list of one -/
theorem Mk2.fresh {H0 H : Hp} {D p : Addr} {kvs : List (Key × V)} {f : Int → List Int} {a b : Int} (m : Mk2 H0 H D kvs f) (h : valV kvs (.inl a) = none) (hp : H p = none) (hp0 : H0 p = none) : Mk2 H0 (upd (upd (upd H p (.lst [])) D (.dK (putK kvs (.inl a) (.ref p)))) p (.lst [.int b])) D (putK kvs (.inl a) (.ref p)) (plus f a b) := by
  have hD : D ≠ p := ne_of_none m.d hp
  have fa : f a = [] := by
    rcases m.l a with ⟨_, h2⟩ | ⟨l', h1, _⟩
    · exact h2
    · rw [h] at h1; cases h1
  have np : ∀ (k : Int), valV kvs (.inl k) ≠ some (.ref p) := fun k e => by
    rcases m.l k with ⟨h1, _⟩ | ⟨l', h1, h2, _⟩
    · rw [h1] at e; cases e
    · rw [h1] at e; cases e; rw [hp] at h2; cases h2
  refine ⟨by rw [upd_ne hD, upd_same], m.d0, fun k => ?_, fun k1 k2 l h1 h2 => ?_⟩
  · rw [valV_put]
    by_cases hk : k = a
    · subst hk
      rw [if_pos rfl]
      exact .inr ⟨p, rfl, by rw [upd_same]; unfold plus; rw [if_pos rfl, fa]; rfl, hp0⟩
    · rw [if_neg (fun e => hk (Sum.inl.inj e))]
      unfold plus
      rw [if_neg hk]
      rcases m.l k with h1 | ⟨l', h1, h2, h3⟩
      · exact .inl h1
      · have n1 : l' ≠ p := fun e => np k (e ▸ h1)
        have n2 : l' ≠ D := fun e => by rw [e, m.d] at h2; cases h2
        exact .inr ⟨l', h1, by rw [upd_ne n1, upd_ne n2, upd_ne n1]; exact h2, h3⟩
  · rw [valV_put] at h1 h2
    by_cases e1 : k1 = a
    · by_cases e2 : k2 = a
      · rw [e1, e2]
      · rw [if_pos (by rw [e1])] at h1
        rw [if_neg (fun e => e2 (Sum.inl.inj e))] at h2
        cases h1
        exact absurd h2 (np k2)
    · by_cases e2 : k2 = a
      · rw [if_pos (by rw [e2])] at h2
        rw [if_neg (fun e => e1 (Sum.inl.inj e))] at h1
        cases h2
        exact absurd h1 (np k1)
      · rw [if_neg (fun e => e1 (Sum.inl.inj e))] at h1
        rw [if_neg (fun e => e2 (Sum.inl.inj e))] at h2
        exact m.i k1 k2 l h1 h2
def Disj (k1 k2 : List (Key × V)) : Prop := ∀ (a b : Int) l, valV k1 (.inl a) = some (.ref l) → valV k2 (.inl b) ≠ some (.ref l)
/-- both dicts -/
structure Two (H0 H : Hp) (D D' : Addr) (kvs kvs' : List (Key × V)) (f f' : Int → List Int) : Prop where
  sm : Same H0 H
  a : Mk2 H0 H D kvs f
  b : Mk2 H0 H D' kvs' f'
  ne : D ≠ D'
  dj : Disj kvs kvs'
theorem Two.swap {H0 H : Hp} {D D' : Addr} {kvs kvs' : List (Key × V)} {f f' : Int → List Int} (t : Two H0 H D D' kvs kvs' f f') : Two H0 H D' D kvs' kvs f' f := ⟨t.sm, t.b, t.a, t.ne.symm, fun a b l h g => t.dj b a l g h⟩
theorem Mk2.at {H0 H : Hp} {D l : Addr} {kvs : List (Key × V)} {f : Int → List Int} {k : Int} (m : Mk2 H0 H D kvs f) (h : valV kvs (.inl k) = some (.ref l)) : H l = some (.lst ((f k).map V.int)) ∧ H0 l = none := by
  rcases m.l k with ⟨h1, _⟩ | ⟨l', h1, h2, h3⟩
  · rw [h] at h1; cases h1
  · rw [h] at h1; cases h1; exact ⟨h2, h3⟩
theorem Two.new {H0 H : Hp} {D D' p : Addr} {kvs kvs' : List (Key × V)} {f f' : Int → List Int} (t : Two H0 H D D' kvs kvs' f f') (hp : H p = none) : Two H0 (upd H p (.lst [])) D D' kvs kvs' f f' :=
  ⟨t.sm.trans (Same.new hp), t.a.up (upd_ne (ne_of_none t.a.d hp)) (fun k l h => upd_ne (ne_of_none (t.a.at h).1 hp)), t.b.up (upd_ne (ne_of_none t.b.d hp)) (fun k l h => upd_ne (ne_of_none (t.b.at h).1 hp)), t.ne, t.dj⟩
theorem Two.old {H0 H : Hp} {D D' l : Addr} {kvs kvs' : List (Key × V)} {f f' : Int → List Int} {a b : Int} (t : Two H0 H D D' kvs kvs' f f') (h : valV kvs (.inl a) = some (.ref l)) : Two H0 (upd H l (.lst ((f a ++ [b]).map V.int))) D D' kvs kvs' (plus f a b) f' := by
  obtain ⟨h1, h2⟩ := t.a.at h
  refine ⟨Same.put t.sm h2, t.a.old h, t.b.up (upd_ne fun e => ?_) (fun k l' g => upd_ne fun e => ?_), t.ne, t.dj⟩
  · rw [← e, t.b.d] at h1; cases h1
  · rw [e] at g; exact t.dj a k l h g
theorem Two.fresh {H0 H : Hp} {D D' p : Addr} {kvs kvs' : List (Key × V)} {f f' : Int → List Int} {a b : Int} (t : Two H0 H D D' kvs kvs' f f') (h : valV kvs (.inl a) = none) (hp : H p = none) :
    Two H0 (upd (upd (upd H p (.lst [])) D (.dK (putK kvs (.inl a) (.ref p)))) p (.lst [.int b])) D D' (putK kvs (.inl a) (.ref p)) kvs' (plus f a b) f' := by
  have hp0 : H0 p = none := t.sm.free hp
  refine ⟨Same.put (Same.put (t.sm.trans (Same.new hp)) t.a.d0) hp0, t.a.fresh h hp hp0, t.b.up ?_ ?_, t.ne, ?_⟩
  · have h1 := ne_of_none t.b.d hp
    rw [upd_ne h1, upd_ne t.ne.symm, upd_ne h1]
  · intro k l g
    have h1 := (t.b.at g).1
    have n1 := ne_of_none h1 hp
    have n2 : l ≠ D := fun e => by rw [e, t.a.d] at h1; cases h1
    rw [upd_ne n1, upd_ne n2, upd_ne n1]
  · intro k1 k2 l h1 h2
    rw [valV_put] at h1
    by_cases e : k1 = a
    · rw [if_pos (by rw [e])] at h1
      cases h1
      have := (t.b.at h2).1
      rw [hp] at this
      cases this
    · rw [if_neg (fun q => e (Sum.inl.inj q))] at h1
      exact t.dj k1 k2 l h1 h2
/-- what a dict of lists holds behind some arcs -/
def Holds (f : Int → List Int) (as : List Arc) (s t : Arc → Int) : Prop := (∀ k v, v ∈ f k ↔ ∃ x ∈ as, s x = k ∧ t x = v) ∧ ∀ k, (f k).length ≤ as.length
theorem Holds.snoc {f : Int → List Int} {as : List Arc} {s t : Arc → Int} (h : Holds f as s t) (x : Arc) : Holds (plus f (s x) (t x)) (as ++ [x]) s t := by
  refine ⟨fun k v => ?_, fun k => ?_⟩
  · unfold plus
    by_cases e : k = s x
    · rw [if_pos e, List.mem_append, List.mem_singleton, h.1, ← e]
      constructor
      · rintro (⟨y, h1, h2⟩ | rfl)
        · exact ⟨y, List.mem_append_left _ h1, h2⟩
        · exact ⟨x, List.mem_append_right _ List.mem_cons_self, e.symm, rfl⟩
      · rintro ⟨y, h1, h2, h3⟩
        rcases List.mem_append.mp h1 with h1 | h1
        · exact .inl ⟨y, h1, h2, h3⟩
        · rw [List.mem_singleton.mp h1] at h3
          exact .inr h3.symm
    · rw [if_neg e, h.1]
      constructor
      · rintro ⟨y, h1, h2⟩
        exact ⟨y, List.mem_append_left _ h1, h2⟩
      · rintro ⟨y, h1, h2, h3⟩
        rcases List.mem_append.mp h1 with h1 | h1
        · exact ⟨y, h1, h2, h3⟩
        · rw [List.mem_singleton.mp h1] at h2
          exact absurd h2.symm e
  · unfold plus
    rw [List.length_append]
    split
    · rw [List.length_append]
      have := h.2 (s x)
      show (f (s x)).length + 1 ≤ as.length + 1
      omega
    · have := h.2 k
      show (f k).length ≤ as.length + 1
      omega
theorem arcs_hide {z : Zz} {H : Hp} {k1 k2 : List (Key × V)} (hs : H z.s = some (.dK k1)) (hc : H z.c = some (.dK k2)) (hm : z.m = []) {xs : List V} {l : List Arc} (h : DAs H xs (l.map arcD)) : DAs (hide z H) xs (l.map arcD) := by
  refine DAs.of_get h.len fun i v d e1 e2 => ?_
  obtain ⟨d', e3, e4⟩ := h.get e1
  rw [e2] at e3
  cases e3
  rw [List.getElem?_map] at e2
  cases q : l[i]? with
  | none => rw [q] at e2; cases e2
  | some a =>
    rw [q] at e2
    cases e2
    obtain ⟨p, rfl, hp⟩ := e4.arc_inv
    refine DA.arc (hide_of ⟨fun e => ?_, fun e => ?_, by rw [hm]; exact fun h => nomatch h⟩ hp)
    · rw [e, hs] at hp; cases hp
    · rw [e, hc] at hp; cases hp
theorem rt_congr {S S' : Int → Prop} {E E' : Int → Int → Prop} (hs : ∀ a, S a ↔ S' a) (he : ∀ a b, E a b ↔ E' a b) (x : Int) : Rt S E x ↔ Rt S' E' x := by
  constructor
  · intro h
    induction h with
    | base h => exact .base ((hs _).mp h)
    | step _ h ih => exact .step ih ((he _ _).mp h)
  · intro h
    induction h with
    | base h => exact .base ((hs _).mpr h)
    | step _ h ih => exact .step ih ((he _ _).mpr h)
def Ed (M : Parts) (a b : Int) : Prop := ∃ x ∈ M.as, x.1 = a ∧ x.2.2.2 = b
/-- letters that stand between a beginning and an end -/
def Useful (M : Parts) (k : Int) : Prop := (0 ≤ k ∧ k < M.n) ∧ Rt (fun a => ∃ b ∈ M.bs, b.1 = a) (Ed M) k ∧ Rt (fun a => ∃ b ∈ M.es, b.1 = a) (fun a b => Ed M b a) k
section
variable {P : Program} {w : World} {K : PySem.W.Frag} {mg : Str → Option Value} {base : Heap}
set_option hygiene false in
local macro_rules | `(tactic| walk_at "w") => `(tactic| repeat (first
  | refine ⟨_, rfl, ?_⟩
  | refine ⟨_, _, rfl, rfl, (by first | decide | omega), fun r r0 r1 re => ?_⟩
  | refine ⟨_, _, rfl, rfl, (by first | exact Or.inl ⟨by omega, by omega⟩ | exact Or.inr ⟨by omega, by omega⟩ : CMul _ _), ?_⟩
  | refine ⟨_, _, rfl, rfl, (by first | exact ⟨by decide, by decide⟩ | exact ⟨by omega, by omega⟩ : CDiv _ _), ?_⟩
  | refine ⟨_, _, rfl, rfl, (by exact ⟨by decide, by decide, by decide⟩ : CPow _ _), ?_⟩
  | refine ⟨_, _, rfl, rfl, ?_⟩
  | refine ⟨(by rfl : scal _ _ = true), ?_⟩
  | refine Or.inl ⟨_, rfl, ?_⟩
  | refine ⟨_, _, rfl, fun m m0 m1 m2 => ?_⟩
  | refine ⟨_, _, _, _, rfl, rfl, SqL.of (by first | assumption | exact upd_same | exact fx _ | exact fy _), rfl, ?_⟩
  | refine ⟨_, _, _, _, rfl, rfl, (by first | assumption | exact upd_same | exact fx _ | exact fy _), rfl, ?_⟩
  | refine ⟨_, _, _, _, rfl, rfl, SqT.of (by first | assumption | exact upd_same | exact fx _ | exact fy _), rfl, ?_⟩
  | refine ⟨(szle (by omega) : Str.length _ ≤ sizeLine), ?_⟩
  | refine ⟨(szle (by first | omega | (rw [sla]; omega) | (rw [sla, sla]; omega)) : Str.length _ + Str.length _ ≤ sizeLine), ?_⟩
  | refine ⟨_, _, rfl, len_lst (by first | assumption | exact upd_same | exact fx _ | exact fy _), ?_⟩))
set_option hygiene false in
local macro_rules | `(tactic| walk_at "if") => `(tactic| (refine ite2 (fun hc => ?_) (fun hc => ?_) <;>
  simp only [decide_eq_true_eq, Bool.not_eq_true', decide_eq_false_iff_not, V.int.injEq, V.str.injEq, V.bl.injEq, Decidable.not_not, Bool.not_eq_true, V.int_ne, Int.not_lt, Int.not_le, Bool.true_eq_false, Bool.false_eq_true, not_true_eq_false, not_false_eq_true] at hc))
set_option hygiene false in
local macro_rules | `(tactic| walk_at "new") => `(tactic| (refine ⟨by first | decide | (simp only [List.length_cons, List.length_nil, List.length_append, List.length_map]; first | decide | (rw [sizeLine_eq]; omega)), fun p np => ?_⟩))
set_option hygiene false in
local macro_rules | `(tactic| walk_at "yes") => `(tactic| refine itY (by first | rfl | exact decide_eq_true (by first | rfl | omega | assumption) | (simp only [decide_eq_true_eq, Bool.not_eq_true', decide_eq_false_iff_not, V.int.injEq, V.str.injEq, V.bl.injEq]; first | omega | assumption)) ?_)
set_option hygiene false in
local macro_rules | `(tactic| walk_at "no") => `(tactic| refine itN (by first | decide | (simp only [decide_eq_true_eq, Bool.not_eq_true', decide_eq_false_iff_not, V.int.injEq, V.str.injEq, V.bl.injEq, Bool.not_eq_true, Decidable.not_not]; first | omega | assumption)) ?_)
def sp_useful (K : PySem.W.Frag) : Sp := fun vs H Q _ => ∃ (m : Addr) (M : Parts), vs = [.ref m] ∧ MA K H m M ∧ PV M ∧ ∀ p H' (ns : List Int), Same H H' → H' p = some (.lst (ns.map V.int)) → ns.length ≤ 8 → (∀ k, k ∈ ns ↔ Useful M k) → Q (.ref p) H'
def N_useful_states : List Str := ["machine", "onward", "backward", "arc", "begun", "ending", "begin", "end", "state"]
theorem sc_useful_states : FnScope N_useful_states ["machine"] (defScope (top 40)) := ⟨rfl, rfl, rfl, by decide +kernel, rfl, by decide +kernel, by decide +kernel⟩
theorem ok_useful_states (En : Env K mg fas fns prs) : Ok P w K mg base "useful_states" 3 ["machine"] (sp_useful K) := by
  refine ok_mk 24 40 En sc_useful_states (fun _ _ _ _ _ _ us hl => match us, hl with | [_], _ => rfl) (fun vs H Q E h => ?_) (fun f cdv A outer s H vs Q E hr h => ?_)
  · obtain ⟨m, M, rfl, _⟩ := h
    rfl
  · obtain ⟨m, M, rfl, hM, hPV, k⟩ := h
    obtain ⟨dx, b0, a0, e0, _, _, _, hx, _⟩ := hM.ex
    refine ⟨_, (pss_cons
        (ps_set (i := 1) sc_useful_states.nd rfl (Or.inl rfl) pe_dnewK)
      (pss_cons
        (ps_set (i := 2) sc_useful_states.nd rfl (Or.inl rfl) pe_dnewK)
      (pss_cons
        (ps_for PassesOwn.never rfl (pi_listK (K := K) rfl (pe_pr_arcs En (pv 0) hr)) (pg_name (i := 3) sc_useful_states.nd rfl (Or.inl rfl)) (C8.pss_cut
        (ps_expr (pe_bm PySem.F.plainAttrs_list PySem.F.slot_list_append PySem.F.type_list_append mt_append (pe_dsetd (pv 1) (pe_ix (ix_tupK (K := K) rfl) (pv 3) pe_int (fun _ _ => rfl)) (pe_lst pa_nil) ⟨rfl, rfl, rfl, rfl⟩) (pa_cons (pe_ix (ix_tupK (K := K) rfl) (pv 3) pe_int (fun _ _ => rfl)) pa_nil)))
      (pss_one
        (ps_expr (pe_bm PySem.F.plainAttrs_list PySem.F.slot_list_append PySem.F.type_list_append mt_append (pe_dsetd (pv 2) (pe_ix (ix_tupK (K := K) rfl) (pv 3) pe_int (fun _ _ => rfl)) (pe_lst pa_nil) ⟨rfl, rfl, rfl, rfl⟩) (pa_cons (pe_ix (ix_tupK (K := K) rfl) (pv 3) pe_int (fun _ _ => rfl)) pa_nil))))))
      (pss_cons
        (ps_set (i := 4) sc_useful_states.nd rfl (Or.inr rfl) (pe_fn (ok_reached En) (hr.mono (by decide)) (pa_cons (pe_lc (own := [("begin", 6)]) (g := gName 6) (tt := tYes) rfl sc_useful_states.nd (pi_listK (K := K) rfl (pe_pr_begins En (pv 0) hr)) (blkOk_by (own := [("begin", 6)]) (N := N_useful_states) (sc := defScope (top 40)) (by decide +kernel)) (fun _ _ _ _ _ => (pg_name (i := 6) sc_useful_states.nd rfl (Or.inl rfl))) (fun _ _ _ _ _ => pts_nil) (fun _ _ _ _ _ => (pe_ix (ix_tupK (K := K) rfl) (pv 6) pe_int (fun _ _ => rfl)))) (pa_cons (pv 1) pa_nil))))
      (pss_cons
        (ps_set (i := 5) sc_useful_states.nd rfl (Or.inr rfl) (pe_fn (ok_reached En) (hr.mono (by decide)) (pa_cons (pe_lc (own := [("end", 7)]) (g := gName 7) (tt := tYes) rfl sc_useful_states.nd (pi_listK (K := K) rfl (pe_pr_ends En (pv 0) hr)) (blkOk_by (own := [("end", 7)]) (N := N_useful_states) (sc := defScope (top 40)) (by decide +kernel)) (fun _ _ _ _ _ => (pg_name (i := 7) sc_useful_states.nd rfl (Or.inl rfl))) (fun _ _ _ _ _ => pts_nil) (fun _ _ _ _ _ => (pe_ix (ix_tupK (K := K) rfl) (pv 7) pe_int (fun _ _ => rfl)))) (pa_cons (pv 2) pa_nil))))
      (pss_one
        (ps_ret (pe_lc (own := [("state", 8)]) (g := gName 8) (tt := _) rfl sc_useful_states.nd (pi_range1 rfl (fr_range En) (pa_cons (pe_pr_size En (pv 0) hr) pa_nil)) (blkOk_by (own := [("state", 8)]) (N := N_useful_states) (sc := defScope (top 40)) (by decide +kernel)) (fun _ _ _ _ _ => (pg_name (i := 8) sc_useful_states.nd rfl (Or.inl rfl))) (fun _ _ _ _ _ => (pts_one (PW.pt (pw_and (pt_cmp (pc_din (hu_of hr) (pv 8) (pv 4))) (pw_and1 (pt_cmp (pc_din (hu_of hr) (pv 8) (pv 5)))))))) (fun _ _ _ _ _ => (pv 8)))))))))), ?_⟩
    refine fun Da nDa => ?_
    walk_at "w"
    refine fun Db nDb => ?_
    have hab : Da ≠ Db := ne_of_none upd_same nDb
    have nDb0 : H Db = none := (Same.new (o := .dK []) nDa).free nDb
    have s1 : Same H (upd (upd H Da (.dK [])) Db (.dK [])) := (Same.new nDa).trans (Same.new nDb)
    have t0 : Two H (upd (upd H Da (.dK [])) Db (.dK [])) Da Db [] [] (fun _ => []) (fun _ => []) :=
      ⟨s1, ⟨by rw [upd_ne hab, upd_same], nDa, fun k => .inl ⟨rfl, rfl⟩, fun _ _ _ h => nomatch h⟩, ⟨upd_same, nDb0, fun k => .inl ⟨rfl, rfl⟩, fun _ _ _ h => nomatch h⟩, hab, fun _ _ _ h => nomatch h⟩
    generalize upd (upd H Da (.dK [])) Db (.dK []) = H1 at *
    have hM1 := hM.up s1
    have hx1 := s1 _ _ hx
    walk_at "w"
    refine ⟨m, dx, _, rfl, hx1, m, M, rfl, hM1, fun q H2 la nq s2 jla mla cla => ?_⟩
    obtain ⟨_, xq, ee, hxq, jq⟩ := jla.lst_inv
    cases ee
    have lq := jq.len
    rw [List.length_map] at lq
    have hDa2 := s2 _ _ t0.a.d
    have hDb2 := s2 _ _ t0.b.d
    obtain ⟨zz, hzz⟩ : ∃ zz : Zz, zz = ⟨Da, Db, []⟩ := ⟨_, rfl⟩
    have jq0 : DAs (hide zz H2) xq (la.map arcD) := arcs_hide (by rw [hzz]; exact hDa2) (by rw [hzz]; exact hDb2) (by rw [hzz]) jq
    have q0 : hide zz H2 q = some (.lst xq) := by
      rw [hzz]
      exact hide_of ⟨(ne_of_none t0.a.d nq).symm, (ne_of_none t0.b.d nq).symm, fun h => nomatch h⟩ hxq
    have n0 : hide zz H2 Da = none := by rw [hzz]; unfold hide; rw [if_pos (.inl rfl)]
    have n1 : hide zz H2 Db = none := by rw [hzz]; unfold hide; rw [if_pos (.inr (.inl rfl))]
    have back : ∀ H', Same (hide zz H2) H' → Same H H' := fun H' sm b o e => sm b o (by
      rw [hzz]
      exact hide_of ⟨ne_of_none e nDa, ne_of_none e nDb0, fun h => nomatch h⟩ (s2 _ _ (s1 _ _ e)))
    have t2 : Two (hide zz H2) H2 Da Db [] [] (fun _ => []) (fun _ => []) :=
      ⟨hide_le zz H2, ⟨hDa2, n0, fun k => .inl ⟨rfl, rfl⟩, fun _ _ _ h => nomatch h⟩, ⟨hDb2, n1, fun k => .inl ⟨rfl, rfl⟩, fun _ _ _ h => nomatch h⟩, hab, fun _ _ _ h => nomatch h⟩
    walk_at "w"
    refine ⟨⟨_, SqL.of hxq⟩, for_list (xs := xq) (fun i σ H' => ∃ (ka kb : List (Key × V)) (fa fb : Int → List Int) (u : Option V), σ = [some (.ref m), some (.ref Da), some (.ref Db), u, none, none, none, none, none] ∧ Two (hide zz H2) H' Da Db ka kb fa fb ∧ ka.length ≤ i ∧ kb.length ≤ i ∧ Holds fa (la.take i) (·.1) (·.2.2.2) ∧ Holds fb (la.take i) (·.2.2.2) (·.1)) ?_ ?_ ?_ ?_⟩
    · exact ⟨[], [], _, _, _, rfl, t2, Nat.le_refl _, Nat.le_refl _, ⟨fun k v => ⟨fun h => (nomatch h), fun ⟨x, h, _⟩ => nomatch h⟩, fun k => Nat.zero_le _⟩, ⟨fun k v => ⟨fun h => (nomatch h), fun ⟨x, h, _⟩ => nomatch h⟩, fun k => Nat.zero_le _⟩⟩
    · rintro i σ H3 hi ⟨ka, kb, fa, fb, u, rfl, t, _⟩
      exact SqL.of (t.sm _ _ q0)
    · rintro i v σ H3 hi ⟨ka, kb, fa, fb, u, rfl, t, la1, lb1, ha, hb⟩
      obtain ⟨d, d1, d2⟩ := jq0.get hi
      rw [List.getElem?_map] at d1
      cases qa : la[i]? with
      | none => rw [qa] at d1; cases d1
      | some x =>
        rw [qa] at d1
        cases d1
        obtain ⟨c, rfl, hc⟩ := d2.arc_inv
        have hc3 := t.sm _ _ hc
        have hi2 := (List.getElem?_eq_some_iff.mp hi).1
        have ha' := ha.snoc x
        have hb' := hb.snoc x
        rw [← take_succ_get qa] at ha' hb'
        refine ⟨fun σ H' => ∃ (ka' : List (Key × V)), σ = [some (.ref m), some (.ref Da), some (.ref Db), some (.ref c), none, none, none, none, none] ∧ Two (hide zz H2) H' Da Db ka' kb (plus fa x.1 x.2.2.2) fb ∧ ka'.length ≤ i + 1, ?_, ?_⟩
        · walk_at "w"
          refine ⟨.inl ⟨ka, .inl t.a.d⟩, ?_⟩
          walk_at "w"
          refine ⟨szr rfl, fun p np => ?_⟩
          have t3 := t.new np
          refine ⟨ka, .inl x.1, t3.a.d, rfl, small5 (by omega), fun v hv => ?_, fun hv => ?_⟩
          · rcases t3.a.l x.1 with ⟨h1, _⟩ | ⟨l, h1, h2, _⟩
            · rw [hv] at h1; cases h1
            · rw [hv] at h1
              cases h1
              have t4 := t3.old (b := x.2.2.2) hv
              have hcp := t3.sm _ _ hc
              refine ⟨.inl ⟨rfl, _, SqL.of h2⟩, ?_⟩
              walk_at "w"
              refine ⟨l, _, .int x.2.2.2, rfl, rfl, h2, by rw [List.length_map]; exact small5 (by have := ha.2 x.1; rw [List.length_take] at this; omega), ?_⟩
              rw [show (fa x.1).map V.int ++ [V.int x.2.2.2] = (fa x.1 ++ [x.2.2.2]).map V.int by rw [List.map_append]; rfl]
              exact ⟨ka, rfl, t4, by omega⟩
          · have t4 := t.fresh (p := p) (b := x.2.2.2) hv np
            have nD := ne_of_none t.a.d np
            have hp3 : upd (upd H3 p (.lst [])) Da (.dK (putK ka (.inl x.1) (.ref p))) p = some (.lst []) := by rw [upd_ne nD.symm, upd_same]
            have hcp : upd (upd H3 p (.lst [])) Da (.dK (putK ka (.inl x.1) (.ref p))) c = _ := (Same.put t3.sm t3.a.d0) _ _ hc
            refine ⟨.inl ⟨rfl, _, SqL.of hp3⟩, ?_⟩
            walk_at "w"
            refine ⟨p, _, .int x.2.2.2, rfl, rfl, hp3, small5 (Nat.zero_le _), ?_⟩
            exact ⟨_, rfl, t4, Nat.le_trans (length_putK _ _ _) (by omega)⟩
        rintro σ H4 ⟨ka', rfl, t, la1'⟩
        have hc4 := t.sm _ _ hc
        walk_at "w"
        refine ⟨.inl ⟨kb, .inl t.b.d⟩, ?_⟩
        walk_at "w"
        refine ⟨szr rfl, fun p np => ?_⟩
        have t' := t.swap
        have t3 := t'.new np
        refine ⟨kb, .inl x.2.2.2, t3.a.d, rfl, small5 (by omega), fun v hv => ?_, fun hv => ?_⟩
        · rcases t3.a.l x.2.2.2 with ⟨h1, _⟩ | ⟨l, h1, h2, _⟩
          · rw [hv] at h1; cases h1
          · rw [hv] at h1
            cases h1
            have t4 := t3.old (b := x.1) hv
            have hcp := t3.sm _ _ hc
            refine ⟨.inl ⟨rfl, _, SqL.of h2⟩, ?_⟩
            walk_at "w"
            refine ⟨l, _, .int x.1, rfl, rfl, h2, by rw [List.length_map]; exact small5 (by have := hb.2 x.2.2.2; rw [List.length_take] at this; omega), ?_⟩
            rw [show (fb x.2.2.2).map V.int ++ [V.int x.1] = (fb x.2.2.2 ++ [x.1]).map V.int by rw [List.map_append]; rfl]
            exact ⟨ka', kb, _, _, _, rfl, t4.swap, la1', by omega, ha', hb'⟩
        · have t4 := t'.fresh (p := p) (b := x.1) hv np
          have nD := ne_of_none t'.a.d np
          have hp3 : upd (upd H4 p (.lst [])) Db (.dK (putK kb (.inl x.2.2.2) (.ref p))) p = some (.lst []) := by rw [upd_ne nD.symm, upd_same]
          have hcp : upd (upd H4 p (.lst [])) Db (.dK (putK kb (.inl x.2.2.2) (.ref p))) c = _ := (Same.put t3.sm t3.a.d0) _ _ hc
          refine ⟨.inl ⟨rfl, _, SqL.of hp3⟩, ?_⟩
          walk_at "w"
          refine ⟨p, _, .int x.1, rfl, rfl, hp3, small5 (Nat.zero_le _), ?_⟩
          exact ⟨ka', _, _, _, _, rfl, t4.swap, la1', Nat.le_trans (length_putK _ _ _) (by omega), ha', hb'⟩
    rintro σ H3 ⟨ka, kb, fa, fb, u, rfl, t, -, -, ha, hb⟩
    rw [List.take_of_length_le (by omega)] at ha hb
    have s03 := back H3 t.sm
    have hM3 := hM.up s03
    have hx3 := s03 _ _ hx
    have rng : ∀ x ∈ la, (0 ≤ x.1 ∧ x.1 < M.n) ∧ 0 ≤ x.2.2.2 ∧ x.2.2.2 < M.n := fun x hx => by
      obtain ⟨h1, _, _, h2⟩ := hPV.as x ((mla x).mp hx)
      exact ⟨h1, h2⟩
    have hn0 := hPV.n0
    have hn1 := hPV.n1
    walk_at "w"
    refine ⟨m, dx, _, rfl, hx3, m, M, rfl, hM3, fun qb H4 lb nqb s4 jlb mlb clb => ?_⟩
    obtain ⟨_, xb, ee, hxb, jb⟩ := jlb.lst_inv
    cases ee
    have lxb := jb.len
    rw [List.length_map] at lxb
    walk_at "w"
    refine ⟨⟨_, SqL.of hxb⟩, fun D1 nD1 => ?_⟩
    refine lc_mapP (Same.refl H4) nD1 hxb (by omega) (fun i v => ∃ e, lb[i]? = some e ∧ v = .int e.1) ?_ ?_ ?_
    · exact fun _ => rfl
    · intro i v H5 R hi s5 hR
      obtain ⟨d, d1, d2⟩ := jb.get hi
      rw [List.getElem?_map] at d1
      cases q : lb[i]? with
      | none => rw [q] at d1; cases d1
      | some e =>
        rw [q] at d1
        cases d1
        obtain ⟨c, rfl, hc⟩ := (d2.up s5).side_inv
        have hc0 := hc
        walk_at "w"
        exact hR _ _ (Same.refl _) ⟨e, q, rfl⟩
    intro H5 ys s5 hD1 hyl hF
    obtain rfl : ys = (lb.map (·.1)).map V.int := map_of_get (by rw [List.length_map]; omega) fun i v hv => by
      obtain ⟨e, q, e2⟩ := hF i v hv
      exact ⟨_, by rw [List.getElem?_map, q]; rfl, e2⟩
    have s35 := s4.trans s5
    walk_at "w"
    have e8 : ((M.n.toNat : Nat) : Int) = M.n := Int.toNat_of_nonneg hn0
    refine ⟨D1, Da, lb.map (·.1), fa, M.n.toNat, rfl, hD1, (t.a.lds).up s35, by omega, by rw [List.length_map]; omega, fun k => Nat.le_trans (ha.2 k) (by omega), fun k hk => ?_, fun k v hv => ?_, fun R1 H6 F1 s6 hR1 hF1 => ?_⟩
    · obtain ⟨e, he, rfl⟩ := List.mem_map.mp hk
      obtain ⟨h1, h2, _⟩ := hPV.bs e ((mlb e).mp he)
      rw [e8]
      exact ⟨h1, h2⟩
    · obtain ⟨x, hx, _, rfl⟩ := (ha.1 k v).mp hv
      rw [e8]
      exact (rng x hx).2
    have s06 := (s03.trans s35).trans s6
    have hM6 := hM.up s06
    have hx6 := s06 _ _ hx
    walk_at "w"
    refine ⟨m, dx, _, rfl, hx6, m, M, rfl, hM6, fun qe H7 le nqe s7 jle mle cle => ?_⟩
    obtain ⟨_, xe, ee, hxe, je⟩ := jle.lst_inv
    cases ee
    have lxe := je.len
    rw [List.length_map] at lxe
    walk_at "w"
    refine ⟨⟨_, SqL.of hxe⟩, fun D2 nD2 => ?_⟩
    refine lc_mapP (Same.refl H7) nD2 hxe (by omega) (fun i v => ∃ e, le[i]? = some e ∧ v = .int e.1) ?_ ?_ ?_
    · exact fun _ => rfl
    · intro i v H5 R hi s5 hR
      obtain ⟨d, d1, d2⟩ := je.get hi
      rw [List.getElem?_map] at d1
      cases q : le[i]? with
      | none => rw [q] at d1; cases d1
      | some e =>
        rw [q] at d1
        cases d1
        obtain ⟨c, rfl, hc⟩ := (d2.up s5).side_inv
        have hc0 := hc
        walk_at "w"
        exact hR _ _ (Same.refl _) ⟨e, q, rfl⟩
    intro H8 ys s8 hD2 hyl2 hF2
    obtain rfl : ys = (le.map (·.1)).map V.int := map_of_get (by rw [List.length_map]; omega) fun i v hv => by
      obtain ⟨e, q, e2⟩ := hF2 i v hv
      exact ⟨_, by rw [List.getElem?_map, q]; rfl, e2⟩
    have s38 := ((s35.trans s6).trans s7).trans s8
    walk_at "w"
    refine ⟨D2, Db, le.map (·.1), fb, M.n.toNat, rfl, hD2, (t.b.lds).up s38, by omega, by rw [List.length_map]; omega, fun k => Nat.le_trans (hb.2 k) (by omega), fun k hk => ?_, fun k v hv => ?_, fun R2 H9 F2 s9 hR2 hF2 => ?_⟩
    · obtain ⟨e, he, rfl⟩ := List.mem_map.mp hk
      obtain ⟨h1, h2, _⟩ := hPV.es e ((mle e).mp he)
      rw [e8]
      exact ⟨h1, h2⟩
    · obtain ⟨x, hx, _, rfl⟩ := (hb.1 k v).mp hv
      rw [e8]
      exact (rng x hx).1
    have s09 := (s03.trans s38).trans s9
    have hM9 := hM.up s09
    have hx9 := s09 _ _ hx
    have hR19 := s9 _ _ (s8 _ _ (s7 _ _ hR1))
    walk_at "w"
    refine ⟨m, dx, _, rfl, hx9, m, M, rfl, hM9, ?_⟩
    walk_at "w"
    refine ⟨by omega, by omega, fun D3 nD3 => ?_⟩
    refine lc_rngF (lo := 0) (n := M.n.toNat) (Same.refl H9) nD3 (by omega) (fun i => (0 + (i : Int)) ∈ F1 ∧ (0 + (i : Int)) ∈ F2) ?_ ?_ ?_ ?_
    · exact fun _ => rfl
    · exact fun _ => rfl
    · intro i H10 R hi s10 hR
      walk_at "w"
      refine ⟨R1, _, rfl, DGet.k (k := .inl (0 + (i : Int))) (s10 _ _ hR19), ?_⟩
      rw [valF]
      by_cases h1 : (0 + (i : Int)) ∈ F1
      · rw [if_pos h1]
        walk_at "w"
        refine ⟨R2, _, rfl, DGet.k (k := .inl (0 + (i : Int))) (s10 _ _ hR2), ?_⟩
        rw [valF]
        walk_at "w"
        refine hR _ _ (Same.refl _) ?_
        split
        · exact ⟨fun _ => ⟨h1, ‹_›⟩, fun _ => rfl⟩
        · exact ⟨fun h => (nomatch h), fun h => absurd h.2 ‹_›⟩
      · rw [if_neg h1]
        walk_at "w"
        exact hR _ _ (Same.refl _) ⟨fun h => (nomatch h), fun h => absurd h.1 h1⟩
    intro H10 ns s10 hD3 hnl hns
    walk_at "w"
    refine k D3 H10 ns (s09.trans s10) hD3 (by omega) fun x => ?_
    rw [hns x]
    have eb : ∀ x, x ∈ F1 ↔ Rt (fun a => ∃ b ∈ M.bs, b.1 = a) (Ed M) x := fun x => by
      rw [hF1]
      refine rt_congr (fun a => ?_) (fun a b => ?_) x
      · rw [List.mem_map]
        exact ⟨fun ⟨e, he, q⟩ => ⟨e, (mlb e).mp he, q⟩, fun ⟨e, he, q⟩ => ⟨e, (mlb e).mpr he, q⟩⟩
      · rw [ha.1]
        exact ⟨fun ⟨e, he, q⟩ => ⟨e, (mla e).mp he, q⟩, fun ⟨e, he, q⟩ => ⟨e, (mla e).mpr he, q⟩⟩
    have ee : ∀ x, x ∈ F2 ↔ Rt (fun a => ∃ b ∈ M.es, b.1 = a) (fun a b => Ed M b a) x := fun x => by
      rw [hF2]
      refine rt_congr (fun a => ?_) (fun a b => ?_) x
      · rw [List.mem_map]
        exact ⟨fun ⟨e, he, q⟩ => ⟨e, (mle e).mp he, q⟩, fun ⟨e, he, q⟩ => ⟨e, (mle e).mpr he, q⟩⟩
      · rw [hb.1]
        exact ⟨fun ⟨e, he, q1, q2⟩ => ⟨e, (mla e).mp he, q2, q1⟩, fun ⟨e, he, q1, q2⟩ => ⟨e, (mla e).mpr he, q2, q1⟩⟩
    unfold Useful
    constructor
    · rintro ⟨i, hi, rfl, h1, h2⟩
      exact ⟨⟨by omega, by omega⟩, (eb _).mp h1, (ee _).mp h2⟩
    · rintro ⟨⟨h0, h1⟩, h2, h3⟩
      have e : x = 0 + ((x.toNat : Nat) : Int) := by omega
      refine ⟨x.toNat, by omega, e, ?_, ?_⟩
      · rw [← e]; exact (eb x).mpr h2
      · rw [← e]; exact (ee x).mpr h3
end
end GJ


set_option Elab.async false
set_option linter.all false
set_option maxRecDepth 100000
set_option maxHeartbeats 4000000
namespace GJ
open PySem PySem.Spec PyProof.Rows L2 TL
set_option pp.maxSteps 300
def wrL (as : List Arc) : List Nat := (as.map fun a => tl a.2.2.1).flatten
theorem wrL_len {n : Nat} : ∀ {as : List Arc}, (∀ a ∈ as, (tl a.2.2.1).length ≤ n) → (wrL as).length ≤ as.length * n
  | [], _ => Nat.zero_le _
  | a :: as, h => by
    have h1 := h a List.mem_cons_self
    have h2 := wrL_len (as := as) fun b hb => h b (List.mem_cons_of_mem _ hb)
    unfold wrL at *
    rw [List.map_cons, List.flatten_cons, List.length_append, List.length_cons, Nat.add_mul, Nat.one_mul]
    omega
theorem cutV_pre (xs : List V) {t : Int} (h : 0 ≤ t) : cutV xs none (some t) = xs.take t.toNat := by
  unfold cutV
  have e : t = (t.toNat : Int) := by omega
  rw [e, HT.sIx_none, HT.sIx_nat, Int.toNat_natCast, List.drop_zero, Nat.sub_zero]
  by_cases h2 : t.toNat ≤ xs.length
  · rw [Nat.min_eq_left h2]
  · rw [Nat.min_eq_right (by omega), List.take_length, List.take_of_length_le (by omega)]
theorem cutV_suf (xs : List V) {t : Int} (h : 0 ≤ t) : cutV xs (some t) none = xs.drop t.toNat := by
  unfold cutV
  have e : t = (t.toNat : Int) := by omega
  rw [e, HT.sIx_none, HT.sIx_nat, Int.toNat_natCast]
  by_cases h2 : t.toNat ≤ xs.length
  · rw [Nat.min_eq_left h2, List.take_of_length_le (by rw [List.length_drop]; omega)]
  · rw [Nat.min_eq_right (by omega), List.drop_length, List.drop_of_length_le (by omega)]
    simp
section
variable {P : Program} {w : World} {K : PySem.W.Frag} {mg : Str → Option Value} {base : Heap}
set_option hygiene false in
local macro_rules | `(tactic| walk_at "w") => `(tactic| repeat (first
  | refine ⟨_, rfl, ?_⟩
  | refine ⟨_, _, rfl, rfl, (by first | decide | omega), fun r r0 r1 re => ?_⟩
  | refine ⟨_, _, rfl, rfl, (by first | exact Or.inl ⟨by omega, by omega⟩ | exact Or.inr ⟨by omega, by omega⟩ : CMul _ _), ?_⟩
  | refine ⟨_, _, rfl, rfl, (by first | exact ⟨by decide, by decide⟩ | exact ⟨by omega, by omega⟩ : CDiv _ _), ?_⟩
  | refine ⟨_, _, rfl, rfl, (by exact ⟨by decide, by decide, by decide⟩ : CPow _ _), ?_⟩
  | refine ⟨_, _, rfl, rfl, ?_⟩
  | refine ⟨(by rfl : scal _ _ = true), ?_⟩
  | refine Or.inl ⟨_, rfl, ?_⟩
  | refine ⟨_, _, rfl, fun m m0 m1 m2 => ?_⟩
  | refine ⟨_, _, _, _, rfl, rfl, SqL.of (by first | assumption | exact upd_same | exact fx _ | exact fy _), rfl, ?_⟩
  | refine ⟨_, _, _, _, rfl, rfl, (by first | assumption | exact upd_same | exact fx _ | exact fy _), rfl, ?_⟩
  | refine ⟨_, _, _, _, rfl, rfl, SqT.of (by first | assumption | exact upd_same | exact fx _ | exact fy _), rfl, ?_⟩
  | refine ⟨(szle (by omega) : Str.length _ ≤ sizeLine), ?_⟩
  | refine ⟨(szle (by first | omega | (rw [sla]; omega) | (rw [sla, sla]; omega)) : Str.length _ + Str.length _ ≤ sizeLine), ?_⟩
  | refine ⟨_, _, rfl, len_lst (by first | assumption | exact upd_same | exact fx _ | exact fy _), ?_⟩))
set_option hygiene false in
local macro_rules | `(tactic| walk_at "if") => `(tactic| (refine ite2 (fun hc => ?_) (fun hc => ?_) <;>
  simp only [decide_eq_true_eq, Bool.not_eq_true', decide_eq_false_iff_not, V.int.injEq, V.str.injEq, V.bl.injEq, Decidable.not_not, Bool.not_eq_true, V.int_ne, Int.not_lt, Int.not_le, Bool.true_eq_false, Bool.false_eq_true, not_true_eq_false, not_false_eq_true] at hc))
set_option hygiene false in
local macro_rules | `(tactic| walk_at "new") => `(tactic| (refine ⟨by first | decide | (simp only [List.length_cons, List.length_nil, List.length_append, List.length_map]; first | decide | (rw [sizeLine_eq]; omega)), fun p np => ?_⟩))
set_option hygiene false in
local macro_rules | `(tactic| walk_at "yes") => `(tactic| refine itY (by first | rfl | exact decide_eq_true (by first | rfl | omega | assumption) | (simp only [decide_eq_true_eq, Bool.not_eq_true', decide_eq_false_iff_not, V.int.injEq, V.str.injEq, V.bl.injEq]; first | omega | assumption)) ?_)
set_option hygiene false in
local macro_rules | `(tactic| walk_at "no") => `(tactic| refine itN (by first | decide | (simp only [decide_eq_true_eq, Bool.not_eq_true', decide_eq_false_iff_not, V.int.injEq, V.str.injEq, V.bl.injEq, Bool.not_eq_true, Decidable.not_not]; first | omega | assumption)) ?_)
def sp_stateAt : Sp := fun vs H Q _ => ∃ (v : V) (w : Way) (t : Int), vs = [v, .int t] ∧ DA H v (wayD w) ∧ 0 ≤ t ∧ t ≤ w.2.length ∧ w.2.length ≤ 90000 ∧ Q (.int (lastSt w.1.1 (w.2.take t.toNat))) H
def N_state_at : List Str := ["way", "at"]
theorem sc_state_at : FnScope N_state_at ["way", "at"] (defScope (top 44)) := ⟨rfl, rfl, rfl, by decide +kernel, rfl, by decide +kernel, by decide +kernel⟩
theorem ok_state_at (En : Env K mg fas fns prs) : Ok P w K mg base "state_at" 1 ["way", "at"] sp_stateAt := by
  refine ok_mk 26 44 En sc_state_at (fun _ _ _ _ _ _ us hl => match us, hl with | [_, _], _ => rfl) (fun vs H Q E h => ?_) (fun f cdv A outer s H vs Q E hr h => ?_)
  · obtain ⟨v, w, t, rfl, _⟩ := h
    rfl
  · obtain ⟨v, w, t, rfl, jw, t0, t1, hl, k⟩ := h
    obtain ⟨p, sd, l, xs, rfl, hp, hsd, hlx, jl⟩ := jw.way_inv
    have hxl := jl.len
    rw [List.length_map] at hxl
    refine ⟨_, (pss_one (ps_ret (pe_ifExp (pt_cmpR op_gt (pv 1) pe_int (nomark _)) (pe_ix (ix_tupK (K := K) rfl) (pe_ix (ix_listK (K := K) rfl) (pe_ix (ix_tupK (K := K) rfl) (pv 0) pe_int (fun _ _ => rfl)) (pe_op op_sub (pv 1) pe_int) (fun _ _ => rfl)) pe_int (fun _ _ => rfl)) (pe_ix (ix_tupK (K := K) rfl) (pe_ix (ix_tupK (K := K) rfl) (pv 0) pe_int (fun _ _ => rfl)) pe_int (fun _ _ => rfl))))), ?_⟩
    walk_at "w"
    refine ite2 (fun hc => ?_) (fun hc => ?_)
    · have hc := of_decide_eq_true hc
      obtain ⟨v, v1, v2⟩ := at_nn (xs := xs) (i := t - 1) (by omega) (by omega)
      obtain ⟨d, d1, d2⟩ := jl.get v1
      rw [List.getElem?_map] at d1
      cases q : w.2[(t - 1).toNat]? with
      | none => rw [q] at d1; cases d1
      | some a =>
        rw [q] at d1
        cases d1
        obtain ⟨c, rfl, hc2⟩ := d2.arc_inv
        walk_at "w"
        refine ⟨l, _, _, _, rfl, rfl, SqL.of hlx, v2, ?_⟩
        walk_at "w"
        rw [show t.toNat = (t - 1).toNat + 1 by omega, take_succ_get q, lastSt_app] at k
        exact k
    · have hc : ¬ 0 < t := fun h => hc (decide_eq_true h)
      walk_at "w"
      rw [show t.toNat = 0 by omega] at k
      exact k
def sp_writtenBy : Sp := fun vs H Q _ => ∃ (v : V) (w : Way) (t : Int), vs = [v, .int t] ∧ DA H v (wayD w) ∧ 0 ≤ t ∧ w.2.length ≤ 1000 ∧ (tl w.1.2).length ≤ 50 ∧ (∀ a ∈ w.2, (tl a.2.2.1).length ≤ 50) ∧
  ∀ p H' (x y : Str), Same H H' → H' p = some (.tup [.str x, .str y]) → tl x = tl w.1.2 ++ wrL (w.2.take t.toNat) → tl y = wrL (w.2.drop t.toNat) → Q (.ref p) H'
def N_written_by : List Str := ["way", "at", "words", "arc"]
theorem sc_written_by : FnScope N_written_by ["way", "at"] (defScope (top 45)) := ⟨rfl, rfl, rfl, by decide +kernel, rfl, by decide +kernel, by decide +kernel⟩
theorem ok_written_by (En : Env K mg fas fns prs) : Ok P w K mg base "written_by" 1 ["way", "at"] sp_writtenBy := by
  refine ok_mk 27 45 En sc_written_by (fun _ _ _ _ _ _ us hl => match us, hl with | [_, _], _ => rfl) (fun vs H Q E h => ?_) (fun f cdv A outer s H vs Q E hr h => ?_)
  · obtain ⟨v, w, t, rfl, _⟩ := h
    rfl
  · obtain ⟨v, w, t, rfl, jw, t0, hl, hb1, hb2, k⟩ := h
    obtain ⟨p, sd, l, xs, rfl, hp, hsd, hlx, jl⟩ := jw.way_inv
    have hxl := jl.len
    rw [List.length_map] at hxl
    refine ⟨_, (pss_cons
        (ps_setLc (i := 2) (own := [("arc", 3)]) (g := gName 3) (tt := tYes) rfl sc_written_by.nd rfl rfl (sw_true rfl rfl rfl (by decide +kernel)) (pi_listK (K := K) rfl (pe_ix (ix_tupK (K := K) rfl) (pv 0) pe_int (fun _ _ => rfl))) (blkOk_by (own := [("arc", 3)]) (N := N_written_by) (sc := defScope (top 45)) (by decide +kernel)) (fun _ _ _ _ _ => (pg_name (i := 3) sc_written_by.nd rfl (Or.inl rfl))) (fun _ _ _ _ _ => pts_nil) (fun _ _ _ _ _ => (pe_ix (ix_tupK (K := K) rfl) (pv 3) pe_int (fun _ _ => rfl))))
      (pss_one
        (ps_ret (pe_tup (pa_cons (pe_op op_add_str (pe_ix (ix_tupK (K := K) rfl) (pe_ix (ix_tupK (K := K) rfl) (pv 0) pe_int (fun _ _ => rfl)) pe_int (fun _ _ => rfl)) (pe_join pe_str (pe_slice (sl_listK (K := K) rfl) (pv 2) po_none (po_some (pv 1))))) (pa_cons (pe_join pe_str (pe_slice (sl_listK (K := K) rfl) (pv 2) (po_some (pv 1)) po_none)) pa_nil)))))), ?_⟩
    walk_at "w"
    refine ⟨⟨_, SqL.of hlx⟩, fun D nD => ?_⟩
    refine lc_mapP (Same.refl H) nD hlx (by omega) (fun i v => ∃ a, w.2[i]? = some a ∧ v = .str a.2.2.1) ?_ ?_ ?_
    · exact fun _ => rfl
    · intro i x H3 R hi s3 hR
      obtain ⟨d, d1, d2⟩ := jl.get hi
      rw [List.getElem?_map] at d1
      cases q : w.2[i]? with
      | none => rw [q] at d1; cases d1
      | some a =>
        rw [q] at d1
        cases d1
        obtain ⟨c, rfl, hc⟩ := (d2.up s3).arc_inv
        have hc0 := hc
        walk_at "w"
        exact hR _ _ (Same.refl _) ⟨a, q, rfl⟩
    intro H3 ys s3 hD hyl hF
    obtain rfl : ys = (w.2.map (·.2.2.1)).map V.str := map_of_get (by rw [List.length_map]; omega) fun i v hv => by
      obtain ⟨a, q, e⟩ := hF i v hv
      exact ⟨_, by rw [List.getElem?_map, q]; rfl, e⟩
    have hp3 := s3 _ _ hp
    have hsd3 := s3 _ _ hsd
    obtain ⟨W, hW⟩ : ∃ W : List Str, W = w.2.map (·.2.2.1) := ⟨_, rfl⟩
    rw [← hW] at hD
    have wl : W.length ≤ 1000 := by rw [hW, List.length_map]; exact hl
    have wb : ∀ y ∈ W, (tl y).length ≤ 50 := fun y hy => by
      rw [hW] at hy
      obtain ⟨a, ha, rfl⟩ := List.mem_map.mp hy
      exact hb2 a ha
    have sb : ∀ ys : List Str, (∀ y ∈ ys, y ∈ W) → ys.length ≤ 1000 → (ys.map (·.length)).sum + ys.length * 0 ≤ 16777216 := fun ys h1 h2 => by
      have := sum_len (n := 50) ys fun y hy => wb y (h1 y hy)
      omega
    have jt : ∀ ys : List Str, tl (Txt.join "" ys) = (ys.map tl).flatten := tl_join0
    have e1 : cutV (W.map V.str) none (some t) = (W.take t.toNat).map V.str := by rw [cutV_pre _ t0, List.map_take]
    have e2 : cutV (W.map V.str) (some t) none = (W.drop t.toNat).map V.str := by rw [cutV_suf _ t0, List.map_drop]
    have f1 : tl (Txt.join "" (W.take t.toNat)) = wrL (w.2.take t.toNat) := by
      rw [jt, hW, ← List.map_take, List.map_map]
      rfl
    have f2 : tl (Txt.join "" (W.drop t.toNat)) = wrL (w.2.drop t.toNat) := by
      rw [jt, hW, ← List.map_drop, List.map_map]
      rfl
    have len1 : (Txt.join "" (W.take t.toNat)).length ≤ 50000 := by
      rw [tl_len, f1]
      refine Nat.le_trans (wrL_len (n := 50) fun a ha => hb2 a (List.mem_of_mem_take ha)) ?_
      rw [List.length_take]
      have : min t.toNat w.2.length ≤ 1000 := by omega
      exact Nat.le_trans (Nat.mul_le_mul_right 50 this) (by decide)
    have hwl : w.1.2.length ≤ 50 := hb1
    walk_at "w"
    refine ⟨⟨_, rfl⟩, ?_⟩
    walk_at "w"
    refine ⟨D, _, rfl, SqL.of hD, fun p1 np1 => ?_⟩
    rw [e1]
    have s4 := Same.new (o := .lst ((W.take t.toNat).map V.str)) np1
    have hD4 := s4 _ _ hD
    refine ⟨_, p1, _, rfl, rfl, Or.inl (SqL.of upd_same), sb _ (fun y hy => List.mem_of_mem_take hy) (by rw [List.length_take]; omega), ?_⟩
    walk_at "w"
    refine ⟨⟨_, rfl⟩, ?_⟩
    walk_at "w"
    refine ⟨D, _, rfl, SqL.of hD4, fun p2 np2 => ?_⟩
    rw [e2]
    refine ⟨_, p2, _, rfl, rfl, Or.inl (SqL.of upd_same), sb _ (fun y hy => List.mem_of_mem_drop hy) (by rw [List.length_drop]; omega), ?_⟩
    walk_at "w"
    refine ⟨szr rfl, fun q nq => ?_⟩
    refine k q _ _ _ (((s3.trans s4).trans (Same.new np2)).trans (Same.new nq)) upd_same ?_ f2
    rw [tl_append, f1]
end
end GJ


set_option Elab.async false
set_option linter.all false
set_option maxRecDepth 100000
set_option maxHeartbeats 4000000
namespace GJ
open PySem PySem.Spec PyProof.Rows L2 TL
set_option pp.maxSteps 300
/-- what a way has written with its first n arcs -/
def wrW (w : Way) (n : Nat) : List Nat := tl w.1.2 ++ wrL (w.2.take n)
def lagL (x y : List Nat) : List Nat × List Nat := (x.drop (cpl x y), y.drop (cpl x y))
def EndOk (M : Parts) (w : Way) (t : Int) : Prop := Useful M (lastSt w.1.1 w.2) ∧ lastSt w.1.1 (w.2.take t.toNat) = lastSt w.1.1 w.2
structure GrowP (M : Parts) (p : Pap) : Prop where
  a : WayOk M p.a
  b : WayOk M p.b
  len : p.b.2.length = p.a.2.length
  t0 : 0 ≤ p.at_
  t1 : p.at_ < p.a.2.length
  read : readL p.a = readL p.b
  ea : EndOk M p.a p.at_
  eb : EndOk M p.b p.at_
  lag : lagL (wrW p.a p.at_.toNat) (wrW p.b p.at_.toNat) ≠ lagL (wrW p.a p.a.2.length) (wrW p.b p.b.2.length)
theorem GrowP.e {M : Parts} {p : Pap} (g : GrowP M p) : ∀ j : Nat, EndOk M (WayOf p j) p.at_
  | 0 => g.ea
  | _ + 1 => g.eb
theorem inV_ints (k : Int) (ns : List Int) : inV (.int k) (ns.map V.int) = decide (k ∈ ns) := by
  rw [Bool.eq_iff_iff]
  simp [inV, eqV]
theorem niV_ints (k : Int) (ns : List Int) : (if true then !inV (.int k) (ns.map V.int) else inV (.int k) (ns.map V.int)) = !decide (k ∈ ns) := by
  rw [if_pos rfl, inV_ints]
def Grow (M : Parts) (d : PyData) : Prop := ∃ p : Pap, d = papD p ∧ GrowP M p
theorem wayD_inj {a b : Way} (h : wayD a = wayD b) : a = b := by
  obtain ⟨a1, a2⟩ := a
  obtain ⟨b1, b2⟩ := b
  simp only [wayD, PyData.tuple.injEq, List.cons.injEq, PyData.list.injEq, and_true] at h
  rw [sideD_inj h.1, mapD_inj h.2]
theorem papD_inj {a b : Pap} (h : papD a = papD b) : a = b := by
  obtain ⟨a1, a2, a3⟩ := a
  obtain ⟨b1, b2, b3⟩ := b
  simp only [papD, PyData.tuple.injEq, List.cons.injEq, PyData.int.injEq, and_true] at h
  rw [wayD_inj h.1, wayD_inj h.2.1, h.2.2]
theorem chain_mem {M : Parts} : ∀ {s : Int} {as : List Arc}, Chain M s as → ∀ a ∈ as, a ∈ M.as
  | _, [], _, _, h => nomatch h
  | _, b :: as, c, a, h => (List.mem_cons.mp h).elim (fun e => e ▸ c.1.1) (chain_mem c.2 a)
/-- signs of the machine's alphabet -/
theorem wrL_mem {M : Parts} (h : PV M) {as : List Arc} (g : ∀ a ∈ as, a ∈ M.as) {c : Nat} (hc : c ∈ wrL as) : c < 0x110000 := by
  unfold wrL at hc
  obtain ⟨l, h1, h2⟩ := List.mem_flatten.mp hc
  obtain ⟨a, ha, rfl⟩ := List.mem_map.mp h1
  have := h.awr.az c ((h.as a (g a ha)).2.2.1.2 c h2)
  omega
theorem wrW_mem {M : Parts} (h : PV M) {w : Way} (g : WayOk M w) {n : Nat} {c : Nat} (hc : c ∈ wrW w n) : c < 0x110000 := by
  unfold wrW at hc
  rcases List.mem_append.mp hc with hc | hc
  · have := h.awr.az c ((h.bs w.1 g.1).2.2.2 c hc)
    omega
  · exact wrL_mem h (fun a ha => chain_mem g.2 a (List.mem_of_mem_take ha)) hc
theorem wrW_len {M : Parts} (h : PV M) {w : Way} (g : WayOk M w) (l : w.2.length ≤ 1000) (n : Nat) : (wrW w n).length ≤ 50050 := by
  unfold wrW
  rw [List.length_append]
  have h1 := (h.bs w.1 g.1).2.2.1
  have h2 := wrL_len (n := 50) (as := w.2.take n) fun a ha => (h.as a (chain_mem g.2 a (List.mem_of_mem_take ha))).2.2.1.1
  have h3 : (w.2.take n).length * 50 ≤ 1000 * 50 := Nat.mul_le_mul_right 50 (by rw [List.length_take]; omega)
  omega
theorem lag_eqv (a b c d : Str) : PyData.eqv (.tuple [.str a, .str b]) (.tuple [.str c, .str d]) = true ↔ a = c ∧ b = d := by
  simp [PyData.eqv, PyData.eqvAll]
theorem lag_shaped {a b : Str} (h : PyData.strOk a = true) (g : PyData.strOk b = true) : SeqAt.shaped (.tuple [.str a, .str b]) = true := by
  simp [SeqAt.shaped, PyData.canLay0, PyData.canLayAll0, PyData.depth, PyData.depthAll, h, g]
theorem lag_ne {x y u v : List Nat} {a b c d : Str} (ha : tl a = x.drop (cpl x y)) (hb : tl b = y.drop (cpl x y)) (hc : tl c = u.drop (cpl u v)) (hd : tl d = v.drop (cpl u v)) : (!PyData.eqv (.tuple [.str a, .str b]) (.tuple [.str c, .str d])) = true ↔ lagL x y ≠ lagL u v := by
  rw [Bool.not_eq_true', Bool.eq_false_iff, Ne, lag_eqv]
  unfold lagL
  rw [← ha, ← hb, ← hc, ← hd, Ne, Prod.mk.injEq]
  exact not_congr ⟨fun h => ⟨congrArg tl h.1, congrArg tl h.2⟩, fun h => ⟨tl_ext h.1, tl_ext h.2⟩⟩
section
variable {P : Program} {w : World} {K : PySem.W.Frag} {mg : Str → Option Value} {base : Heap}
set_option hygiene false in
local macro_rules | `(tactic| walk_at "w") => `(tactic| repeat (first
  | refine ⟨_, rfl, ?_⟩
  | refine ⟨_, _, rfl, rfl, (by first | decide | omega), fun r r0 r1 re => ?_⟩
  | refine ⟨_, _, rfl, rfl, (by first | exact Or.inl ⟨by omega, by omega⟩ | exact Or.inr ⟨by omega, by omega⟩ : CMul _ _), ?_⟩
  | refine ⟨_, _, rfl, rfl, (by first | exact ⟨by decide, by decide⟩ | exact ⟨by omega, by omega⟩ : CDiv _ _), ?_⟩
  | refine ⟨_, _, rfl, rfl, (by exact ⟨by decide, by decide, by decide⟩ : CPow _ _), ?_⟩
  | refine ⟨_, _, rfl, rfl, ?_⟩
  | refine ⟨(by rfl : scal _ _ = true), ?_⟩
  | refine Or.inl ⟨_, rfl, ?_⟩
  | refine ⟨_, _, rfl, fun m m0 m1 m2 => ?_⟩
  | refine ⟨_, _, _, _, rfl, rfl, SqL.of (by first | assumption | exact upd_same | exact fx _ | exact fy _), rfl, ?_⟩
  | refine ⟨_, _, _, _, rfl, rfl, (by first | assumption | exact upd_same | exact fx _ | exact fy _), rfl, ?_⟩
  | refine ⟨_, _, _, _, rfl, rfl, SqT.of (by first | assumption | exact upd_same | exact fx _ | exact fy _), rfl, ?_⟩
  | refine ⟨(szle (by omega) : Str.length _ ≤ sizeLine), ?_⟩
  | refine ⟨(szle (by first | omega | (rw [sla]; omega) | (rw [sla, sla]; omega)) : Str.length _ + Str.length _ ≤ sizeLine), ?_⟩
  | refine ⟨_, _, rfl, len_lst (by first | assumption | exact upd_same | exact fx _ | exact fy _), ?_⟩))
set_option hygiene false in
local macro_rules | `(tactic| walk_at "if") => `(tactic| (refine ite2 (fun hc => ?_) (fun hc => ?_) <;>
  simp only [decide_eq_true_eq, Bool.not_eq_true', decide_eq_false_iff_not, V.int.injEq, V.str.injEq, V.bl.injEq, Decidable.not_not, Bool.not_eq_true, V.int_ne, Int.not_lt, Int.not_le, Bool.true_eq_false, Bool.false_eq_true, not_true_eq_false, not_false_eq_true] at hc))
set_option hygiene false in
local macro_rules | `(tactic| walk_at "new") => `(tactic| (refine ⟨by first | decide | (simp only [List.length_cons, List.length_nil, List.length_append, List.length_map]; first | decide | (rw [sizeLine_eq]; omega)), fun p np => ?_⟩))
set_option hygiene false in
local macro_rules | `(tactic| walk_at "yes") => `(tactic| refine itY (by first | rfl | exact decide_eq_true (by first | rfl | omega | assumption) | (simp only [decide_eq_true_eq, Bool.not_eq_true', decide_eq_false_iff_not, V.int.injEq, V.str.injEq, V.bl.injEq]; first | omega | assumption)) ?_)
set_option hygiene false in
local macro_rules | `(tactic| walk_at "no") => `(tactic| refine itN (by first | decide | (simp only [decide_eq_true_eq, Bool.not_eq_true', decide_eq_false_iff_not, V.int.injEq, V.str.injEq, V.bl.injEq, Bool.not_eq_true, Decidable.not_not]; first | omega | assumption)) ?_)
def sp_isGrowth (K : PySem.W.Frag) : Sp := fun vs H Q _ => ∃ (m : Addr) (v : V) (M : Parts) (d : PyData), vs = [.ref m, v] ∧ MA K H m M ∧ PV M ∧ DA H v d ∧ Ld d ∧
  ∀ H' (r : Bool), Same H H' → (r = true ↔ Grow M d) → Q (.bl r) H'
def N_is_growth : List Str := ["machine", "paper", "first", "second", "at", "size", "useful", "way", "last", "before", "loop", "other_before", "other_loop"]
theorem sc_is_growth : FnScope N_is_growth ["machine", "paper"] (defScope (top 46)) := ⟨rfl, rfl, rfl, by decide +kernel, rfl, by decide +kernel, by decide +kernel⟩
theorem ok_is_growth (En : Env K mg fas fns prs) : Ok P w K mg base "is_growth" 5 ["machine", "paper"] (sp_isGrowth K) := by
  refine ok_mk 28 46 En sc_is_growth (fun _ _ _ _ _ _ us hl => match us, hl with | [_, _], _ => rfl) (fun vs H Q E h => ?_) (fun f cdv A outer s H vs Q E hr h => ?_)
  · obtain ⟨m, v, M, d, rfl, _⟩ := h
    rfl
  · obtain ⟨m, v, M, d, rfl, hM, hPV, jd, Lb, k⟩ := h
    have no : (¬ Grow M d) → ∀ H', Same H H' → Q (.bl false) H' := fun h H' s => k _ _ s ⟨fun q => (nomatch q), fun q => absurd q h⟩
    refine ⟨_, (pss_cons
        (ps_if (PW.pt (pw_or (pt_not (pt_val (pe_callB (call_isiK2 (K := K) rfl) (by rfl) (fr_isinstance En) bt_isinstance (pa_cons (pv 1) (pa_cons (pe_bltn (v := .ty "tuple") (by rfl) (fr_tuple En) bt_tuple rfl) pa_nil))))) (pw_or1 (pt_cmpR op_ne (pe_callB (call_lenK (K := K) rfl) (by rfl) (fr_len En) bt_len (pa_cons (pv 1) pa_nil)) pe_int (nomark _))))) (pss_one (ps_ret pe_bl)) pss_nil)
      (pss_cons
        (ps_asg (pv 1) (pg_tup rfl (pgs_cons (pg_name (i := 2) sc_is_growth.nd rfl (Or.inl rfl)) (pgs_cons (pg_name (i := 3) sc_is_growth.nd rfl (Or.inl rfl)) (pgs_cons (pg_name (i := 4) sc_is_growth.nd rfl (Or.inl rfl)) pgs_nil)))))
      (pss_cons
        (ps_if (PW.pt (pw_or (pt_not (pt_val (pe_fn (ok_is_way En) (hr.mono (by decide)) (pa_cons (pv 0) (pa_cons (pv 2) pa_nil))))) (pw_or (pt_not (pt_val (pe_fn (ok_is_way En) (hr.mono (by decide)) (pa_cons (pv 0) (pa_cons (pv 3) pa_nil))))) (pw_or1 (pt_not (pt_val (pe_fn (ok_is_integer En) (hr.mono (by decide)) (pa_cons (pv 4) pa_nil)))))))) (pss_one (ps_ret pe_bl)) pss_nil)
      (pss_cons
        (ps_set (i := 5) sc_is_growth.nd rfl (Or.inl rfl) (pe_callB (call_lenK (K := K) rfl) (by rfl) (fr_len En) bt_len (pa_cons (pe_ix (ix_tupK (K := K) rfl) (pv 2) pe_int (fun _ _ => rfl)) pa_nil)))
      (pss_cons
        (ps_if (PW.pt (pw_or (pt_cmpR op_ne (pe_callB (call_lenK (K := K) rfl) (by rfl) (fr_len En) bt_len (pa_cons (pe_ix (ix_tupK (K := K) rfl) (pv 3) pe_int (fun _ _ => rfl)) pa_nil)) (pv 5) (nomark _)) (pw_or (pt_not (pt_chain op_le op_lt pe_int (pv 4) (pv 5))) (pw_or1 (pt_cmpR op_ne (pe_fn (ok_read_of En) (hr.mono (by decide)) (pa_cons (pv 2) pa_nil)) (pe_fn (ok_read_of En) (hr.mono (by decide)) (pa_cons (pv 3) pa_nil)) (nomark _)))))) (pss_one (ps_ret pe_bl)) pss_nil)
      (pss_cons
        (ps_set (i := 6) sc_is_growth.nd rfl (Or.inl rfl) (pe_fn (ok_useful_states En) (hr.mono (by decide)) (pa_cons (pv 0) pa_nil)))
      (pss_cons
        (ps_for PassesOwn.never rfl (pi_tupK (K := K) rfl (pe_tup (pa_cons (pv 2) (pa_cons (pv 3) pa_nil)))) (pg_name (i := 7) sc_is_growth.nd rfl (Or.inl rfl)) (pss_cons
        (ps_set (i := 8) sc_is_growth.nd rfl (Or.inl rfl) (pe_fn (ok_state_at En) (hr.mono (by decide)) (pa_cons (pv 7) (pa_cons (pv 5) pa_nil))))
      (pss_one
        (ps_if (PW.pt (pw_or (pt_cmpR (op_notIn_seqK (K := K) rfl) (pv 8) (pv 6) rfl) (pw_or1 (pt_cmpR op_ne (pe_fn (ok_state_at En) (hr.mono (by decide)) (pa_cons (pv 7) (pa_cons (pv 4) pa_nil))) (pv 8) (nomark _))))) (pss_one (ps_ret pe_bl)) pss_nil))))
      (pss_cons
        (ps_asg (pe_fn (ok_written_by En) (hr.mono (by decide)) (pa_cons (pv 2) (pa_cons (pv 4) pa_nil))) (pg_tup rfl (pgs_cons (pg_name (i := 9) sc_is_growth.nd rfl (Or.inl rfl)) (pgs_cons (pg_name (i := 10) sc_is_growth.nd rfl (Or.inl rfl)) pgs_nil))))
      (pss_cons
        (ps_asg (pe_fn (ok_written_by En) (hr.mono (by decide)) (pa_cons (pv 3) (pa_cons (pv 4) pa_nil))) (pg_tup rfl (pgs_cons (pg_name (i := 11) sc_is_growth.nd rfl (Or.inl rfl)) (pgs_cons (pg_name (i := 12) sc_is_growth.nd rfl (Or.inl rfl)) pgs_nil))))
      (pss_one
        (ps_ret (pe_cmpR (op_neDK (K := K) rfl hr.units) (pe_fn (ok_lag_of En) (hr.mono (by decide)) (pa_cons (pv 9) (pa_cons (pv 11) pa_nil))) (pe_fn (ok_lag_of En) (hr.mono (by decide)) (pa_cons (pe_op op_add_str (pv 9) (pv 10)) (pa_cons (pe_op op_add_str (pv 11) (pv 12)) pa_nil))) (nomark _))))))))))))), ?_⟩
    walk_at "w"
    refine ⟨_, _, _, _, _, rfl, .ty _, jd.ty, k_tup jd, ?_⟩
    walk_at "w"
    cases ht : isTup d with
    | false =>
      walk_at "w"
      refine itY rfl ?_
      walk_at "w"
      exact no (fun ⟨p, q, _⟩ => by rw [q] at ht; cases ht) _ (Same.refl H)
    | true =>
      obtain ⟨ds, rfl⟩ : ∃ ds, d = .tuple ds := by cases d <;> first | exact ⟨_, rfl⟩ | cases ht
      obtain ⟨p, xs, rfl, hp, hx⟩ := jd.tup_inv
      have hxl := hx.len
      have hdl := Lb.tupLen
      walk_at "w"
      refine ⟨_, _, rfl, len_tup hp, ?_⟩
      walk_at "w"
      refine ite2 (fun hc => ?_) (fun hc => ?_)
      · walk_at "w"
        refine no ?_ _ (Same.refl H)
        rintro ⟨p, q, _⟩
        rw [hxl, PyData.tuple.inj q] at hc
        simp only [List.length_cons, List.length_nil] at hc
        exact absurd hc (by rw [decide_eq_true (by rfl)]; decide)
      · have h3 : xs.length = 3 := by
          simp only [decide_eq_true_eq, Decidable.not_not, V.int.injEq, Bool.not_eq_true', decide_eq_false_iff_not, ne_eq] at hc
          omega
        obtain ⟨v1, v2, v3, rfl⟩ := len3 h3
        obtain ⟨d1, d2, d3, rfl⟩ := len3 (hxl.symm.trans h3)
        obtain ⟨_, _, e, j1, hx⟩ := hx.cons_inv
        cases e
        obtain ⟨_, _, e, j2, hx⟩ := hx.cons_inv
        cases e
        obtain ⟨_, _, e, j3, _⟩ := hx.cons_inv
        cases e
        walk_at "w"
        refine ⟨p, [v1, v2, v3], rfl, SqT.of hp, rfl, _, _, rfl, _, _, rfl, _, _, rfl, rfl, ?_⟩
        walk_at "w"
        have w1 : ∀ {w : Way}, Ld (wayD w) → w.2.length ≤ 1000 := fun {w} h => by
          have := (h.tup (d := .list (w.2.map arcD)) (by simp)).lstLen
          rwa [List.length_map] at this
        refine ⟨m, v1, M, d1, rfl, hM, hPV, j1, Lb.tup (by simp), fun H1 r1 s1 hr1 => ?_⟩
        walk_at "w"
        cases r1 with
        | false =>
          walk_at "w"
          refine no ?_ _ s1
          rintro ⟨p, q, g⟩
          have q := PyData.tuple.inj q
          simp only [List.cons.injEq, and_true] at q
          exact absurd (hr1.mpr ⟨p.a, q.1, g.a⟩) (fun h => nomatch h)
        | true =>
          obtain ⟨wa, rfl, oka⟩ := hr1.mp rfl
          walk_at "w"
          refine ⟨m, v2, M, d2, rfl, hM.up s1, hPV, j2.up s1, Lb.tup (by simp), fun H2 r2 s2 hr2 => ?_⟩
          walk_at "w"
          cases r2 with
          | false =>
            walk_at "w"
            refine no ?_ _ (s1.trans s2)
            rintro ⟨p, q, g⟩
            have q := PyData.tuple.inj q
            simp only [List.cons.injEq, and_true] at q
            exact absurd (hr2.mpr ⟨p.b, q.2.1, g.b⟩) (fun h => nomatch h)
          | true =>
            obtain ⟨wb, rfl, okb⟩ := hr2.mp rfl
            have s02 := s1.trans s2
            walk_at "w"
            refine ⟨_, d3, rfl, j3.up s02, ?_⟩
            walk_at "w"
            cases hi : isInt d3 with
            | false =>
              refine itY rfl ?_
              walk_at "w"
              refine no ?_ _ s02
              rintro ⟨p, q, g⟩
              have q := PyData.tuple.inj q
              simp only [List.cons.injEq, and_true] at q
              rw [q.2.2] at hi
              cases hi
            | true =>
              refine itN (fun h => nomatch h) ?_
              obtain ⟨t, rfl⟩ : ∃ i, d3 = .int i := by cases d3 <;> first | exact ⟨_, rfl⟩ | cases hi
              obtain rfl := j3.int_inv
              have la := w1 (Lb.tup (d := wayD wa) (by simp))
              have lb := w1 (Lb.tup (d := wayD wb) (by simp))
              have no2 : (¬ GrowP M ⟨wa, wb, t⟩) → ∀ H', Same H H' → Q (.bl false) H' := fun h => no fun ⟨p, q, g⟩ => h (by rw [papD_inj (a := ⟨wa, wb, t⟩) q]; exact g)
              have k2 : ∀ H' r, Same H H' → (r = true ↔ GrowP M ⟨wa, wb, t⟩) → Q (.bl r) H' := fun H' r s h => k H' r s (h.trans ⟨fun g => ⟨_, rfl, g⟩, fun ⟨p, q, g⟩ => by rw [papD_inj (a := ⟨wa, wb, t⟩) q]; exact g⟩)
              clear no k hr1 hr2
              obtain ⟨pa, sa, qa, xa, rfl, hpa, hsa, hqa, ja⟩ := (j1.up s02).way_inv
              obtain ⟨pb, sb, qb, xb, rfl, hpb, hsb, hqb, jb⟩ := (j2.up s02).way_inv
              have lxa := ja.len
              have lxb := jb.len
              rw [List.length_map] at lxa lxb
              walk_at "w"
              walk_at "if"
              · walk_at "w"
                exact no2 (fun g => by have := g.len; exact hc (by rw [lxa, lxb]; exact congrArg Int.ofNat this)) _ s02
              have hlen : wb.2.length = wa.2.length := by omega
              walk_at "w"
              have ht : (0 ≤ t ∧ t < wa.2.length) ∨ ¬ (0 ≤ t ∧ t < wa.2.length) := Decidable.em _
              rcases ht with ht | ht
              rotate_left
              · have : ¬ GrowP M ⟨wa, wb, t⟩ := fun g => ht ⟨g.t0, g.t1⟩
                walk_at "if"
                · walk_at "w"
                  walk_at "yes"
                  walk_at "w"
                  exact no2 this _ s02
                · walk_at "w"
                  exact no2 this _ s02
              walk_at "yes"
              walk_at "w"
              walk_at "no"
              walk_at "w"
              have lt1 : ∀ {w : Way}, WayOk M w → ∀ a ∈ w.2, (tl a.2.1).length ≤ 1 := fun {w} g a ha => by
                obtain ⟨c, _, h⟩ := (hPV.as a (chain_mem g.2 a ha)).2.1
                rw [h]
                exact Nat.le_refl 1
              refine ⟨_, wa, rfl, j1.up s02, by omega, lt1 oka, fun ra H3 s3 era => ?_⟩
              walk_at "w"
              refine ⟨_, wb, rfl, (j2.up s02).up s3, by omega, lt1 okb, fun rb H4 s4 erb => ?_⟩
              walk_at "w"
              have s04 := (s02.trans s3).trans s4
              walk_at "if"
              · walk_at "w"
                exact no2 (fun g => hc (tl_ext (by rw [era, erb]; exact g.read))) _ s04
              have hread : readL wa = readL wb := by rw [← era, ← erb, hc]
              walk_at "w"
              refine ⟨m, M, rfl, hM.up s04, hPV, fun U H5 us s5 hU hul hus => ?_⟩
              walk_at "w"
              refine ⟨szr rfl, fun S nS => ?_⟩
              have s6 := Same.new (o := .tup [.ref pa, .ref pb]) nS
              have hS : upd H5 S (.tup [.ref pa, .ref pb]) S = _ := upd_same
              have hU6 := s6 _ _ hU
              have s06 := (s04.trans s5).trans s6
              have ja6 := j1.up s06
              have jb6 := j2.up s06
              generalize upd H5 S (.tup [.ref pa, .ref pb]) = H6 at *
              clear hpa hsa hqa hpb hsb hqb ja jb
              walk_at "w"
              refine ⟨⟨_, SqT.of hS⟩, for_tup (xs := [.ref pa, .ref pb]) (fun i σ H' => ∃ (x y : Option V), σ = [some (.ref m), some (.ref p), some (.ref pa), some (.ref pb), some (.int t), some (.int xa.length), some (.ref U), x, y, none, none, none, none] ∧ H' = H6 ∧ ∀ j < i, EndOk M (WayOf ⟨wa, wb, t⟩ j) t) ?_ ?_ ?_ ?_⟩
              · exact ⟨_, _, rfl, rfl, fun j h => absurd h (Nat.not_lt_zero _)⟩
              · rintro i σ H' hi ⟨x, y, rfl, rfl, g⟩
                exact SqT.of hS
              · rintro i v σ H' hi ⟨x, y, rfl, rfl, g⟩
                obtain ⟨hi2, jx, lx⟩ : i < 2 ∧ DA H' v (wayD (WayOf ⟨wa, wb, t⟩ i)) ∧ (WayOf ⟨wa, wb, t⟩ i).2.length = wa.2.length := by
                  match i, hi with
                  | 0, hi => cases hi; exact ⟨by decide, ja6, rfl⟩
                  | 1, hi => cases hi; exact ⟨by decide, jb6, hlen⟩
                  | n + 2, hi => simp at hi
                have ge : GrowP M ⟨wa, wb, t⟩ → EndOk M (WayOf ⟨wa, wb, t⟩ i) t := fun g => g.e i
                have gn : EndOk M (WayOf ⟨wa, wb, t⟩ i) t → ∀ j < i + 1, EndOk M (WayOf ⟨wa, wb, t⟩ j) t := fun h j hj => by
                  by_cases e : j = i
                  · rw [e]; exact h
                  · exact g j (by omega)
                generalize WayOf ⟨wa, wb, t⟩ i = wi at *
                walk_at "w"
                refine ⟨_, wi, _, rfl, jx, by omega, by omega, by omega, ?_⟩
                rw [Int.toNat_natCast, List.take_of_length_le (by omega)]
                walk_at "w"
                refine ⟨U, us.map V.int, rfl, .inl (SqL.of hU6), rfl, by simp [flatV], ?_⟩
                walk_at "w"
                rw [niV_ints]
                walk_at "if"
                · walk_at "w"
                  exact no2 (fun g => hc ((hus _).mpr (ge g).1)) _ s06
                have hu := (hus _).mp hc
                walk_at "w"
                refine ⟨_, wi, t, rfl, jx, ht.1, by omega, by omega, ?_⟩
                walk_at "w"
                walk_at "if"
                · walk_at "w"
                  exact no2 (fun g => hc (ge g).2) _ s06
                · walk_at "w"
                  exact gn ⟨hu, hc⟩
              · rintro σ H' ⟨x, y, rfl, rfl, g⟩
                have b1 : ∀ {w : Way}, WayOk M w → (tl w.1.2).length ≤ 50 := fun {w} g => (hPV.bs w.1 g.1).2.2.1
                have b2 : ∀ {w : Way}, WayOk M w → ∀ a ∈ w.2, (tl a.2.2.1).length ≤ 50 := fun {w} g a ha => (hPV.as a (chain_mem g.2 a ha)).2.2.1.1
                walk_at "w"
                refine ⟨_, wa, t, rfl, ja6, ht.1, by omega, b1 oka, b2 oka, fun p1 H7 a1 a2 s7 hp1 ea1 ea2 => ?_⟩
                refine ⟨p1, _, rfl, SqT.of hp1, rfl, _, _, rfl, _, _, rfl, rfl, ?_⟩
                walk_at "w"
                refine ⟨_, wb, t, rfl, jb6.up s7, ht.1, by omega, b1 okb, b2 okb, fun p2 H8 c1 c2 s8 hp2 ec1 ec2 => ?_⟩
                refine ⟨p2, _, rfl, SqT.of hp2, rfl, _, _, rfl, _, _, rfl, rfl, ?_⟩
                have la0 := wrW_len hPV oka (by omega) t.toNat
                have lb0 := wrW_len hPV okb (by omega) t.toNat
                have la1 := wrW_len hPV oka (by omega) wa.2.length
                have lb1 := wrW_len hPV okb (by omega) wb.2.length
                have xa1 : tl a1 = wrW wa t.toNat := ea1
                have xc1 : tl c1 = wrW wb t.toNat := ec1
                have cat : ∀ {w : Way} {x y : Str}, tl x = wrW w t.toNat → tl y = wrL (w.2.drop t.toNat) → tl (x ++ y) = wrW w w.2.length := fun {w x y} h g => by
                  rw [tl_append, h, g]
                  unfold wrW wrL
                  rw [List.append_assoc, ← List.flatten_append, ← List.map_append, List.take_append_drop, List.take_length]
                have xa2 := cat xa1 ea2
                have xc2 := cat xc1 ec2
                have z2 : a1.length + a2.length ≤ sizeLine := szle (by rw [← sla, tl_len, xa2]; omega)
                have z3 : c1.length + c2.length ≤ sizeLine := szle (by rw [← sla, tl_len, xc2]; omega)
                walk_at "w"
                refine ⟨a1, c1, rfl, by rw [xa1]; omega, by rw [xc1]; omega, fun p3 H9 u1 u2 s9 eu1 eu2 hp3 => ?_⟩
                walk_at "w"
                refine ⟨z2, ?_⟩
                walk_at "w"
                refine ⟨z3, ?_⟩
                walk_at "w"
                refine ⟨a1 ++ a2, c1 ++ c2, rfl, by rw [xa2]; omega, by rw [xc2]; omega, fun p4 H10 u3 u4 s10 eu3 eu4 hp4 => ?_⟩
                have ok1 : ∀ {w : Way} {n m : Nat} {u : Str}, WayOk M w → tl u = (wrW w n).drop m → PyData.strOk u = true := fun {w n m u} g e => strOk_of fun c hc => wrW_mem hPV g (by rw [e] at hc; exact List.mem_of_mem_drop hc)
                rw [xa1, xc1] at eu1 eu2
                rw [xa2, xc2] at eu3 eu4
                refine ⟨.tuple [.str u1, .str u2], .tuple [.str u3, .str u4], .tup (SqT.of (s10 _ _ hp3)) (.cons (.str _) (.cons (.str _) .nil)), .tup (SqT.of hp4) (.cons (.str _) (.cons (.str _) .nil)), lag_shaped (ok1 oka eu1) (ok1 okb eu2), lag_shaped (ok1 oka eu3) (ok1 okb eu4), ?_⟩
                have s010 := (((s06.trans s7).trans s8).trans s9).trans s10
                refine k2 _ _ s010 ?_
                rw [lag_ne eu1 eu2 eu3 eu4]
                exact ⟨fun h => ⟨oka, okb, hlen, ht.1, ht.2, hread, g 0 (by show 0 < 2; decide), g 1 (by show 1 < 2; decide), h⟩, fun g => g.lag⟩
end
end GJ


set_option Elab.async false
set_option linter.all false
set_option maxRecDepth 100000
set_option maxHeartbeats 4000000
namespace GJ
open PySem PySem.Spec PyProof.Rows L2 TL
set_option pp.maxSteps 300
/-- data with no items -/
def isFl : PyData → Bool
  | .none => true
  | .bool _ => true
  | .int _ => true
  | .str _ => true
  | _ => false
theorem Ld.fl {d : PyData} (h : Ld d) (g : isFl d = true) : SeqAt.shaped d = true := by
  cases d <;> first | cases g | skip
  · rfl
  · rfl
  · rfl
  · simp [SeqAt.shaped, PyData.canLay0, PyData.depth, h.str.1]
section
variable {P : Program} {w : World} {K : PySem.W.Frag} {mg : Str → Option Value} {base : Heap}
set_option hygiene false in
local macro_rules | `(tactic| walk_at "w") => `(tactic| repeat (first
  | refine ⟨_, rfl, ?_⟩
  | refine ⟨_, _, rfl, rfl, (by first | decide | omega), fun r r0 r1 re => ?_⟩
  | refine ⟨_, _, rfl, rfl, (by first | exact Or.inl ⟨by omega, by omega⟩ | exact Or.inr ⟨by omega, by omega⟩ : CMul _ _), ?_⟩
  | refine ⟨_, _, rfl, rfl, (by first | exact ⟨by decide, by decide⟩ | exact ⟨by omega, by omega⟩ : CDiv _ _), ?_⟩
  | refine ⟨_, _, rfl, rfl, (by exact ⟨by decide, by decide, by decide⟩ : CPow _ _), ?_⟩
  | refine ⟨_, _, rfl, rfl, ?_⟩
  | refine ⟨(by rfl : scal _ _ = true), ?_⟩
  | refine Or.inl ⟨_, rfl, ?_⟩
  | refine ⟨_, _, rfl, fun m m0 m1 m2 => ?_⟩
  | refine ⟨_, _, _, _, rfl, rfl, SqL.of (by first | assumption | exact upd_same | exact fx _ | exact fy _), rfl, ?_⟩
  | refine ⟨_, _, _, _, rfl, rfl, (by first | assumption | exact upd_same | exact fx _ | exact fy _), rfl, ?_⟩
  | refine ⟨_, _, _, _, rfl, rfl, SqT.of (by first | assumption | exact upd_same | exact fx _ | exact fy _), rfl, ?_⟩
  | refine ⟨(szle (by omega) : Str.length _ ≤ sizeLine), ?_⟩
  | refine ⟨(szle (by first | omega | (rw [sla]; omega) | (rw [sla, sla]; omega)) : Str.length _ + Str.length _ ≤ sizeLine), ?_⟩
  | refine ⟨_, _, rfl, len_lst (by first | assumption | exact upd_same | exact fx _ | exact fy _), ?_⟩))
set_option hygiene false in
local macro_rules | `(tactic| walk_at "if") => `(tactic| (refine ite2 (fun hc => ?_) (fun hc => ?_) <;>
  simp only [decide_eq_true_eq, Bool.not_eq_true', decide_eq_false_iff_not, V.int.injEq, V.str.injEq, V.bl.injEq, Decidable.not_not, Bool.not_eq_true, V.int_ne, Int.not_lt, Int.not_le, Bool.true_eq_false, Bool.false_eq_true, not_true_eq_false, not_false_eq_true] at hc))
set_option hygiene false in
local macro_rules | `(tactic| walk_at "new") => `(tactic| (refine ⟨by first | decide | (simp only [List.length_cons, List.length_nil, List.length_append, List.length_map]; first | decide | (rw [sizeLine_eq]; omega)), fun p np => ?_⟩))
set_option hygiene false in
local macro_rules | `(tactic| walk_at "yes") => `(tactic| refine itY (by first | rfl | exact decide_eq_true (by first | rfl | omega | assumption) | (simp only [decide_eq_true_eq, Bool.not_eq_true', decide_eq_false_iff_not, V.int.injEq, V.str.injEq, V.bl.injEq]; first | omega | assumption)) ?_)
set_option hygiene false in
local macro_rules | `(tactic| walk_at "no") => `(tactic| refine itN (by first | decide | (simp only [decide_eq_true_eq, Bool.not_eq_true', decide_eq_false_iff_not, V.int.injEq, V.str.injEq, V.bl.injEq, Bool.not_eq_true, Decidable.not_not]; first | omega | assumption)) ?_)
def N__law_same : List Str := ["_law_actual", "_law_expected", "_law_k"]
theorem sc__law_same : FnScope N__law_same ["_law_actual", "_law_expected"] (defScope (top 68)) := ⟨rfl, rfl, rfl, by decide +kernel, rfl, by decide +kernel, by decide +kernel⟩
theorem ok_sameN (En : Env K mg fas fns prs) : Ok P w K mg base "_law_same" 1 ["_law_actual", "_law_expected"] (fun _ _ _ _ => False) := by
  refine ok_mk 49 68 En sc__law_same (fun _ _ _ _ _ _ us hl => match us, hl with | [_, _], _ => rfl) (fun vs H Q E h => h.elim) (fun f cdv A outer s H vs Q E hr h => h.elim)
def sp_same0 : Sp := fun vs H Q _ => ∃ (v u : V) (d e : PyData), vs = [v, u] ∧ DA H v d ∧ DA H u e ∧ Ld d ∧ Ld e ∧ isFl e = true ∧ ∀ r : Bool, (r = true ↔ d = e) → Q (.bl r) H
theorem ok_same0 (En : Env K mg fas fns prs) : Ok P w K mg base "_law_same" 2 ["_law_actual", "_law_expected"] sp_same0 := by
  have O__law_same := ok_sameN (P := P) (w := w) (base := base) En
  refine ok_mk 49 68 En sc__law_same (fun _ _ _ _ _ _ us hl => match us, hl with | [_, _], _ => rfl) (fun vs H Q E h => ?_) (fun f cdv A outer s H vs Q E hr h => ?_)
  · obtain ⟨v, u, d, e, rfl, _⟩ := h
    rfl
  · obtain ⟨v, u, d, e, rfl, jd, je, Lb, Le, fe, k⟩ := h
    refine ⟨_, (pss_cons
        (ps_if (pt_cmp (pc_isN (pv 1))) (pss_one (ps_ret (pe_cmp (pc_isN (pv 0))))) pss_nil)
      (pss_cons
        (ps_if (pt_val (pe_callB (call_isiK2 (K := K) rfl) (by rfl) (fr_isinstance En) bt_isinstance (pa_cons (pv 1) (pa_cons (pe_bltn (v := .ty "bool") (by rfl) (fr_bool En) bt_bool rfl) pa_nil)))) (pss_one (ps_ret (pe_and (pe_callB (call_isiK2 (K := K) rfl) (by rfl) (fr_isinstance En) bt_isinstance (pa_cons (pv 0) (pa_cons (pe_bltn (v := .ty "bool") (by rfl) (fr_bool En) bt_bool rfl) pa_nil))) (pe_one (pe_cmpR (op_eqDK (K := K) rfl hr.units) (pv 0) (pv 1) (nomark _)))))) pss_nil)
      (pss_cons
        (ps_if (pt_val (pe_callB (call_isiK2 (K := K) rfl) (by rfl) (fr_isinstance En) bt_isinstance (pa_cons (pv 1) (pa_cons (pe_bltn (v := .ty "int") (by rfl) (fr_int En) bt_int rfl) pa_nil)))) (pss_one (ps_ret (pe_and (pe_callB (call_isiK2 (K := K) rfl) (by rfl) (fr_isinstance En) bt_isinstance (pa_cons (pv 0) (pa_cons (pe_bltn (v := .ty "int") (by rfl) (fr_int En) bt_int rfl) pa_nil))) (pe_and (pe_not (pe_callB (call_isiK2 (K := K) rfl) (by rfl) (fr_isinstance En) bt_isinstance (pa_cons (pv 0) (pa_cons (pe_bltn (v := .ty "bool") (by rfl) (fr_bool En) bt_bool rfl) pa_nil)))) (pe_one (pe_cmpR (op_eqDK (K := K) rfl hr.units) (pv 0) (pv 1) (nomark _))))))) pss_nil)
      (pss_cons
        (ps_if (pt_val (pe_callB (call_isiK2 (K := K) rfl) (by rfl) (fr_isinstance En) bt_isinstance (pa_cons (pv 1) (pa_cons (pe_bltn (v := .ty "str") (by rfl) (fr_str En) bt_str rfl) pa_nil)))) (pss_one (ps_ret (pe_and (pe_callB (call_isiK2 (K := K) rfl) (by rfl) (fr_isinstance En) bt_isinstance (pa_cons (pv 0) (pa_cons (pe_bltn (v := .ty "str") (by rfl) (fr_str En) bt_str rfl) pa_nil))) (pe_one (pe_cmpR (op_eqDK (K := K) rfl hr.units) (pv 0) (pv 1) (nomark _)))))) pss_nil)
      (pss_cons
        (ps_if (pt_val (pe_callB (call_isiK2 (K := K) rfl) (by rfl) (fr_isinstance En) bt_isinstance (pa_cons (pv 1) (pa_cons (pe_bltn (v := .ty "tuple") (by rfl) (fr_tuple En) bt_tuple rfl) pa_nil)))) (pss_one (ps_if (pt_not (pt_val (pe_callB (call_isiK2 (K := K) rfl) (by rfl) (fr_isinstance En) bt_isinstance (pa_cons (pv 0) (pa_cons (pe_bltn (v := .ty "tuple") (by rfl) (fr_tuple En) bt_tuple rfl) pa_nil))))) (pss_one (ps_ret pe_bl)) pss_nil)) (pss_one (ps_if (PW.pt (pw_or (pt_not (pt_val (pe_callB (call_isiK2 (K := K) rfl) (by rfl) (fr_isinstance En) bt_isinstance (pa_cons (pv 0) (pa_cons (pe_bltn (v := .ty "list") (by rfl) (fr_list En) bt_list rfl) pa_nil))))) (pw_or1 (pt_not (pt_val (pe_callB (call_isiK2 (K := K) rfl) (by rfl) (fr_isinstance En) bt_isinstance (pa_cons (pv 1) (pa_cons (pe_bltn (v := .ty "list") (by rfl) (fr_list En) bt_list rfl) pa_nil)))))))) (pss_one (ps_ret pe_bl)) pss_nil)))
      (pss_cons
        (ps_if (pt_cmpR op_ne (pe_callB (call_lenK (K := K) rfl) (by rfl) (fr_len En) bt_len (pa_cons (pv 0) pa_nil)) (pe_callB (call_lenK (K := K) rfl) (by rfl) (fr_len En) bt_len (pa_cons (pv 1) pa_nil)) (nomark _)) (pss_one (ps_ret pe_bl)) pss_nil)
      (pss_cons
        (ps_for PassesOwn.never rfl (pi_range1 rfl (fr_range En) (pa_cons (pe_callB (call_lenK (K := K) rfl) (by rfl) (fr_len En) bt_len (pa_cons (pv 1) pa_nil)) pa_nil)) (pg_name (i := 2) sc__law_same.nd rfl (Or.inl rfl)) (pss_one (ps_if (pt_not (pt_val (pe_fn O__law_same (hr.mono (by decide)) (pa_cons (pe_ix (ix_seqK (K := K) rfl) (pv 0) (pv 2) (fun _ _ => rfl)) (pa_cons (pe_ix (ix_seqK (K := K) rfl) (pv 1) (pv 2) (fun _ _ => rfl)) pa_nil))))) (pss_one (ps_ret pe_bl)) pss_nil)))
      (pss_one
        (ps_ret pe_bl))))))))), ?_⟩
    walk_at "w"
    cases e with
    | none =>
      cases je
      walk_at "w"
      refine k _ ?_
      cases jd <;> simp
    | bool b =>
      cases je
      have hu : DA H (.bl b) (.bool b) := .bl b
      walk_at "w"
      refine ⟨_, _, _, _, _, rfl, .ty _, hu.ty, k_bool hu, ?_⟩
      walk_at "w"
      refine ⟨_, _, _, _, _, rfl, .ty _, jd.ty, k_bool jd, ?_⟩
      walk_at "w"
      cases hb : isBool d with
      | false =>
        refine iteF ?_
        walk_at "w"
        exact k false ⟨fun h => (nomatch h), fun h => by rw [h] at hb; cases hb⟩
      | true =>
        refine iteT ?_
        walk_at "w"
        obtain ⟨c, rfl⟩ : ∃ c, d = .bool c := by cases d <;> first | exact ⟨_, rfl⟩ | cases hb
        refine ⟨_, _, jd.dp _, hu.dp _, Lb.fl rfl, Le.fl rfl, ?_⟩
        exact k _ (by simp [PyData.eqv])
    | int b =>
      cases je
      have hu : DA H (.int b) (.int b) := .int b
      walk_at "w"
      refine ⟨_, _, _, _, _, rfl, .ty _, hu.ty, k_bool hu, ?_⟩
      walk_at "w"
      refine ⟨_, _, _, _, _, rfl, .ty _, hu.ty, k_int hu, ?_⟩
      walk_at "w"
      refine ⟨_, _, _, _, _, rfl, .ty _, jd.ty, k_int jd, ?_⟩
      walk_at "w"
      cases hb : isIntB d with
      | false =>
        refine iteF ?_
        walk_at "w"
        exact k false ⟨fun h => (nomatch h), fun h => by rw [h] at hb; cases hb⟩
      | true =>
        refine iteT ?_
        walk_at "w"
        refine ⟨_, _, _, _, _, rfl, .ty _, jd.ty, k_bool jd, ?_⟩
        walk_at "w"
        cases hb2 : isBool d with
        | true =>
          refine iteF ?_
          exact k false ⟨fun h => (nomatch h), fun h => by rw [h] at hb2; cases hb2⟩
        | false =>
          refine iteT ?_
          walk_at "w"
          obtain ⟨c, rfl⟩ : ∃ c, d = .int c := by cases d <;> first | exact ⟨_, rfl⟩ | (cases hb; done) | (cases hb2; done)
          refine ⟨_, _, jd.dp _, hu.dp _, Lb.fl rfl, Le.fl rfl, ?_⟩
          exact k _ (by simp [PyData.eqv])
    | str b =>
      cases je
      have hu : DA H (.str b) (.str b) := .str b
      walk_at "w"
      refine ⟨_, _, _, _, _, rfl, .ty _, hu.ty, k_bool hu, ?_⟩
      walk_at "w"
      refine ⟨_, _, _, _, _, rfl, .ty _, hu.ty, k_int hu, ?_⟩
      walk_at "w"
      refine ⟨_, _, _, _, _, rfl, .ty _, hu.ty, k_str hu, ?_⟩
      walk_at "w"
      refine ⟨_, _, _, _, _, rfl, .ty _, jd.ty, k_str jd, ?_⟩
      walk_at "w"
      cases hb : isStr d with
      | false =>
        refine iteF ?_
        walk_at "w"
        exact k false ⟨fun h => (nomatch h), fun h => by rw [h] at hb; cases hb⟩
      | true =>
        refine iteT ?_
        walk_at "w"
        obtain ⟨c, rfl⟩ : ∃ c, d = .str c := by cases d <;> first | exact ⟨_, rfl⟩ | cases hb
        refine ⟨_, _, jd.dp _, hu.dp _, Lb.fl rfl, Le.fl rfl, ?_⟩
        exact k _ (by simp [PyData.eqv])
    | list b => cases fe
    | tuple b => cases fe
    | dict b => cases fe
theorem DAs.at {H : Hp} {vs : List V} {ds : List PyData} {i : Nat} (h : DAs H vs ds) (hi : i < ds.length) : ∃ v, vs[i]? = some v ∧ DA H v (ds[i]'hi) := h.getD (List.getElem?_eq_getElem hi)
def sp_same : Sp := fun vs H Q _ => ∃ (v u : V) (d : PyData) (es : List PyData), vs = [v, u] ∧ DA H v d ∧ DA H u (.tuple es) ∧ Ld d ∧ Ld (.tuple es) ∧ (∀ e ∈ es, isFl e = true) ∧ ∀ r : Bool, (r = true ↔ d = .tuple es) → Q (.bl r) H
theorem ok__law_same (En : Env K mg fas fns prs) : Ok P w K mg base "_law_same" 3 ["_law_actual", "_law_expected"] sp_same := by
  have O__law_same := ok_same0 (P := P) (w := w) (base := base) En
  refine ok_mk 49 68 En sc__law_same (fun _ _ _ _ _ _ us hl => match us, hl with | [_, _], _ => rfl) (fun vs H Q E h => ?_) (fun f cdv A outer s H vs Q E hr h => ?_)
  · obtain ⟨v, u, d, e, rfl, _⟩ := h
    rfl
  · obtain ⟨v, u, d, es, rfl, jd, je, Lb, Le, fe, k⟩ := h
    have hu := je
    obtain ⟨pu, ys, rfl, hpu, jy⟩ := je.tup_inv
    refine ⟨_, (pss_cons
        (ps_if (pt_cmp (pc_isN (pv 1))) (pss_one (ps_ret (pe_cmp (pc_isN (pv 0))))) pss_nil)
      (pss_cons
        (ps_if (pt_val (pe_callB (call_isiK2 (K := K) rfl) (by rfl) (fr_isinstance En) bt_isinstance (pa_cons (pv 1) (pa_cons (pe_bltn (v := .ty "bool") (by rfl) (fr_bool En) bt_bool rfl) pa_nil)))) (pss_one (ps_ret (pe_and (pe_callB (call_isiK2 (K := K) rfl) (by rfl) (fr_isinstance En) bt_isinstance (pa_cons (pv 0) (pa_cons (pe_bltn (v := .ty "bool") (by rfl) (fr_bool En) bt_bool rfl) pa_nil))) (pe_one (pe_cmpR (op_eqDK (K := K) rfl hr.units) (pv 0) (pv 1) (nomark _)))))) pss_nil)
      (pss_cons
        (ps_if (pt_val (pe_callB (call_isiK2 (K := K) rfl) (by rfl) (fr_isinstance En) bt_isinstance (pa_cons (pv 1) (pa_cons (pe_bltn (v := .ty "int") (by rfl) (fr_int En) bt_int rfl) pa_nil)))) (pss_one (ps_ret (pe_and (pe_callB (call_isiK2 (K := K) rfl) (by rfl) (fr_isinstance En) bt_isinstance (pa_cons (pv 0) (pa_cons (pe_bltn (v := .ty "int") (by rfl) (fr_int En) bt_int rfl) pa_nil))) (pe_and (pe_not (pe_callB (call_isiK2 (K := K) rfl) (by rfl) (fr_isinstance En) bt_isinstance (pa_cons (pv 0) (pa_cons (pe_bltn (v := .ty "bool") (by rfl) (fr_bool En) bt_bool rfl) pa_nil)))) (pe_one (pe_cmpR (op_eqDK (K := K) rfl hr.units) (pv 0) (pv 1) (nomark _))))))) pss_nil)
      (pss_cons
        (ps_if (pt_val (pe_callB (call_isiK2 (K := K) rfl) (by rfl) (fr_isinstance En) bt_isinstance (pa_cons (pv 1) (pa_cons (pe_bltn (v := .ty "str") (by rfl) (fr_str En) bt_str rfl) pa_nil)))) (pss_one (ps_ret (pe_and (pe_callB (call_isiK2 (K := K) rfl) (by rfl) (fr_isinstance En) bt_isinstance (pa_cons (pv 0) (pa_cons (pe_bltn (v := .ty "str") (by rfl) (fr_str En) bt_str rfl) pa_nil))) (pe_one (pe_cmpR (op_eqDK (K := K) rfl hr.units) (pv 0) (pv 1) (nomark _)))))) pss_nil)
      (pss_cons
        (ps_if (pt_val (pe_callB (call_isiK2 (K := K) rfl) (by rfl) (fr_isinstance En) bt_isinstance (pa_cons (pv 1) (pa_cons (pe_bltn (v := .ty "tuple") (by rfl) (fr_tuple En) bt_tuple rfl) pa_nil)))) (pss_one (ps_if (pt_not (pt_val (pe_callB (call_isiK2 (K := K) rfl) (by rfl) (fr_isinstance En) bt_isinstance (pa_cons (pv 0) (pa_cons (pe_bltn (v := .ty "tuple") (by rfl) (fr_tuple En) bt_tuple rfl) pa_nil))))) (pss_one (ps_ret pe_bl)) pss_nil)) (pss_one (ps_if (PW.pt (pw_or (pt_not (pt_val (pe_callB (call_isiK2 (K := K) rfl) (by rfl) (fr_isinstance En) bt_isinstance (pa_cons (pv 0) (pa_cons (pe_bltn (v := .ty "list") (by rfl) (fr_list En) bt_list rfl) pa_nil))))) (pw_or1 (pt_not (pt_val (pe_callB (call_isiK2 (K := K) rfl) (by rfl) (fr_isinstance En) bt_isinstance (pa_cons (pv 1) (pa_cons (pe_bltn (v := .ty "list") (by rfl) (fr_list En) bt_list rfl) pa_nil)))))))) (pss_one (ps_ret pe_bl)) pss_nil)))
      (pss_cons
        (ps_if (pt_cmpR op_ne (pe_callB (call_lenK (K := K) rfl) (by rfl) (fr_len En) bt_len (pa_cons (pv 0) pa_nil)) (pe_callB (call_lenK (K := K) rfl) (by rfl) (fr_len En) bt_len (pa_cons (pv 1) pa_nil)) (nomark _)) (pss_one (ps_ret pe_bl)) pss_nil)
      (pss_cons
        (ps_for PassesOwn.never rfl (pi_range1 rfl (fr_range En) (pa_cons (pe_callB (call_lenK (K := K) rfl) (by rfl) (fr_len En) bt_len (pa_cons (pv 1) pa_nil)) pa_nil)) (pg_name (i := 2) sc__law_same.nd rfl (Or.inl rfl)) (pss_one (ps_if (pt_not (pt_val (pe_fn O__law_same (hr.mono (by decide)) (pa_cons (pe_ix (ix_seqK (K := K) rfl) (pv 0) (pv 2) (fun _ _ => rfl)) (pa_cons (pe_ix (ix_seqK (K := K) rfl) (pv 1) (pv 2) (fun _ _ => rfl)) pa_nil))))) (pss_one (ps_ret pe_bl)) pss_nil)))
      (pss_one
        (ps_ret pe_bl))))))))), ?_⟩
    walk_at "w"
    refine ⟨_, _, _, _, _, rfl, .ty _, hu.ty, k_bool hu, ?_⟩
    walk_at "w"
    refine ⟨_, _, _, _, _, rfl, .ty _, hu.ty, k_int hu, ?_⟩
    walk_at "w"
    refine ⟨_, _, _, _, _, rfl, .ty _, hu.ty, k_str hu, ?_⟩
    walk_at "w"
    refine ⟨_, _, _, _, _, rfl, .ty _, hu.ty, k_tup hu, ?_⟩
    walk_at "w"
    refine ⟨_, _, _, _, _, rfl, .ty _, jd.ty, k_tup jd, ?_⟩
    walk_at "w"
    cases hb : isTup d with
    | false =>
      refine itY rfl ?_
      walk_at "w"
      exact k false ⟨fun h => (nomatch h), fun h => by rw [h] at hb; cases hb⟩
    | true =>
      refine itN (fun h => nomatch h) ?_
      obtain ⟨ds, rfl⟩ : ∃ c, d = .tuple c := by cases d <;> first | exact ⟨_, rfl⟩ | (cases hb; done)
      obtain ⟨pv, xs, rfl, hpv, jx⟩ := jd.tup_inv
      have lx := jx.len
      have ly := jy.len
      have ldx := Lb.tupLen
      have ldy := Le.tupLen
      walk_at "w"
      refine ⟨_, _, rfl, len_tup hpv, ?_⟩
      walk_at "w"
      refine ⟨_, _, rfl, len_tup hpu, ?_⟩
      walk_at "w"
      walk_at "if"
      · walk_at "w"
        exact k false ⟨fun h => (nomatch h), fun h => by
          rw [PyData.tuple.inj h] at lx
          exact absurd (show (xs.length : Int) = ys.length by omega) hc⟩
      have hl : ds.length = es.length := by omega
      walk_at "w"
      refine ⟨_, _, rfl, len_tup hpu, ?_⟩
      walk_at "w"
      refine ⟨by omega, by omega, for_range (lo := 0) (n := (ys.length : Int).toNat) (fun i σ H' => ∃ x, σ = [some (.ref pv), some (.ref pu), x] ∧ H' = H ∧ ds.take i = es.take i) ⟨_, rfl, rfl, rfl⟩ ?_ ?_⟩
      · rintro i σ H' hi ⟨x, rfl, rfl, g⟩
        obtain ⟨v1, a1, b1⟩ := jx.at (i := i) (by omega)
        obtain ⟨v2, a2, b2⟩ := jy.at (i := i) (by omega)
        have t1 : atI xs (0 + (i : Int)) = some v1 := by rw [Int.zero_add]; exact atI_nat a1
        have t2 : atI ys (0 + (i : Int)) = some v2 := by rw [Int.zero_add]; exact atI_nat a2
        have g1 := List.getElem?_eq_getElem (l := ds) (i := i) (by omega)
        have g2 := List.getElem?_eq_getElem (l := es) (i := i) (by omega)
        have m1 := List.mem_of_getElem? g1
        have m2 := List.mem_of_getElem? g2
        generalize ds[i] = d1 at *
        generalize es[i] = e1 at *
        walk_at "w"
        refine Or.inr (Or.inl ⟨_, _, _, _, rfl, rfl, SqT.of hpv, t1, ?_⟩)
        walk_at "w"
        refine Or.inr (Or.inl ⟨_, _, _, _, rfl, rfl, SqT.of hpu, t2, ?_⟩)
        walk_at "w"
        refine ⟨v1, v2, d1, e1, rfl, b1, b2, Lb.tup m1, Le.tup m2, fe _ m2, fun r hr => ?_⟩
        walk_at "w"
        cases r with
        | false =>
          refine itY rfl ?_
          walk_at "w"
          refine k false ⟨fun h => (nomatch h), fun h => ?_⟩
          rw [PyData.tuple.inj h, g2] at g1
          exact absurd (hr.mpr (Option.some.inj g1).symm) (fun h => nomatch h)
        | true =>
          refine itN (fun h => nomatch h) ?_
          refine ⟨_, rfl, rfl, ?_⟩
          rw [take_succ_get g1, take_succ_get g2, g, hr.mp rfl]
      · rintro σ H' ⟨x, rfl, rfl, g⟩
        walk_at "w"
        refine k true ⟨fun _ => ?_, fun _ => rfl⟩
        rw [Int.toNat_natCast, List.take_of_length_le (by omega), List.take_of_length_le (by omega)] at g
        rw [g]
end
end GJ


set_option Elab.async false
set_option linter.all false
set_option maxRecDepth 100000
set_option maxHeartbeats 4000000
namespace GJ
open PySem PySem.Spec PyProof.Rows L2 TL
set_option pp.maxSteps 300
section
variable {P : Program} {w : World} {K : PySem.W.Frag} {mg : Str → Option Value} {base : Heap}
set_option hygiene false in
local macro_rules | `(tactic| walk_at "w") => `(tactic| repeat (first
  | refine ⟨_, rfl, ?_⟩
  | refine ⟨_, _, rfl, rfl, (by first | decide | omega), fun r r0 r1 re => ?_⟩
  | refine ⟨_, _, rfl, rfl, (by first | exact Or.inl ⟨by omega, by omega⟩ | exact Or.inr ⟨by omega, by omega⟩ : CMul _ _), ?_⟩
  | refine ⟨_, _, rfl, rfl, (by first | exact ⟨by decide, by decide⟩ | exact ⟨by omega, by omega⟩ : CDiv _ _), ?_⟩
  | refine ⟨_, _, rfl, rfl, (by exact ⟨by decide, by decide, by decide⟩ : CPow _ _), ?_⟩
  | refine ⟨_, _, rfl, rfl, ?_⟩
  | refine ⟨(by rfl : scal _ _ = true), ?_⟩
  | refine Or.inl ⟨_, rfl, ?_⟩
  | refine ⟨_, _, rfl, fun m m0 m1 m2 => ?_⟩
  | refine ⟨_, _, _, _, rfl, rfl, SqL.of (by first | assumption | exact upd_same | exact fx _ | exact fy _), rfl, ?_⟩
  | refine ⟨_, _, _, _, rfl, rfl, (by first | assumption | exact upd_same | exact fx _ | exact fy _), rfl, ?_⟩
  | refine ⟨_, _, _, _, rfl, rfl, SqT.of (by first | assumption | exact upd_same | exact fx _ | exact fy _), rfl, ?_⟩
  | refine ⟨(szle (by omega) : Str.length _ ≤ sizeLine), ?_⟩
  | refine ⟨(szle (by first | omega | (rw [sla]; omega) | (rw [sla, sla]; omega)) : Str.length _ + Str.length _ ≤ sizeLine), ?_⟩
  | refine ⟨_, _, rfl, len_lst (by first | assumption | exact upd_same | exact fx _ | exact fy _), ?_⟩))
set_option hygiene false in
local macro_rules | `(tactic| walk_at "if") => `(tactic| (refine ite2 (fun hc => ?_) (fun hc => ?_) <;>
  simp only [decide_eq_true_eq, Bool.not_eq_true', decide_eq_false_iff_not, V.int.injEq, V.str.injEq, V.bl.injEq, Decidable.not_not, Bool.not_eq_true, V.int_ne, Int.not_lt, Int.not_le, Bool.true_eq_false, Bool.false_eq_true, not_true_eq_false, not_false_eq_true] at hc))
set_option hygiene false in
local macro_rules | `(tactic| walk_at "new") => `(tactic| (refine ⟨by first | decide | (simp only [List.length_cons, List.length_nil, List.length_append, List.length_map]; first | decide | (rw [sizeLine_eq]; omega)), fun p np => ?_⟩))
set_option hygiene false in
local macro_rules | `(tactic| walk_at "yes") => `(tactic| refine itY (by first | rfl | exact decide_eq_true (by first | rfl | omega | assumption) | (simp only [decide_eq_true_eq, Bool.not_eq_true', decide_eq_false_iff_not, V.int.injEq, V.str.injEq, V.bl.injEq]; first | omega | assumption)) ?_)
set_option hygiene false in
local macro_rules | `(tactic| walk_at "no") => `(tactic| refine itN (by first | decide | (simp only [decide_eq_true_eq, Bool.not_eq_true', decide_eq_false_iff_not, V.int.injEq, V.str.injEq, V.bl.injEq, Bool.not_eq_true, Decidable.not_not]; first | omega | assumption)) ?_)
def sp_lawIsWay : Sp := fun vs H Q _ => ∃ (v u : V) (M : Parts) (d : PyData), vs = [v, u, .bl false] ∧ DA H v (partsD M) ∧ PV M ∧ DA H u d ∧ Ld d ∧
  ∀ H' (r : Bool), Same H H' → (r = true ↔ ∃ w : Way, d = wayD w ∧ WayOk M w) → Q (.bl r) H'
def N__law_is_way : List Str := ["_law_parts", "_law_paper", "_law_whole", "_law_size", "_law_state", "_law_link", "_law_x"]
theorem sc__law_is_way : FnScope N__law_is_way ["_law_parts", "_law_paper", "_law_whole"] (defScope (top 70)) := ⟨rfl, rfl, rfl, by decide +kernel, rfl, by decide +kernel, by decide +kernel⟩
theorem ok__law_is_way (En : Env K mg fas fns prs) : Ok P w K mg base "_law_is_way" 4 ["_law_parts", "_law_paper", "_law_whole"] sp_lawIsWay := by
  refine ok_mk 51 70 En sc__law_is_way (fun _ _ _ _ _ _ us hl => match us, hl with | [_, _, _], _ => rfl) (fun vs H Q E h => ?_) (fun f cdv A outer s H vs Q E hr h => ?_)
  · obtain ⟨v, u, M, d, rfl, _⟩ := h
    rfl
  · obtain ⟨v, u, M, d, rfl, hv, hPV, jd, Lb, k⟩ := h
    obtain ⟨c, b, a, e, xb, xa, xe, rfl, hct, hb, ha, he, jb, ja, je⟩ := hv.parts_inv
    have no : ∀ H', Same H H' → (¬ ∃ w : Way, d = wayD w ∧ WayOk M w) → Q (.bl false) H' := fun H' s h => k H' _ s ⟨fun q => (nomatch q), fun q => absurd q h⟩
    refine ⟨_, (pss_cons
        (ps_set (i := 3) sc__law_is_way.nd rfl (Or.inl rfl) (pe_op op_add pe_int (pe_callTy call_int1 (by rfl) (fr_int En) bt_int (pa_cons (pv 2) pa_nil))))
      (pss_cons
        (ps_if (PW.pt (pw_or (pt_not (pt_val (pe_callB (call_isiK2 (K := K) rfl) (by rfl) (fr_isinstance En) bt_isinstance (pa_cons (pv 1) (pa_cons (pe_bltn (v := .ty "tuple") (by rfl) (fr_tuple En) bt_tuple rfl) pa_nil))))) (pw_or (pt_cmpR op_ne (pe_callB (call_lenK (K := K) rfl) (by rfl) (fr_len En) bt_len (pa_cons (pv 1) pa_nil)) (pv 3) (nomark _)) (pw_or1 (pt_not (pt_val (pe_callB (call_isiK2 (K := K) rfl) (by rfl) (fr_isinstance En) bt_isinstance (pa_cons (pe_ix (ix_tupK (K := K) rfl) (pv 1) pe_int (fun _ _ => rfl)) (pa_cons (pe_bltn (v := .ty "list") (by rfl) (fr_list En) bt_list rfl) pa_nil))))))))) (pss_one (ps_ret pe_bl)) pss_nil)
      (pss_cons
        (ps_if (pt_cmpR op_lt (pe_callB (call_lenK (K := K) rfl) (by rfl) (fr_len En) bt_len (pa_cons (pe_lc (own := [("_law_x", 6)]) (g := gName 6) (tt := _) rfl sc__law_is_way.nd (pi_listK (K := K) rfl (pe_ix (ix_tupK (K := K) rfl) (pv 0) pe_int (fun _ _ => rfl))) (blkOk_by (own := [("_law_x", 6)]) (N := N__law_is_way) (sc := defScope (top 70)) (by decide +kernel)) (fun _ _ _ _ _ => (pg_name (i := 6) sc__law_is_way.nd rfl (Or.inl rfl))) (fun _ _ _ _ _ => (pts_one (pt_val (pe_fn (ok__law_same En) (hr.mono (by decide)) (pa_cons (pe_ix (ix_tupK (K := K) rfl) (pv 1) pe_int (fun _ _ => rfl)) (pa_cons (pv 6) pa_nil)))))) (fun _ _ _ _ _ => (pv 6))) pa_nil)) pe_int (nomark _)) (pss_one (ps_ret pe_bl)) pss_nil)
      (pss_cons
        (ps_set (i := 4) sc__law_is_way.nd rfl (Or.inr rfl) (pe_ix (ix_tupK (K := K) rfl) (pe_ix (ix_tupK (K := K) rfl) (pv 1) pe_int (fun _ _ => rfl)) pe_int (fun _ _ => rfl)))
      (pss_cons
        (ps_for PassesOwn.never rfl (pi_listK (K := K) rfl (pe_ix (ix_tupK (K := K) rfl) (pv 1) pe_int (fun _ _ => rfl))) (pg_name (i := 5) sc__law_is_way.nd rfl (Or.inr rfl)) (pss_cons
        (ps_if (pt_cmpR op_lt (pe_callB (call_lenK (K := K) rfl) (by rfl) (fr_len En) bt_len (pa_cons (pe_lc (own := [("_law_x", 6)]) (g := gName 6) (tt := _) rfl sc__law_is_way.nd (pi_listK (K := K) rfl (pe_ix (ix_tupK (K := K) rfl) (pv 0) pe_int (fun _ _ => rfl))) (blkOk_by (own := [("_law_x", 6)]) (N := N__law_is_way) (sc := defScope (top 70)) (by decide +kernel)) (fun _ _ _ _ _ => (pg_name (i := 6) sc__law_is_way.nd rfl (Or.inl rfl))) (fun _ _ _ _ _ => (pts_one (PW.pt (pw_and (pt_cmpR op_eq (pe_ix (ix_tupK (K := K) rfl) (pv 6) pe_int (fun _ _ => rfl)) (pv 4) (nomark _)) (pw_and1 (pt_val (pe_fn (ok__law_same En) (hr.mono (by decide)) (pa_cons (pv 5) (pa_cons (pv 6) pa_nil))))))))) (fun _ _ _ _ _ => (pv 6))) pa_nil)) pe_int (nomark _)) (pss_one (ps_ret pe_bl)) pss_nil)
      (pss_one
        (ps_set (i := 4) sc__law_is_way.nd rfl (Or.inr rfl) (pe_ix (ix_tupK (K := K) rfl) (pv 5) pe_int (fun _ _ => rfl))))))
      (pss_one
        (ps_ret (pe_or (pe_not (pv 2)) (pe_one (pe_cmpR op_gt (pe_callB (call_lenK (K := K) rfl) (by rfl) (fr_len En) bt_len (pa_cons (pe_lc (own := [("_law_x", 6)]) (g := gName 6) (tt := _) rfl sc__law_is_way.nd (pi_listK (K := K) rfl (pe_ix (ix_tupK (K := K) rfl) (pv 0) pe_int (fun _ _ => rfl))) (blkOk_by (own := [("_law_x", 6)]) (N := N__law_is_way) (sc := defScope (top 70)) (by decide +kernel)) (fun _ _ _ _ _ => (pg_name (i := 6) sc__law_is_way.nd rfl (Or.inl rfl))) (fun _ _ _ _ _ => (pts_one (PW.pt (pw_and (pt_cmpR op_eq (pe_ix (ix_tupK (K := K) rfl) (pv 6) pe_int (fun _ _ => rfl)) (pv 4) (nomark _)) (pw_and1 (pt_val (pe_fn (ok__law_same En) (hr.mono (by decide)) (pa_cons (pe_ix (ix_tupK (K := K) rfl) (pv 1) pe_int (fun _ _ => rfl)) (pa_cons (pv 6) pa_nil))))))))) (fun _ _ _ _ _ => (pv 6))) pa_nil)) pe_int (nomark _))))))))))), ?_⟩
    walk_at "w"
    refine Or.inr ⟨_, rfl, ?_⟩
    rw [show (if false = true then (1 : Int) else 0) = 0 from rfl]
    walk_at "w"
    refine ⟨_, _, _, _, _, rfl, .ty _, jd.ty, k_tup jd, ?_⟩
    walk_at "w"
    cases ht : isTup d with
    | false =>
      walk_at "w"
      refine itY rfl ?_
      walk_at "w"
      exact no _ (Same.refl H) fun ⟨w, q, _⟩ => by rw [q] at ht; cases ht
    | true =>
      obtain ⟨ds, rfl⟩ : ∃ ds, d = .tuple ds := by cases d <;> first | exact ⟨_, rfl⟩ | cases ht
      obtain ⟨p, xs, rfl, hp, hx⟩ := jd.tup_inv
      have hxl := hx.len
      have hdl := Lb.tupLen
      walk_at "w"
      refine ⟨_, _, rfl, len_tup hp, ?_⟩
      walk_at "w"
      walk_at "if"
      · walk_at "w"
        refine no _ (Same.refl H) ?_
        rintro ⟨w, q, _⟩
        rw [PyData.tuple.inj q] at hxl
        exact absurd (show (xs.length : Int) = 2 + 0 by rw [hxl]; rfl) hc
      have h2 : xs.length = 2 := by omega
      obtain ⟨v1, v2, rfl⟩ := len2 h2
      obtain ⟨d1, d2, rfl⟩ := len2 (hxl.symm.trans h2)
      obtain ⟨_, _, e, j1, hx⟩ := hx.cons_inv
      cases e
      obtain ⟨_, _, e, j2, _⟩ := hx.cons_inv
      cases e
      walk_at "w"
      refine ⟨_, _, _, _, _, rfl, .ty _, j2.ty, k_lst j2, ?_⟩
      walk_at "w"
      cases hl2 : isLst d2 with
      | false =>
        refine itY rfl ?_
        walk_at "w"
        refine no _ (Same.refl H) ?_
        rintro ⟨w, q, _⟩
        have q := PyData.tuple.inj q
        simp only [List.cons.injEq, and_true] at q
        rw [q.2] at hl2
        cases hl2
      | true =>
      refine itN (fun h => nomatch h) ?_
      obtain ⟨as, rfl⟩ : ∃ ds, d2 = .list ds := by cases d2 <;> first | exact ⟨_, rfl⟩ | cases hl2
      obtain ⟨pa, xl, rfl, hpa, jl⟩ := j2.lst_inv
      have lxb := jb.len
      have lxa := ja.len
      rw [List.length_map] at lxb lxa
      have cb := hPV.cb
      have ca := hPV.ca
      have L1 : Ld d1 := Lb.tup (by simp)
      have L2' : Ld (.list as) := Lb.tup (by simp)
      walk_at "w"
      refine ⟨⟨_, SqL.of hb⟩, fun D nD => ?_⟩
      refine lc_filt (Same.refl H) nD hb jb (by omega) (fun i => ∃ e, M.bs[i]? = some e ∧ d1 = sideD e) ?_ ?_ ?_ ?_
      · exact fun _ => rfl
      · exact fun _ => rfl
      · intro i x dx H3 R hi hd3 jx s3 hR
        rw [List.getElem?_map] at hd3
        obtain ⟨e, q, rfl⟩ := Option.map_eq_some_iff.mp hd3
        have hp3 := s3 _ _ hp
        walk_at "w"
        refine ⟨v1, x, d1, [.int e.1, .str e.2], rfl, j1.up s3, jx, L1, Nat.lt_of_le_of_lt (hPV.bzs e (List.mem_of_getElem? q)).1 (by decide), ?_, fun r hr => ?_⟩
        · simp [isFl]
        · walk_at "w"
          exact hR r _ (Same.refl _) (hr.trans ⟨fun h => ⟨e, q, h⟩, fun ⟨e', q', h⟩ => by rw [q] at q'; cases q'; exact h⟩)
      intro H3 ys es s3 hD3 hes hle hmem
      have hesl := hes.len
      have mb : es ≠ [] ↔ ∃ e ∈ M.bs, d1 = sideD e := by
        constructor
        · intro h
          obtain ⟨x, hx⟩ := List.exists_mem_of_ne_nil _ h
          obtain ⟨i, _, e, q, h⟩ := (hmem x).mp hx
          exact ⟨e, List.mem_of_getElem? q, h⟩
        · rintro ⟨e, he, h⟩ q
          obtain ⟨i, hi⟩ := List.getElem?_of_mem he
          have := (hmem (sideD e)).mpr ⟨i, by rw [List.getElem?_map, hi]; rfl, e, hi, h⟩
          rw [q] at this
          exact nomatch this
      walk_at "w"
      walk_at "if"
      · walk_at "w"
        refine no _ s3 ?_
        rintro ⟨w, q, ok, _⟩
        have q := PyData.tuple.inj q
        simp only [List.cons.injEq, and_true] at q
        refine mb.mpr ⟨w.1, ok, q.1⟩ (List.length_eq_zero_iff.mp (by omega))
      obtain ⟨sd, hsd, rfl⟩ := mb.mp fun h => by rw [h] at hesl; simp only [List.length_nil] at hesl; omega
      obtain ⟨pb, rfl, hpb⟩ := (j1.up s3).side_inv
      have hp3 := s3 _ _ hp
      have hpb3 := hpb
      walk_at "w"
      have hpa3 := s3 _ _ hpa
      have las := jl.len
      refine ⟨⟨_, SqL.of hpa3⟩, for_list (xs := xl) (fun i σ H' => ∃ (was : List Arc) (x5 x6 : Option V), σ = [some (.ref c), some (.ref p), some (.bl false), some (.int 2), some (.int (lastSt sd.1 was)), x5, x6] ∧ Same H3 H' ∧ as.take i = was.map arcD ∧ Chain M sd.1 was) ?_ ?_ ?_ ?_⟩
      · exact ⟨[], _, _, rfl, Same.refl H3, rfl, True.intro⟩
      · rintro i σ H' hi ⟨was, x5, x6, rfl, s4, g1, g2⟩
        exact SqL.of (s4 _ _ hpa3)
      · rintro i v σ H4 hi ⟨was, x5, x6, rfl, s4, g1, g2⟩
        have s04 := s3.trans s4
        obtain ⟨dk, hdk, jk⟩ := jl.get hi
        have Lk : Ld dk := L2'.lst (List.mem_of_getElem? hdk)
        have bad : (∀ e ∈ M.as, e.1 = lastSt sd.1 was → dk ≠ arcD e) → ¬ ∃ w : Way, PyData.tuple [sideD sd, PyData.list as] = wayD w ∧ WayOk M w := by
          rintro hb ⟨w, q, e3, e4⟩
          have q := PyData.tuple.inj q
          simp only [List.cons.injEq, and_true, PyData.list.injEq] at q
          rw [← sideD_inj q.1] at e4
          rw [q.2] at hdk g1
          obtain ⟨a, ha, h3, h4⟩ := chain_at g1 hdk e4
          exact hb a ha h4 h3
        have hc4 := s04 _ _ hct
        have ha4 := s04 _ _ ha
        walk_at "w"
        refine ⟨⟨_, SqL.of ha4⟩, fun D2 nD2 => ?_⟩
        refine lc_filt (Same.refl H4) nD2 ha4 (ja.up s04) (by omega) (fun i => ∃ e, M.as[i]? = some e ∧ e.1 = lastSt sd.1 was ∧ dk = arcD e) ?_ ?_ ?_ ?_
        · exact fun _ => rfl
        · exact fun _ => rfl
        · intro i x dx H5 R hi hd5 jx s5 hR
          rw [List.getElem?_map] at hd5
          obtain ⟨e, q, rfl⟩ := Option.map_eq_some_iff.mp hd5
          obtain ⟨cx, rfl, hcx⟩ := jx.arc_inv
          walk_at "w"
          walk_at "if"
          · walk_at "w"
            refine ⟨v, .ref cx, dk, [.int e.1, .str e.2.1, .str e.2.2.1, .int e.2.2.2], rfl, jk.up (s04.trans s5), jx, Lk, Nat.lt_of_le_of_lt (hPV.bza e (List.mem_of_getElem? q)).1 (by decide), ?_, fun r hr => ?_⟩
            · simp [isFl]
            · walk_at "w"
              exact hR r _ (Same.refl _) (hr.trans ⟨fun h => ⟨e, q, hc, h⟩, fun ⟨e', q', _, h⟩ => by rw [q] at q'; cases q'; exact h⟩)
          · walk_at "w"
            exact hR false _ (Same.refl _) ⟨fun h => (nomatch h), fun ⟨e', q', h, _⟩ => by rw [q] at q'; cases q'; exact absurd h hc⟩
        intro H5 ys2 es2 s5 hD5 hes2 hle2 hmem2
        have hesl2 := hes2.len
        have mb2 : es2 ≠ [] ↔ ∃ e ∈ M.as, e.1 = lastSt sd.1 was ∧ dk = arcD e := by
          constructor
          · intro h
            obtain ⟨x, hx⟩ := List.exists_mem_of_ne_nil _ h
            obtain ⟨i, _, e, q, h⟩ := (hmem2 x).mp hx
            exact ⟨e, List.mem_of_getElem? q, h⟩
          · rintro ⟨e, he, h⟩ q
            obtain ⟨i, hi⟩ := List.getElem?_of_mem he
            have := (hmem2 (arcD e)).mpr ⟨i, by rw [List.getElem?_map, hi]; rfl, e, hi, h⟩
            rw [q] at this
            exact nomatch this
        have s05 := s04.trans s5
        walk_at "w"
        walk_at "if"
        · walk_at "w"
          refine no _ s05 (bad fun e he h1 h2 => ?_)
          exact mb2.mpr ⟨e, he, h1, h2⟩ (List.length_eq_zero_iff.mp (by omega))
        obtain ⟨ar, har, ar1, rfl⟩ := mb2.mp fun h => by rw [h] at hesl2; simp only [List.length_nil] at hesl2; omega
        obtain ⟨pk, rfl, hpk⟩ := (jk.up s05).arc_inv
        have hpk5 := hpk
        walk_at "w"
        refine ⟨was ++ [ar], _, _, by rw [lastSt_app]; rfl, s4.trans s5, by rw [take_succ_get hdk, g1, List.map_append]; rfl, chain_app.mpr ⟨g2, ⟨har, ar1⟩, True.intro⟩⟩
      · rintro σ H4 ⟨was, x5, x6, rfl, s4, g1, g2⟩
        rw [List.take_of_length_le (by omega)] at g1
        walk_at "w"
        refine itY rfl ?_
        refine k _ _ (s3.trans s4) ⟨fun _ => ⟨(sd, was), by rw [g1]; rfl, hsd, g2⟩, fun _ => rfl⟩
end
end GJ


set_option Elab.async false
set_option linter.all false
set_option maxRecDepth 100000
set_option maxHeartbeats 4000000
namespace GJ
open PySem PySem.Spec PyProof.Rows L2 TL
set_option pp.maxSteps 300
/-- reached within so many steps -/
def Rd (S : Int → Prop) (E : Int → Int → Prop) : Nat → Int → Prop
  | 0, k => S k
  | t + 1, k => Rd S E t k ∨ ∃ a, Rd S E t a ∧ E a k
section
variable {S : Int → Prop} {E : Int → Int → Prop} {N : Nat}
theorem Rd.rt : ∀ {t : Nat} {k : Int}, Rd S E t k → Rt S E k
  | 0, _, h => .base h
  | t + 1, _, h => h.elim (fun h => h.rt) fun ⟨_, h, e⟩ => .step h.rt e
theorem Rd.mono {s t : Nat} {k : Int} (h : Rd S E s k) (l : s ≤ t) : Rd S E t k := by
  induction l with
  | refl => exact h
  | step _ ih => exact .inl ih
theorem Rd.lt (hS : ∀ k, S k → 0 ≤ k ∧ k < (N : Int)) (hE : ∀ a k, E a k → 0 ≤ k ∧ k < (N : Int)) : ∀ {t : Nat} {k : Int}, Rd S E t k → 0 ≤ k ∧ k < (N : Int)
  | 0, k, h => hS k h
  | t + 1, k, h => h.elim (fun h => Rd.lt hS hE h) fun ⟨a, _, e⟩ => hE a k e
open Classical in
noncomputable def cntR (S : Int → Prop) (E : Int → Int → Prop) (N t : Nat) : Nat := ((List.range N).filter fun k : Nat => decide (Rd S E t (k : Int))).length
open Classical in
theorem cntR_up (hS : ∀ k, S k → 0 ≤ k ∧ k < (N : Int)) (hE : ∀ a k, E a k → 0 ≤ k ∧ k < (N : Int)) {t : Nat} (h : ¬ ∀ k, Rd S E (t + 1) k → Rd S E t k) : cntR S E N t + 1 ≤ cntR S E N (t + 1) := by
  obtain ⟨k, hk⟩ := Classical.not_forall.mp h
  obtain ⟨h1, h2⟩ := Classical.not_imp.mp hk
  have hl := Rd.lt hS hE h1
  unfold cntR
  have e : ((List.range N).filter fun k : Nat => decide (Rd S E t (k : Int))) = (((List.range N).filter fun k : Nat => decide (Rd S E (t + 1) (k : Int))).filter fun k : Nat => decide (Rd S E t (k : Int))) := by
    rw [List.filter_filter]
    refine List.filter_congr fun x _ => ?_
    by_cases q : Rd S E t (x : Int)
    · rw [decide_eq_true q, decide_eq_true (show Rd S E (t + 1) (x : Int) from .inl q)]; rfl
    · rw [decide_eq_false q]; rfl
  rw [e]
  refine Nat.succ_le_of_lt (List.length_filter_lt_length_iff_exists.mpr ⟨k.toNat, ?_, ?_⟩)
  · have e2 : ((k.toNat : Nat) : Int) = k := Int.toNat_of_nonneg hl.1
    refine List.mem_filter.mpr ⟨List.mem_range.mpr (by omega), decide_eq_true (by rw [e2]; exact h1)⟩
  · have e2 : ((k.toNat : Nat) : Int) = k := Int.toNat_of_nonneg hl.1
    rw [e2]
    simpa using h2
theorem cntR_all (hS : ∀ k, S k → 0 ≤ k ∧ k < (N : Int)) (hE : ∀ a k, E a k → 0 ≤ k ∧ k < (N : Int)) : ∀ t : Nat, (∃ s < t, ∀ k, Rd S E (s + 1) k → Rd S E s k) ∨ t ≤ cntR S E N t
  | 0 => .inr (Nat.zero_le _)
  | t + 1 => by
    rcases cntR_all hS hE t with ⟨s, h1, h2⟩ | h
    · exact .inl ⟨s, by omega, h2⟩
    · by_cases q : ∀ k, Rd S E (t + 1) k → Rd S E t k
      · exact .inl ⟨t, by omega, q⟩
      · have := cntR_up hS hE q
        exact .inr (by omega)
/-- as many steps as there are states find all -/
theorem Rt.rd (hS : ∀ k, S k → 0 ≤ k ∧ k < (N : Int)) (hE : ∀ a k, E a k → 0 ≤ k ∧ k < (N : Int)) {k : Int} (h : Rt S E k) : Rd S E N k := by
  rcases cntR_all hS hE (N + 1) with ⟨s, h1, h2⟩ | h3
  · have : Rd S E s k := by
      induction h with
      | base h => exact Rd.mono (s := 0) h (Nat.zero_le _)
      | step _ e ih => exact h2 _ (.inr ⟨_, ih, e⟩)
    exact this.mono (by omega)
  · have : cntR S E N (N + 1) ≤ N := by
      unfold cntR
      refine Nat.le_trans (List.length_filter_le _ _) ?_
      rw [List.length_range]
      exact Nat.le_refl N
    omega
end
/-- the place holds a number that is not over t -/
def LeAt (fs : List Int) (k t : Int) : Prop := ∃ x, fs[k.toNat]? = some x ∧ x ≤ t
theorem LeAt.set {fs : List Int} {k t v : Int} {a : Nat} (h : LeAt fs k t) (g : ∀ x, fs[a]? = some x → v ≤ x) : LeAt (fs.set a v) k t := by
  obtain ⟨x, h1, h2⟩ := h
  by_cases e : a = k.toNat
  · subst e
    refine ⟨v, ?_, Int.le_trans (g x h1) h2⟩
    rw [List.getElem?_set_self (List.getElem?_eq_some_iff.mp h1).1]
  · exact ⟨x, by rw [List.getElem?_set_ne e]; exact h1, h2⟩
theorem LeAt.self {fs : List Int} {k t v : Int} (h : k.toNat < fs.length) (g : v ≤ t) : LeAt (fs.set k.toNat v) k t := ⟨v, by rw [List.getElem?_set_self h], g⟩
theorem LeAt.mono {fs : List Int} {k t u : Int} (h : LeAt fs k t) (l : t ≤ u) : LeAt fs k u := let ⟨x, a, b⟩ := h; ⟨x, a, Int.le_trans b l⟩
/-- what is below 1000 is reached -/
def Snd (G : Int → Prop) (fs : List Int) : Prop := ∀ (k : Nat) x, fs[k]? = some x → x ≤ 1000 ∧ (x < 1000 → G (k : Int))
theorem Snd.set {G : Int → Prop} {fs : List Int} {v : Int} {a : Nat} (h : Snd G fs) (g : v ≤ 1000 ∧ (v < 1000 → G (a : Int))) : Snd G (fs.set a v) := by
  intro k x e
  by_cases q : a = k
  · subst q
    by_cases l : a < fs.length
    · rw [List.getElem?_set_self l] at e
      rw [← Option.some.inj e]
      exact g
    · rw [List.getElem?_eq_none (by rw [List.length_set]; omega)] at e
      cases e
  · rw [List.getElem?_set_ne q] at e
    exact h k x e
theorem map_rep {α β : Type} {f : α → β} {ys : List β} {n : Nat} {c : α} (hl : ys.length = n) (h : ∀ (i : Nat) y, ys[i]? = some y → y = f c) : ys = (List.replicate n c).map f :=
  map_of_get (by rw [List.length_replicate]; exact hl) fun i y e => ⟨c, by rw [List.getElem?_replicate, if_pos (by rw [← hl]; exact (List.getElem?_eq_some_iff.mp e).1)], h i y e⟩
section
variable {P : Program} {w : World} {K : PySem.W.Frag} {mg : Str → Option Value} {base : Heap}
set_option hygiene false in
local macro_rules | `(tactic| walk_at "w") => `(tactic| repeat (first
  | refine ⟨_, rfl, ?_⟩
  | refine ⟨_, _, rfl, rfl, (by first | decide | omega), fun r r0 r1 re => ?_⟩
  | refine ⟨_, _, rfl, rfl, (by first | exact Or.inl ⟨by omega, by omega⟩ | exact Or.inr ⟨by omega, by omega⟩ : CMul _ _), ?_⟩
  | refine ⟨_, _, rfl, rfl, (by first | exact ⟨by decide, by decide⟩ | exact ⟨by omega, by omega⟩ : CDiv _ _), ?_⟩
  | refine ⟨_, _, rfl, rfl, (by exact ⟨by decide, by decide, by decide⟩ : CPow _ _), ?_⟩
  | refine ⟨_, _, rfl, rfl, ?_⟩
  | refine ⟨(by rfl : scal _ _ = true), ?_⟩
  | refine Or.inl ⟨_, rfl, ?_⟩
  | refine ⟨_, _, rfl, fun m m0 m1 m2 => ?_⟩
  | refine ⟨_, _, _, _, rfl, rfl, SqL.of (by first | assumption | exact upd_same | exact fx _ | exact fy _), rfl, ?_⟩
  | refine ⟨_, _, _, _, rfl, rfl, (by first | assumption | exact upd_same | exact fx _ | exact fy _), rfl, ?_⟩
  | refine ⟨_, _, _, _, rfl, rfl, SqT.of (by first | assumption | exact upd_same | exact fx _ | exact fy _), rfl, ?_⟩
  | refine ⟨(szle (by omega) : Str.length _ ≤ sizeLine), ?_⟩
  | refine ⟨(szle (by first | omega | (rw [sla]; omega) | (rw [sla, sla]; omega)) : Str.length _ + Str.length _ ≤ sizeLine), ?_⟩
  | refine ⟨_, _, rfl, len_lst (by first | assumption | exact upd_same | exact fx _ | exact fy _), ?_⟩))
set_option hygiene false in
local macro_rules | `(tactic| walk_at "if") => `(tactic| (refine ite2 (fun hc => ?_) (fun hc => ?_) <;>
  simp only [decide_eq_true_eq, Bool.not_eq_true', decide_eq_false_iff_not, V.int.injEq, V.str.injEq, V.bl.injEq, Decidable.not_not, Bool.not_eq_true, V.int_ne, Int.not_lt, Int.not_le, Bool.true_eq_false, Bool.false_eq_true, not_true_eq_false, not_false_eq_true] at hc))
set_option hygiene false in
local macro_rules | `(tactic| walk_at "new") => `(tactic| (refine ⟨by first | decide | (simp only [List.length_cons, List.length_nil, List.length_append, List.length_map]; first | decide | (rw [sizeLine_eq]; omega)), fun p np => ?_⟩))
set_option hygiene false in
local macro_rules | `(tactic| walk_at "yes") => `(tactic| refine itY (by first | rfl | exact decide_eq_true (by first | rfl | omega | assumption) | (simp only [decide_eq_true_eq, Bool.not_eq_true', decide_eq_false_iff_not, V.int.injEq, V.str.injEq, V.bl.injEq]; first | omega | assumption)) ?_)
set_option hygiene false in
local macro_rules | `(tactic| walk_at "no") => `(tactic| refine itN (by first | decide | (simp only [decide_eq_true_eq, Bool.not_eq_true', decide_eq_false_iff_not, V.int.injEq, V.str.injEq, V.bl.injEq, Bool.not_eq_true, Decidable.not_not]; first | omega | assumption)) ?_)
def sp_toEnd : Sp := fun vs H Q _ => ∃ (v : V) (M : Parts), vs = [v] ∧ DA H v (partsD M) ∧ PV M ∧
  ∀ p H' (fs : List Int), Same H H' → H' p = some (.lst (fs.map V.int)) → fs.length = M.n.toNat → (∀ (k : Nat) x, fs[k]? = some x → (x < 1000 ↔ Rt (fun a => ∃ b ∈ M.es, b.1 = a) (fun a b => Ed M b a) (k : Int))) → Q (.ref p) H'
def N__law_to_end : List Str := ["_law_parts", "_law_far", "_law_stop", "_law_tick", "_law_link", "_law_k"]
theorem sc__law_to_end : FnScope N__law_to_end ["_law_parts"] (defScope (top 71)) := ⟨rfl, rfl, rfl, by decide +kernel, rfl, by decide +kernel, by decide +kernel⟩
theorem ok__law_to_end (En : Env K mg fas fns prs) : Ok P w K mg base "_law_to_end" 1 ["_law_parts"] sp_toEnd := by
  refine ok_mk 52 71 En sc__law_to_end (fun _ _ _ _ _ _ us hl => match us, hl with | [_], _ => rfl) (fun vs H Q E h => ?_) (fun f cdv A outer s H vs Q E hr h => ?_)
  · obtain ⟨v, M, rfl, _⟩ := h
    rfl
  · obtain ⟨v, M, rfl, hv, hPV, k⟩ := h
    obtain ⟨c, b, a, e, xb, xa, xe, rfl, hct, hb, ha, he, jb, ja, je⟩ := hv.parts_inv
    have lxe := je.len
    have lxa := ja.len
    rw [List.length_map] at lxe lxa
    have ce := hPV.ce
    have ca := hPV.ca
    have n0 := hPV.n0
    have n1 := hPV.n1
    obtain ⟨G, hG⟩ : ∃ G : Int → Prop, G = Rt (fun a => ∃ b ∈ M.es, b.1 = a) (fun a b => Ed M b a) := ⟨_, rfl⟩
    rw [← hG] at k
    refine ⟨_, (pss_cons
        (ps_setLc (i := 1) (own := [("_law_k", 5)]) (g := gName 5) (tt := tYes) rfl sc__law_to_end.nd rfl rfl (sw_true rfl rfl rfl (by decide +kernel)) (pi_range1 rfl (fr_range En) (pa_cons (pe_ix (ix_tupK (K := K) rfl) (pv 0) pe_int (fun _ _ => rfl)) pa_nil)) (blkOk_by (own := [("_law_k", 5)]) (N := N__law_to_end) (sc := defScope (top 71)) (by decide +kernel)) (fun _ _ _ _ _ => (pg_name (i := 5) sc__law_to_end.nd rfl (Or.inl rfl))) (fun _ _ _ _ _ => pts_nil) (fun _ _ _ _ _ => pe_int))
      (pss_cons
        (ps_for PassesOwn.never rfl (pi_listK (K := K) rfl (pe_ix (ix_tupK (K := K) rfl) (pv 0) pe_int (fun _ _ => rfl))) (pg_name (i := 2) sc__law_to_end.nd rfl (Or.inl rfl)) (pss_one (ps_asg pe_int (pg_sub (pv 1) (pe_ix (ix_tupK (K := K) rfl) (pv 2) pe_int (fun _ _ => rfl)) set_list))))
      (pss_cons
        (ps_for PassesOwn.never rfl (pi_range1 rfl (fr_range En) (pa_cons (pe_ix (ix_tupK (K := K) rfl) (pv 0) pe_int (fun _ _ => rfl)) pa_nil)) (pg_name (i := 3) sc__law_to_end.nd rfl (Or.inl rfl)) (pss_one (ps_for PassesOwn.never rfl (pi_listK (K := K) rfl (pe_ix (ix_tupK (K := K) rfl) (pv 0) pe_int (fun _ _ => rfl))) (pg_name (i := 4) sc__law_to_end.nd rfl (Or.inl rfl)) (pss_one (ps_asg (pe_callB (call_minR rfl) (by rfl) (fr_min En) bt_min (pa_cons (pe_ix (ix_listK (K := K) rfl) (pv 1) (pe_ix (ix_tupK (K := K) rfl) (pv 4) pe_int (fun _ _ => rfl)) (fun _ _ => rfl)) (pa_cons (pe_op op_add (pe_ix (ix_listK (K := K) rfl) (pv 1) (pe_ix (ix_tupK (K := K) rfl) (pv 4) pe_int (fun _ _ => rfl)) (fun _ _ => rfl)) pe_int) pa_nil))) (pg_sub (pv 1) (pe_ix (ix_tupK (K := K) rfl) (pv 4) pe_int (fun _ _ => rfl)) set_list))))))
      (pss_one
        (ps_ret (pv 1)))))), ?_⟩
    walk_at "w"
    refine ⟨by omega, by omega, fun D nD => ?_⟩
    have nD0 : H D = none := nD
    refine lc_rngP (lo := 0) (n := M.n.toNat) (Same.refl H) nD (by omega) (fun _ v => v = .int 1000) ?_ ?_ ?_
    · exact fun _ => rfl
    · intro i H3 R hi s3 hR
      walk_at "w"
      exact hR _ _ (Same.refl _) rfl
    intro H3 ys s3 hD hyl hF
    obtain rfl : ys = (List.replicate M.n.toNat 1000).map V.int := map_rep hyl hF
    have he3 := s3 _ _ he
    have hct3 := s3 _ _ hct
    have rb : ∀ e ∈ M.es, 0 ≤ e.1 ∧ e.1 < M.n := fun e he => ⟨(hPV.es e he).1, (hPV.es e he).2.1⟩
    have ra : ∀ e ∈ M.as, (0 ≤ e.1 ∧ e.1 < M.n) ∧ 0 ≤ e.2.2.2 ∧ e.2.2.2 < M.n := fun e he => by
      obtain ⟨h1, _, _, h2⟩ := hPV.as e he
      exact ⟨h1, h2⟩
    have n8 : ((M.n.toNat : Nat) : Int) = M.n := Int.toNat_of_nonneg n0
    have Gb : ∀ e ∈ M.es, G ((e.1.toNat : Nat) : Int) := fun e he => by rw [hG, Int.toNat_of_nonneg (rb e he).1]; exact .base ⟨e, he, rfl⟩
    have Ga : ∀ e ∈ M.as, G ((e.2.2.2.toNat : Nat) : Int) → G ((e.1.toNat : Nat) : Int) := fun e he h => by
      rw [hG, Int.toNat_of_nonneg (ra e he).2.1] at h
      rw [hG, Int.toNat_of_nonneg (ra e he).1.1]
      exact .step h ⟨e, he, rfl, rfl⟩
    have ix : ∀ {fs : List Int} {q : Int}, fs.length = M.n.toNat → 0 ≤ q → q < M.n → ixN (fs.map V.int).length q = some q.toNat := fun {fs q} h1 h2 h3 => by
      unfold ixN
      rw [if_pos h2, if_pos (by rw [List.length_map]; omega)]
    walk_at "w"
    refine ⟨⟨_, SqL.of he3⟩, for_list (xs := xe) (fun i σ H' => ∃ (fs : List Int) (x2 : Option V), σ = [some (.ref c), some (.ref D), x2, none, none, none] ∧ Same H H' ∧ H' D = some (.lst (fs.map V.int)) ∧ fs.length = M.n.toNat ∧ Snd G fs ∧ ∀ e ∈ M.es.take i, LeAt fs e.1 0) ?_ ?_ ?_ ?_⟩
    · refine ⟨_, _, rfl, s3, hD, List.length_replicate, fun j x e => ?_, fun e h => nomatch h⟩
      rw [List.getElem?_replicate] at e
      split at e
      · cases e
        exact ⟨by omega, fun h => absurd h (by omega)⟩
      · cases e
    · rintro i σ H' hi ⟨fs, x2, rfl, s4, _⟩
      exact SqL.of (s4 _ _ he)
    · rintro i v σ H4 hi ⟨fs, x2, rfl, s4, hD4, hfl, hS, hL⟩
      obtain ⟨d, d1, d2⟩ := je.get hi
      rw [List.getElem?_map] at d1
      obtain ⟨e, q, rfl⟩ := Option.map_eq_some_iff.mp d1
      obtain ⟨pe, rfl, hpe⟩ := (d2.up s4).side_inv
      have hpe4 := hpe
      have hme := List.mem_of_getElem? q
      walk_at "w"
      refine ⟨D, fs.map V.int, e.1, e.1.toNat, rfl, rfl, hD4, ix hfl (rb e hme).1 (rb e hme).2, ?_⟩
      rw [← List.map_set]
      refine ⟨fs.set e.1.toNat 0, _, rfl, Same.put s4 nD0, upd_same, by rw [List.length_set]; exact hfl, hS.set ⟨by omega, fun _ => Gb e hme⟩, fun e2 h2 => ?_⟩
      rw [take_succ_get q] at h2
      rcases List.mem_append.mp h2 with h2 | h2
      · obtain ⟨x, y1, y2⟩ := hL e2 h2
        by_cases q2 : e.1.toNat = e2.1.toNat
        · refine ⟨0, ?_, Int.le_refl 0⟩
          rw [q2, List.getElem?_set_self (List.getElem?_eq_some_iff.mp y1).1]
        · exact ⟨x, by rw [List.getElem?_set_ne q2]; exact y1, y2⟩
      · rw [List.mem_singleton.mp h2]
        exact LeAt.self (by have := rb e hme; omega) (Int.le_refl 0)
    rintro σ H4 ⟨fs, x2, rfl, s4, hD4, hfl, hS, hL⟩
    rw [List.take_of_length_le (by omega)] at hL
    have hct4 := s4 _ _ hct
    walk_at "w"
    obtain ⟨RD, hRD⟩ : ∃ RD : Nat → Int → Prop, RD = Rd (fun a => ∃ b ∈ M.es, b.1 = a) (fun a b => Ed M b a) := ⟨_, rfl⟩
    have getI : ∀ {fs : List Int} {q : Int}, fs.length = M.n.toNat → 0 ≤ q → q < M.n → ∃ x, fs[q.toNat]? = some x ∧ atI (fs.map V.int) q = some (V.int x) := fun {fs q} h1 h2 h3 => by
      obtain ⟨v, e1, e2⟩ := at_nn (xs := fs.map V.int) (i := q) h2 (by rw [List.length_map]; omega)
      rw [List.getElem?_map] at e1
      obtain ⟨x, e3, rfl⟩ := Option.map_eq_some_iff.mp e1
      exact ⟨x, e3, e2⟩
    refine ⟨by omega, by omega, for_range (lo := 0) (n := M.n.toNat) (fun t σ H' => ∃ (fs : List Int) (x2 x3 x4 : Option V), σ = [some (.ref c), some (.ref D), x2, x3, x4, none] ∧ Same H H' ∧ H' D = some (.lst (fs.map V.int)) ∧ fs.length = M.n.toNat ∧ Snd G fs ∧ ∀ k, RD t k → LeAt fs k t) ?_ ?_ ?_⟩
    · refine ⟨fs, _, _, _, rfl, s4, hD4, hfl, hS, fun k h => ?_⟩
      rw [hRD] at h
      obtain ⟨e, he, rfl⟩ := h
      exact hL e he
    · rintro t σ H5 ht ⟨fs, x2, x3, x4, rfl, s5, hD5, hfl, hS, hL⟩
      have hct5 := s5 _ _ hct
      have ha5 := s5 _ _ ha
      walk_at "w"
      refine ⟨⟨_, SqL.of ha5⟩, for_list (xs := xa) (fun i σ H' => ∃ (fs : List Int) (x4 : Option V), σ = [some (.ref c), some (.ref D), x2, some (.int (0 + (t : Int))), x4, none] ∧ Same H H' ∧ H' D = some (.lst (fs.map V.int)) ∧ fs.length = M.n.toNat ∧ Snd G fs ∧ (∀ k, RD t k → LeAt fs k t) ∧ ∀ e ∈ M.as.take i, RD t e.2.2.2 → LeAt fs e.1 (t + 1)) ?_ ?_ ?_ ?_⟩
      · exact ⟨fs, _, rfl, s5, hD5, hfl, hS, hL, fun e h => nomatch h⟩
      · rintro i σ H' hi ⟨fs, x2, rfl, s6, _⟩
        exact SqL.of (s6 _ _ ha)
      · rintro i v σ H6 hi ⟨fs, x4, rfl, s6, hD6, hfl, hS, hL, hK⟩
        obtain ⟨d, d1, d2⟩ := ja.get hi
        rw [List.getElem?_map] at d1
        obtain ⟨e, q, rfl⟩ := Option.map_eq_some_iff.mp d1
        obtain ⟨pe, rfl, hpe⟩ := (d2.up s6).arc_inv
        have hpe6 := hpe
        have hme := List.mem_of_getElem? q
        have re := ra e hme
        obtain ⟨y1, a1, b1⟩ := getI hfl re.1.1 re.1.2
        obtain ⟨y2, a2, b2⟩ := getI hfl re.2.1 re.2.2
        walk_at "w"
        refine ⟨_, _, _, _, rfl, rfl, SqL.of hD6, b1, ?_⟩
        walk_at "w"
        refine ⟨_, _, _, _, rfl, rfl, SqL.of hD6, b2, ?_⟩
        walk_at "w"
        refine ⟨D, fs.map V.int, e.1, e.1.toNat, rfl, rfl, hD6, ix hfl re.1.1 re.1.2, ?_⟩
        rw [← List.map_set]
        have less : ∀ x, fs[e.1.toNat]? = some x → m ≤ x := fun x h => by rw [a1] at h; cases h; exact m0
        refine ⟨fs.set e.1.toNat m, _, rfl, Same.put s6 nD0, upd_same, by rw [List.length_set]; exact hfl, hS.set ⟨Int.le_trans m0 (hS _ _ a1).1, fun h => ?_⟩, fun k h => (hL k h).set less, fun e2 h2 h3 => ?_⟩
        · rcases m2 with rfl | rfl
          · exact (hS _ _ a1).2 h
          · exact Ga e hme ((hS _ _ a2).2 (by omega))
        · rw [take_succ_get q] at h2
          rcases List.mem_append.mp h2 with h2 | h2
          · exact (hK e2 h2 h3).set less
          · rw [List.mem_singleton.mp h2] at h3 ⊢
            obtain ⟨x, h4, h5⟩ := hL _ h3
            rw [a2] at h4
            cases h4
            exact LeAt.self (by omega) (by omega)
      · rintro σ H6 ⟨fs, x4, rfl, s6, hD6, hfl, hS, hL, hK⟩
        rw [List.take_of_length_le (by omega)] at hK
        walk_at "w"
        refine ⟨fs, _, _, _, rfl, s6, hD6, hfl, hS, fun k h => ?_⟩
        rw [hRD] at h
        rcases h with h | ⟨a, h, e, he, rfl, rfl⟩
        · exact (hL k (by rw [hRD]; exact h)).mono (by omega)
        · exact (hK e he (by rw [hRD]; exact h)).mono (by omega)
    · rintro σ H5 ⟨fs, x2, x3, x4, rfl, s5, hD5, hfl, hS, hL⟩
      walk_at "w"
      refine k D H5 fs s5 hD5 hfl fun j x hx => ⟨(hS j x hx).2, fun g => ?_⟩
      rw [hG] at g
      have g2 := Rt.rd (N := M.n.toNat) (fun k ⟨e, he, h⟩ => by rw [← h, n8]; exact rb e he) (fun a k ⟨e, he, h1, h2⟩ => by rw [← h1, n8]; exact (ra e he).1) g
      obtain ⟨y, h1, h2⟩ := hL _ (by rw [hRD]; exact g2)
      rw [Int.toNat_natCast, hx] at h1
      cases h1
      omega
end
end GJ


set_option Elab.async false
set_option linter.all false
set_option maxRecDepth 100000
set_option maxHeartbeats 4000000
namespace GJ
open PySem PySem.Spec PyProof.Rows L2 TL
set_option pp.maxSteps 300
def BAt (bs : List Bool) (k : Int) : Prop := bs[k.toNat]? = some true
theorem BAt.set {bs : List Bool} {k : Int} {a : Nat} (h : BAt bs k) : BAt (bs.set a true) k := by
  unfold BAt at *
  by_cases e : a = k.toNat
  · subst e
    rw [List.getElem?_set_self (List.getElem?_eq_some_iff.mp h).1]
  · rw [List.getElem?_set_ne e]; exact h
theorem BAt.self {bs : List Bool} {k : Int} (h : k.toNat < bs.length) : BAt (bs.set k.toNat true) k := by
  unfold BAt
  rw [List.getElem?_set_self h]
def SndB (G : Int → Prop) (bs : List Bool) : Prop := ∀ k : Nat, bs[k]? = some true → G (k : Int)
theorem SndB.set {G : Int → Prop} {bs : List Bool} {a : Nat} (h : SndB G bs) (g : G (a : Int)) : SndB G (bs.set a true) := by
  intro k e
  by_cases q : a = k
  · subst q; exact g
  · rw [List.getElem?_set_ne q] at e
    exact h k e
section
variable {P : Program} {w : World} {K : PySem.W.Frag} {mg : Str → Option Value} {base : Heap}
set_option hygiene false in
local macro_rules | `(tactic| walk_at "w") => `(tactic| repeat (first
  | refine ⟨_, rfl, ?_⟩
  | refine ⟨_, _, rfl, rfl, (by first | decide | omega), fun r r0 r1 re => ?_⟩
  | refine ⟨_, _, rfl, rfl, (by first | exact Or.inl ⟨by omega, by omega⟩ | exact Or.inr ⟨by omega, by omega⟩ : CMul _ _), ?_⟩
  | refine ⟨_, _, rfl, rfl, (by first | exact ⟨by decide, by decide⟩ | exact ⟨by omega, by omega⟩ : CDiv _ _), ?_⟩
  | refine ⟨_, _, rfl, rfl, (by exact ⟨by decide, by decide, by decide⟩ : CPow _ _), ?_⟩
  | refine ⟨_, _, rfl, rfl, ?_⟩
  | refine ⟨(by rfl : scal _ _ = true), ?_⟩
  | refine Or.inl ⟨_, rfl, ?_⟩
  | refine ⟨_, _, rfl, fun m m0 m1 m2 => ?_⟩
  | refine ⟨_, _, _, _, rfl, rfl, SqL.of (by first | assumption | exact upd_same | exact fx _ | exact fy _), rfl, ?_⟩
  | refine ⟨_, _, _, _, rfl, rfl, (by first | assumption | exact upd_same | exact fx _ | exact fy _), rfl, ?_⟩
  | refine ⟨_, _, _, _, rfl, rfl, SqT.of (by first | assumption | exact upd_same | exact fx _ | exact fy _), rfl, ?_⟩
  | refine ⟨(szle (by omega) : Str.length _ ≤ sizeLine), ?_⟩
  | refine ⟨(szle (by first | omega | (rw [sla]; omega) | (rw [sla, sla]; omega)) : Str.length _ + Str.length _ ≤ sizeLine), ?_⟩
  | refine ⟨_, _, rfl, len_lst (by first | assumption | exact upd_same | exact fx _ | exact fy _), ?_⟩))
set_option hygiene false in
local macro_rules | `(tactic| walk_at "if") => `(tactic| (refine ite2 (fun hc => ?_) (fun hc => ?_) <;>
  simp only [decide_eq_true_eq, Bool.not_eq_true', decide_eq_false_iff_not, V.int.injEq, V.str.injEq, V.bl.injEq, Decidable.not_not, Bool.not_eq_true, V.int_ne, Int.not_lt, Int.not_le, Bool.true_eq_false, Bool.false_eq_true, not_true_eq_false, not_false_eq_true] at hc))
set_option hygiene false in
local macro_rules | `(tactic| walk_at "new") => `(tactic| (refine ⟨by first | decide | (simp only [List.length_cons, List.length_nil, List.length_append, List.length_map]; first | decide | (rw [sizeLine_eq]; omega)), fun p np => ?_⟩))
set_option hygiene false in
local macro_rules | `(tactic| walk_at "yes") => `(tactic| refine itY (by first | rfl | exact decide_eq_true (by first | rfl | omega | assumption) | (simp only [decide_eq_true_eq, Bool.not_eq_true', decide_eq_false_iff_not, V.int.injEq, V.str.injEq, V.bl.injEq]; first | omega | assumption)) ?_)
set_option hygiene false in
local macro_rules | `(tactic| walk_at "no") => `(tactic| refine itN (by first | decide | (simp only [decide_eq_true_eq, Bool.not_eq_true', decide_eq_false_iff_not, V.int.injEq, V.str.injEq, V.bl.injEq, Bool.not_eq_true, Decidable.not_not]; first | omega | assumption)) ?_)
def sp_lawUseful : Sp := fun vs H Q _ => ∃ (v : V) (M : Parts), vs = [v] ∧ DA H v (partsD M) ∧ PV M ∧ ∀ p H' (ns : List Int), Same H H' → H' p = some (.lst (ns.map V.int)) → ns.length ≤ 8 → (∀ k, k ∈ ns ↔ Useful M k) → Q (.ref p) H'
def N__law_useful : List Str := ["_law_parts", "_law_far", "_law_found", "_law_head", "_law_tick", "_law_link", "_law_k"]
theorem sc__law_useful : FnScope N__law_useful ["_law_parts"] (defScope (top 72)) := ⟨rfl, rfl, rfl, by decide +kernel, rfl, by decide +kernel, by decide +kernel⟩
theorem ok__law_useful (En : Env K mg fas fns prs) : Ok P w K mg base "_law_useful" 2 ["_law_parts"] sp_lawUseful := by
  refine ok_mk 53 72 En sc__law_useful (fun _ _ _ _ _ _ us hl => match us, hl with | [_], _ => rfl) (fun vs H Q E h => ?_) (fun f cdv A outer s H vs Q E hr h => ?_)
  · obtain ⟨v, M, rfl, _⟩ := h
    rfl
  · obtain ⟨v, M, rfl, hv, hPV, k⟩ := h
    have hv0 := hv
    obtain ⟨c, b, a, e, xb, xa, xe, rfl, hct, hb, ha, he, jb, ja, je⟩ := hv.parts_inv
    have lxb := jb.len
    have lxa := ja.len
    rw [List.length_map] at lxb lxa
    have cb := hPV.cb
    have ca := hPV.ca
    have n0 := hPV.n0
    have n1 := hPV.n1
    obtain ⟨G, hG⟩ : ∃ G : Int → Prop, G = Rt (fun a => ∃ b ∈ M.bs, b.1 = a) (Ed M) := ⟨_, rfl⟩
    have rb : ∀ e ∈ M.bs, 0 ≤ e.1 ∧ e.1 < M.n := fun e he => ⟨(hPV.bs e he).1, (hPV.bs e he).2.1⟩
    have ra : ∀ e ∈ M.as, (0 ≤ e.1 ∧ e.1 < M.n) ∧ 0 ≤ e.2.2.2 ∧ e.2.2.2 < M.n := fun e he => by
      obtain ⟨h1, _, _, h2⟩ := hPV.as e he
      exact ⟨h1, h2⟩
    have n8 : ((M.n.toNat : Nat) : Int) = M.n := Int.toNat_of_nonneg n0
    have Gb : ∀ e ∈ M.bs, G ((e.1.toNat : Nat) : Int) := fun e he => by rw [hG, Int.toNat_of_nonneg (rb e he).1]; exact .base ⟨e, he, rfl⟩
    have Ga : ∀ e ∈ M.as, G ((e.1.toNat : Nat) : Int) → G ((e.2.2.2.toNat : Nat) : Int) := fun e he h => by
      rw [hG, Int.toNat_of_nonneg (ra e he).1.1] at h
      rw [hG, Int.toNat_of_nonneg (ra e he).2.1]
      exact .step h ⟨e, he, rfl, rfl⟩
    have ix : ∀ {fs : List Bool} {q : Int}, fs.length = M.n.toNat → 0 ≤ q → q < M.n → ixN (fs.map V.bl).length q = some q.toNat := fun {fs q} h1 h2 h3 => by
      unfold ixN
      rw [if_pos h2, if_pos (by rw [List.length_map]; omega)]
    have getB : ∀ {fs : List Bool} {q : Int}, fs.length = M.n.toNat → 0 ≤ q → q < M.n → ∃ x, fs[q.toNat]? = some x ∧ atI (fs.map V.bl) q = some (V.bl x) := fun {fs q} h1 h2 h3 => by
      obtain ⟨v, e1, e2⟩ := at_nn (xs := fs.map V.bl) (i := q) h2 (by rw [List.length_map]; omega)
      rw [List.getElem?_map] at e1
      obtain ⟨x, e3, rfl⟩ := Option.map_eq_some_iff.mp e1
      exact ⟨x, e3, e2⟩
    have getI : ∀ {fs : List Int} {q : Int}, fs.length = M.n.toNat → 0 ≤ q → q < M.n → ∃ x, fs[q.toNat]? = some x ∧ atI (fs.map V.int) q = some (V.int x) := fun {fs q} h1 h2 h3 => by
      obtain ⟨v, e1, e2⟩ := at_nn (xs := fs.map V.int) (i := q) h2 (by rw [List.length_map]; omega)
      rw [List.getElem?_map] at e1
      obtain ⟨x, e3, rfl⟩ := Option.map_eq_some_iff.mp e1
      exact ⟨x, e3, e2⟩
    refine ⟨_, (pss_cons
        (ps_set (i := 1) sc__law_useful.nd rfl (Or.inr rfl) (pe_fn (ok__law_to_end En) (hr.mono (by decide)) (pa_cons (pv 0) pa_nil)))
      (pss_cons
        (ps_set (i := 2) sc__law_useful.nd rfl (Or.inr rfl) (pe_lc (own := [("_law_k", 6)]) (g := gName 6) (tt := tYes) rfl sc__law_useful.nd (pi_range1 rfl (fr_range En) (pa_cons (pe_ix (ix_tupK (K := K) rfl) (pv 0) pe_int (fun _ _ => rfl)) pa_nil)) (blkOk_by (own := [("_law_k", 6)]) (N := N__law_useful) (sc := defScope (top 72)) (by decide +kernel)) (fun _ _ _ _ _ => (pg_name (i := 6) sc__law_useful.nd rfl (Or.inl rfl))) (fun _ _ _ _ _ => pts_nil) (fun _ _ _ _ _ => pe_bl)))
      (pss_cons
        (ps_for PassesOwn.never rfl (pi_listK (K := K) rfl (pe_ix (ix_tupK (K := K) rfl) (pv 0) pe_int (fun _ _ => rfl))) (pg_name (i := 3) sc__law_useful.nd rfl (Or.inl rfl)) (pss_one (ps_asg pe_bl (pg_sub (pv 2) (pe_ix (ix_tupK (K := K) rfl) (pv 3) pe_int (fun _ _ => rfl)) set_list))))
      (pss_cons
        (ps_for PassesOwn.never rfl (pi_range1 rfl (fr_range En) (pa_cons (pe_ix (ix_tupK (K := K) rfl) (pv 0) pe_int (fun _ _ => rfl)) pa_nil)) (pg_name (i := 4) sc__law_useful.nd rfl (Or.inl rfl)) (pss_one (ps_for PassesOwn.never rfl (pi_listK (K := K) rfl (pe_ix (ix_tupK (K := K) rfl) (pv 0) pe_int (fun _ _ => rfl))) (pg_name (i := 5) sc__law_useful.nd rfl (Or.inl rfl)) (pss_one (ps_if (pt_val (pe_ix (ix_listK (K := K) rfl) (pv 2) (pe_ix (ix_tupK (K := K) rfl) (pv 5) pe_int (fun _ _ => rfl)) (fun _ _ => rfl))) (pss_one (ps_asg pe_bl (pg_sub (pv 2) (pe_ix (ix_tupK (K := K) rfl) (pv 5) pe_int (fun _ _ => rfl)) set_list))) pss_nil)))))
      (pss_one
        (ps_ret (pe_lc (own := [("_law_k", 6)]) (g := gName 6) (tt := _) rfl sc__law_useful.nd (pi_range1 rfl (fr_range En) (pa_cons (pe_ix (ix_tupK (K := K) rfl) (pv 0) pe_int (fun _ _ => rfl)) pa_nil)) (blkOk_by (own := [("_law_k", 6)]) (N := N__law_useful) (sc := defScope (top 72)) (by decide +kernel)) (fun _ _ _ _ _ => (pg_name (i := 6) sc__law_useful.nd rfl (Or.inl rfl))) (fun _ _ _ _ _ => (pts_one (PW.pt (pw_and (pt_val (pe_ix (ix_listK (K := K) rfl) (pv 2) (pv 6) (fun _ _ => rfl))) (pw_and1 (pt_cmpR op_lt (pe_ix (ix_listK (K := K) rfl) (pv 1) (pv 6) (fun _ _ => rfl)) pe_int (nomark _))))))) (fun _ _ _ _ _ => (pv 6))))))))), ?_⟩
    walk_at "w"
    refine ⟨_, M, rfl, hv0, hPV, fun A1 H1 far s1 hA1 hfar hfl0 => ?_⟩
    have hct1 := s1 _ _ hct
    walk_at "w"
    refine ⟨by omega, by omega, fun D nD => ?_⟩
    refine lc_rngP (lo := 0) (n := M.n.toNat) (Same.refl H1) nD (by omega) (fun _ v => v = .bl false) ?_ ?_ ?_
    · exact fun _ => rfl
    · intro i H3 R hi s3 hR
      walk_at "w"
      exact hR _ _ (Same.refl _) rfl
    intro H3 ys s13 hD hyl hF
    have nD0 : H D = none := s1.free nD
    have nD1 : H1 D = none := nD
    obtain rfl : ys = (List.replicate M.n.toNat false).map V.bl := map_rep hyl hF
    have s3 := s1.trans s13
    have hb3 := s3 _ _ hb
    have hct3 := s3 _ _ hct
    walk_at "w"
    refine ⟨⟨_, SqL.of hb3⟩, for_list (xs := xb) (fun i σ H' => ∃ (fs : List Bool) (x2 : Option V), σ = [some (.ref c), some (.ref A1), some (.ref D), x2, none, none, none] ∧ Same H1 H' ∧ H' D = some (.lst (fs.map V.bl)) ∧ fs.length = M.n.toNat ∧ SndB G fs ∧ ∀ e ∈ M.bs.take i, BAt fs e.1) ?_ ?_ ?_ ?_⟩
    · refine ⟨_, _, rfl, s13, hD, List.length_replicate, fun j e => ?_, fun e h => nomatch h⟩
      rw [List.getElem?_replicate] at e
      split at e
      · cases e
      · cases e
    · rintro i σ H' hi ⟨fs, x2, rfl, s4, _⟩
      exact SqL.of (s4 _ _ (s1 _ _ hb))
    · rintro i v σ H4 hi ⟨fs, x2, rfl, s4, hD4, hfl, hS, hL⟩
      obtain ⟨d, d1, d2⟩ := jb.get hi
      rw [List.getElem?_map] at d1
      obtain ⟨e, q, rfl⟩ := Option.map_eq_some_iff.mp d1
      obtain ⟨pe, rfl, hpe⟩ := (d2.up (s1.trans s4)).side_inv
      have hpe4 := hpe
      have hme := List.mem_of_getElem? q
      walk_at "w"
      refine ⟨D, fs.map V.bl, e.1, e.1.toNat, rfl, rfl, hD4, ix hfl (rb e hme).1 (rb e hme).2, ?_⟩
      rw [← List.map_set]
      refine ⟨fs.set e.1.toNat true, _, rfl, Same.put s4 nD1, upd_same, by rw [List.length_set]; exact hfl, hS.set (Gb e hme), fun e2 h2 => ?_⟩
      rw [take_succ_get q] at h2
      rcases List.mem_append.mp h2 with h2 | h2
      · exact (hL e2 h2).set
      · rw [List.mem_singleton.mp h2]
        exact BAt.self (by have := rb e hme; omega)
    rintro σ H4 ⟨fs, x2, rfl, s4, hD4, hfl, hS, hL⟩
    rw [List.take_of_length_le (by omega)] at hL
    have hct4 := s4 _ _ (s1 _ _ hct)
    walk_at "w"
    obtain ⟨RD, hRD⟩ : ∃ RD : Nat → Int → Prop, RD = Rd (fun a => ∃ b ∈ M.bs, b.1 = a) (Ed M) := ⟨_, rfl⟩
    refine ⟨by omega, by omega, for_range (lo := 0) (n := M.n.toNat) (fun t σ H' => ∃ (fs : List Bool) (x2 x3 x4 : Option V), σ = [some (.ref c), some (.ref A1), some (.ref D), x2, x3, x4, none] ∧ Same H1 H' ∧ H' D = some (.lst (fs.map V.bl)) ∧ fs.length = M.n.toNat ∧ SndB G fs ∧ ∀ k, RD t k → BAt fs k) ?_ ?_ ?_⟩
    · refine ⟨fs, _, _, _, rfl, s4, hD4, hfl, hS, fun k h => ?_⟩
      rw [hRD] at h
      obtain ⟨e, he, rfl⟩ := h
      exact hL e he
    · rintro t σ H5 ht ⟨fs, x2, x3, x4, rfl, s5, hD5, hfl, hS, hL⟩
      have hct5 := s5 _ _ (s1 _ _ hct)
      have ha5 := s5 _ _ (s1 _ _ ha)
      walk_at "w"
      refine ⟨⟨_, SqL.of ha5⟩, for_list (xs := xa) (fun i σ H' => ∃ (fs : List Bool) (x4 : Option V), σ = [some (.ref c), some (.ref A1), some (.ref D), x2, some (.int (0 + (t : Int))), x4, none] ∧ Same H1 H' ∧ H' D = some (.lst (fs.map V.bl)) ∧ fs.length = M.n.toNat ∧ SndB G fs ∧ (∀ k, RD t k → BAt fs k) ∧ ∀ e ∈ M.as.take i, RD t e.1 → BAt fs e.2.2.2) ?_ ?_ ?_ ?_⟩
      · exact ⟨fs, _, rfl, s5, hD5, hfl, hS, hL, fun e h => nomatch h⟩
      · rintro i σ H' hi ⟨fs, x2, rfl, s6, _⟩
        exact SqL.of (s6 _ _ (s1 _ _ ha))
      · rintro i v σ H6 hi ⟨fs, x4, rfl, s6, hD6, hfl, hS, hL, hK⟩
        obtain ⟨d, d1, d2⟩ := ja.get hi
        rw [List.getElem?_map] at d1
        obtain ⟨e, q, rfl⟩ := Option.map_eq_some_iff.mp d1
        obtain ⟨pe, rfl, hpe⟩ := (d2.up (s1.trans s6)).arc_inv
        have hpe6 := hpe
        have hme := List.mem_of_getElem? q
        have re := ra e hme
        obtain ⟨y1, a1, b1⟩ := getB hfl re.1.1 re.1.2
        walk_at "w"
        refine ⟨_, _, _, _, rfl, rfl, SqL.of hD6, b1, ?_⟩
        walk_at "w"
        cases y1 with
        | true =>
          refine itY rfl ?_
          walk_at "w"
          refine ⟨D, fs.map V.bl, e.2.2.2, e.2.2.2.toNat, rfl, rfl, hD6, ix hfl re.2.1 re.2.2, ?_⟩
          rw [← List.map_set]
          refine ⟨fs.set e.2.2.2.toNat true, _, rfl, Same.put s6 nD1, upd_same, by rw [List.length_set]; exact hfl, hS.set (Ga e hme (hS _ a1)), fun k h => (hL k h).set, fun e2 h2 h3 => ?_⟩
          rw [take_succ_get q] at h2
          rcases List.mem_append.mp h2 with h2 | h2
          · exact (hK e2 h2 h3).set
          · rw [List.mem_singleton.mp h2]
            exact BAt.self (by omega)
        | false =>
          refine itN (fun h => nomatch h) ?_
          walk_at "w"
          refine ⟨fs, _, rfl, s6, hD6, hfl, hS, hL, fun e2 h2 h3 => ?_⟩
          rw [take_succ_get q] at h2
          rcases List.mem_append.mp h2 with h2 | h2
          · exact hK e2 h2 h3
          · rw [List.mem_singleton.mp h2] at h3
            have := hL _ h3
            unfold BAt at this
            rw [a1] at this
            cases this
      · rintro σ H6 ⟨fs, x4, rfl, s6, hD6, hfl, hS, hL, hK⟩
        rw [List.take_of_length_le (by omega)] at hK
        walk_at "w"
        refine ⟨fs, _, _, _, rfl, s6, hD6, hfl, hS, fun k h => ?_⟩
        rw [hRD] at h
        rcases h with h | ⟨a, h, e, he, rfl, rfl⟩
        · exact hL k (by rw [hRD]; exact h)
        · exact hK e he (by rw [hRD]; exact h)
    · rintro σ H5 ⟨fs, x2, x3, x4, rfl, s5, hD5, hfl, hS, hL⟩
      have hct5 := s5 _ _ (s1 _ _ hct)
      have hA5 := s5 _ _ hA1
      walk_at "w"
      refine ⟨by omega, by omega, fun D3 nD3 => ?_⟩
      refine lc_rngF (lo := 0) (n := M.n.toNat) (Same.refl H5) nD3 (by omega) (fun i => BAt fs (0 + (i : Int)) ∧ ∃ x, far[i]? = some x ∧ x < 1000) ?_ ?_ ?_ ?_
      · exact fun _ => rfl
      · exact fun _ => rfl
      · intro i H10 R hi s10 hR
        have hD10 := s10 _ _ hD5
        have hA10 := s10 _ _ hA5
        obtain ⟨y1, a1, b1⟩ := getB hfl (q := 0 + (i : Int)) (by omega) (by omega)
        obtain ⟨y2, a2, b2⟩ := getI hfar (q := 0 + (i : Int)) (by omega) (by omega)
        have ei : (0 + (i : Int)).toNat = i := by omega
        walk_at "w"
        refine ⟨_, _, _, _, rfl, rfl, SqL.of hD10, b1, ?_⟩
        walk_at "w"
        cases y1 with
        | true =>
          refine itY rfl ?_
          walk_at "w"
          refine ⟨_, _, _, _, rfl, rfl, SqL.of hA10, b2, ?_⟩
          walk_at "w"
          refine hR _ _ (Same.refl _) ?_
          rw [decide_eq_true_eq]
          rw [ei] at a2
          exact ⟨fun h => ⟨a1, y2, a2, h⟩, fun ⟨_, x, h1, h2⟩ => by rw [a2] at h1; cases h1; exact h2⟩
        | false =>
          refine itN (fun h => nomatch h) ?_
          refine hR _ _ (Same.refl _) ⟨fun h => (nomatch h), fun ⟨h, _⟩ => ?_⟩
          unfold BAt at h
          rw [a1] at h
          cases h
      intro H10 ns s10 hD3 hnl hns
      walk_at "w"
      refine k D3 H10 ns ((s1.trans s5).trans s10) hD3 (by omega) fun x => ?_
      rw [hns x]
      have eB : ∀ x, 0 ≤ x → x < M.n → (BAt fs x ↔ G x) := fun x h0 h1 => by
        constructor
        · intro h
          have := hS _ h
          rwa [Int.toNat_of_nonneg h0] at this
        · intro g
          rw [hG] at g
          exact hL _ (by
            rw [hRD]
            exact Rt.rd (N := M.n.toNat) (fun k ⟨e, he, h⟩ => by rw [← h, n8]; exact rb e he) (fun a k ⟨e, he, h1, h2⟩ => by rw [← h2, n8]; exact (ra e he).2) g)
      unfold Useful
      rw [← hG]
      constructor
      · rintro ⟨i, hi, rfl, h1, x, h2, h3⟩
        exact ⟨⟨by omega, by omega⟩, (eB _ (by omega) (by omega)).mp h1, by rw [Int.zero_add]; exact (hfl0 i x h2).mp h3⟩
      · rintro ⟨⟨h0, h1⟩, h2, h3⟩
        have e : x = 0 + ((x.toNat : Nat) : Int) := by omega
        refine ⟨x.toNat, by omega, e, ?_, ?_⟩
        · rw [← e]; exact (eB x h0 h1).mpr h2
        · obtain ⟨y, hy⟩ : ∃ y, far[x.toNat]? = some y := ⟨far[x.toNat]'(by omega), List.getElem?_eq_getElem (by omega)⟩
          refine ⟨y, hy, (hfl0 _ _ hy).mpr ?_⟩
          rw [Int.toNat_of_nonneg h0]
          exact h3
end
end GJ


set_option Elab.async false
set_option linter.all false
set_option maxRecDepth 100000
set_option maxHeartbeats 4000000
namespace GJ
open PySem PySem.Spec PyProof.Rows L2 TL
set_option pp.maxSteps 300
theorem cpl_get : ∀ {x y : List Nat} {n : Nat}, n ≤ cpl x y → ∀ {c d : Nat}, x[n]? = some c → y[n]? = some d → (c = d ↔ n + 1 ≤ cpl x y)
  | [], _, _, _, _, _, h, _ => by simp at h
  | _ :: _, [], _, _, _, _, _, h => by simp at h
  | x :: xs, y :: ys, 0, _, c, d, h, g => by
    simp only [List.getElem?_cons_zero, Option.some.injEq] at h g
    subst h g
    unfold cpl
    split
    · exact ⟨fun _ => by omega, fun _ => ‹_›⟩
    · exact ⟨fun h => absurd h ‹_›, fun h => absurd h (by omega)⟩
  | x :: xs, y :: ys, n + 1, l, c, d, h, g => by
    rw [List.getElem?_cons_succ] at h g
    unfold cpl at l ⊢
    split at l
    · rename_i e
      rw [if_pos e, cpl_get (by omega) h g]
      omega
    · omega
theorem cpl_self : ∀ x : List Nat, cpl x x = x.length
  | [] => rfl
  | x :: xs => by
    unfold cpl
    rw [if_pos rfl, cpl_self xs]
    rfl
section
variable {P : Program} {w : World} {K : PySem.W.Frag} {mg : Str → Option Value} {base : Heap}
set_option hygiene false in
local macro_rules | `(tactic| walk_at "w") => `(tactic| repeat (first
  | refine ⟨_, rfl, ?_⟩
  | refine ⟨_, _, rfl, rfl, (by first | decide | omega), fun r r0 r1 re => ?_⟩
  | refine ⟨_, _, rfl, rfl, (by first | exact Or.inl ⟨by omega, by omega⟩ | exact Or.inr ⟨by omega, by omega⟩ : CMul _ _), ?_⟩
  | refine ⟨_, _, rfl, rfl, (by first | exact ⟨by decide, by decide⟩ | exact ⟨by omega, by omega⟩ : CDiv _ _), ?_⟩
  | refine ⟨_, _, rfl, rfl, (by exact ⟨by decide, by decide, by decide⟩ : CPow _ _), ?_⟩
  | refine ⟨_, _, rfl, rfl, ?_⟩
  | refine ⟨(by rfl : scal _ _ = true), ?_⟩
  | refine Or.inl ⟨_, rfl, ?_⟩
  | refine ⟨_, _, rfl, fun m m0 m1 m2 => ?_⟩
  | refine ⟨_, _, _, _, rfl, rfl, SqL.of (by first | assumption | exact upd_same | exact fx _ | exact fy _), rfl, ?_⟩
  | refine ⟨_, _, _, _, rfl, rfl, (by first | assumption | exact upd_same | exact fx _ | exact fy _), rfl, ?_⟩
  | refine ⟨_, _, _, _, rfl, rfl, SqT.of (by first | assumption | exact upd_same | exact fx _ | exact fy _), rfl, ?_⟩
  | refine ⟨(szle (by omega) : Str.length _ ≤ sizeLine), ?_⟩
  | refine ⟨(szle (by first | omega | (rw [sla]; omega) | (rw [sla, sla]; omega)) : Str.length _ + Str.length _ ≤ sizeLine), ?_⟩
  | refine ⟨_, _, rfl, len_lst (by first | assumption | exact upd_same | exact fx _ | exact fy _), ?_⟩))
set_option hygiene false in
local macro_rules | `(tactic| walk_at "if") => `(tactic| (refine ite2 (fun hc => ?_) (fun hc => ?_) <;>
  simp only [decide_eq_true_eq, Bool.not_eq_true', decide_eq_false_iff_not, V.int.injEq, V.str.injEq, V.bl.injEq, Decidable.not_not, Bool.not_eq_true, V.int_ne, Int.not_lt, Int.not_le, Bool.true_eq_false, Bool.false_eq_true, not_true_eq_false, not_false_eq_true] at hc))
set_option hygiene false in
local macro_rules | `(tactic| walk_at "new") => `(tactic| (refine ⟨by first | decide | (simp only [List.length_cons, List.length_nil, List.length_append, List.length_map]; first | decide | (rw [sizeLine_eq]; omega)), fun p np => ?_⟩))
set_option hygiene false in
local macro_rules | `(tactic| walk_at "yes") => `(tactic| refine itY (by first | rfl | exact decide_eq_true (by first | rfl | omega | assumption) | (simp only [decide_eq_true_eq, Bool.not_eq_true', decide_eq_false_iff_not, V.int.injEq, V.str.injEq, V.bl.injEq]; first | omega | assumption)) ?_)
set_option hygiene false in
local macro_rules | `(tactic| walk_at "no") => `(tactic| refine itN (by first | decide | (simp only [decide_eq_true_eq, Bool.not_eq_true', decide_eq_false_iff_not, V.int.injEq, V.str.injEq, V.bl.injEq, Bool.not_eq_true, Decidable.not_not]; first | omega | assumption)) ?_)
def sp_lawWrites : Sp := fun vs H Q _ => ∃ (v : V) (w : Way), vs = [v] ∧ DA H v (wayD w) ∧ w.2.length ≤ 1000 ∧ (tl w.1.2).length ≤ 50 ∧ (∀ a ∈ w.2, (tl a.2.2.1).length ≤ 50) ∧
  ∀ (x : Str), tl x = tl w.1.2 ++ wrL w.2 → Q (.str x) H
def N__law_writes : List Str := ["_law_path", "_law_word_here", "_law_link"]
theorem sc__law_writes : FnScope N__law_writes ["_law_path"] (defScope (top 73)) := ⟨rfl, rfl, rfl, by decide +kernel, rfl, by decide +kernel, by decide +kernel⟩
theorem ok__law_writes (En : Env K mg fas fns prs) : Ok P w K mg base "_law_writes" 1 ["_law_path"] sp_lawWrites := by
  refine ok_mk 54 73 En sc__law_writes (fun _ _ _ _ _ _ us hl => match us, hl with | [_], _ => rfl) (fun vs H Q E h => ?_) (fun f cdv A outer s H vs Q E hr h => ?_)
  · obtain ⟨v, w, rfl, _⟩ := h
    rfl
  · obtain ⟨v, w, rfl, jw, hl, hb1, hb2, k⟩ := h
    obtain ⟨p, sd, l, xs, rfl, hp, hsd, hlx, jl⟩ := jw.way_inv
    have hxl := jl.len
    rw [List.length_map] at hxl
    refine ⟨_, (pss_cons
        (ps_set (i := 1) sc__law_writes.nd rfl (Or.inl rfl) (pe_ix (ix_tupK (K := K) rfl) (pe_ix (ix_tupK (K := K) rfl) (pv 0) pe_int (fun _ _ => rfl)) pe_int (fun _ _ => rfl)))
      (pss_cons
        (ps_for PassesOwn.never rfl (pi_listK (K := K) rfl (pe_ix (ix_tupK (K := K) rfl) (pv 0) pe_int (fun _ _ => rfl))) (pg_name (i := 2) sc__law_writes.nd rfl (Or.inl rfl)) (pss_one (ps_set (i := 1) sc__law_writes.nd rfl (Or.inl rfl) (pe_op op_add_str (pv 1) (pe_ix (ix_tupK (K := K) rfl) (pv 2) pe_int (fun _ _ => rfl))))))
      (pss_cons
        (ps_if (pt_cmpR op_gt (pe_callB (call_lenK (K := K) rfl) (by rfl) (fr_len En) bt_len (pa_cons (pv 0) pa_nil)) pe_int (nomark _)) (pss_one (ps_set (i := 1) sc__law_writes.nd rfl (Or.inl rfl) (pe_op op_add_str (pv 1) (pe_ix (ix_seqK (K := K) rfl) (pe_ix (ix_tupK (K := K) rfl) (pv 0) pe_int (fun _ _ => rfl)) pe_int (fun _ _ => rfl))))) pss_nil)
      (pss_one
        (ps_ret (pv 1)))))), ?_⟩
    walk_at "w"
    refine ⟨⟨_, SqL.of hlx⟩, for_list (xs := xs) (fun i σ H' => ∃ (x : Str) (x2 : Option V), σ = [some (.ref p), some (.str x), x2] ∧ H' = H ∧ tl x = tl w.1.2 ++ wrL (w.2.take i)) ?_ ?_ ?_ ?_⟩
    · exact ⟨_, _, rfl, rfl, by simp [wrL]⟩
    · rintro i σ H' hi ⟨x, x2, rfl, rfl, g⟩
      exact SqL.of hlx
    · rintro i v σ H' hi ⟨x, x2, rfl, rfl, g⟩
      obtain ⟨d, d1, d2⟩ := jl.get hi
      rw [List.getElem?_map] at d1
      obtain ⟨e, q, rfl⟩ := Option.map_eq_some_iff.mp d1
      obtain ⟨pe, rfl, hpe⟩ := d2.arc_inv
      have hme := List.mem_of_getElem? q
      have xl : x.length ≤ 50050 := by
        rw [tl_len, g, List.length_append]
        have h2 := wrL_len (n := 50) (as := w.2.take i) fun a ha => hb2 a (List.mem_of_mem_take ha)
        have h3 : (w.2.take i).length * 50 ≤ 1000 * 50 := Nat.mul_le_mul_right 50 (by rw [List.length_take]; omega)
        omega
      have el : e.2.2.1.length ≤ 50 := hb2 e hme
      walk_at "w"
      show tl _ = _
      rw [tl_append, g, take_succ_get q]
      simp [wrL]
    · rintro σ H' ⟨x, x2, rfl, rfl, g⟩
      rw [List.take_of_length_le (by omega)] at g
      walk_at "w"
      refine ⟨_, _, rfl, len_tup hp, ?_⟩
      walk_at "w"
      exact k x g
def sp_common : Sp := fun vs H Q _ => ∃ (a : Addr) (x y : Str), vs = [.ref a] ∧ H a = some (.lst [.str x, .str y]) ∧ (tl x).length ≤ 90000 ∧ (tl y).length ≤ 90000 ∧ ∀ z : Str, tl z = (tl x).take (cpl (tl x) (tl y)) → Q (.str z) H
def cmI (x y : List Nat) : Nat → List Nat
  | 0 => x
  | 1 => x
  | _ => x.take (cpl x y)
def N__law_common : List Str := ["_law_words", "_law_word_here", "_law_text", "_law_size"]
theorem sc__law_common : FnScope N__law_common ["_law_words"] (defScope (top 74)) := ⟨rfl, rfl, rfl, by decide +kernel, rfl, by decide +kernel, by decide +kernel⟩
theorem ok__law_common (En : Env K mg fas fns prs) : Ok P w K mg base "_law_common" 1 ["_law_words"] sp_common := by
  refine ok_mk 55 74 En sc__law_common (fun _ _ _ _ _ _ us hl => match us, hl with | [_], _ => rfl) (fun vs H Q E h => ?_) (fun f cdv A outer s H vs Q E hr h => ?_)
  · obtain ⟨a, x, y, rfl, _⟩ := h
    rfl
  · obtain ⟨a, x, y, rfl, ha, hx, hy, k⟩ := h
    refine ⟨_, (pss_cons
        (ps_set (i := 1) sc__law_common.nd rfl (Or.inl rfl) (pe_ix (ix_listK (K := K) rfl) (pv 0) pe_int (fun _ _ => rfl)))
      (pss_cons
        (ps_for PassesOwn.never rfl (pi_listK (K := K) rfl (pv 0)) (pg_name (i := 2) sc__law_common.nd rfl (Or.inl rfl)) (pss_cons
        (ps_set (i := 3) sc__law_common.nd rfl (Or.inl rfl) pe_int)
      (pss_cons
        (ps_while PassesOwn.never (PW.pt (pw_and (pt_cmpR op_lt (pv 3) (pe_callB (call_lenK (K := K) rfl) (by rfl) (fr_len En) bt_len (pa_cons (pv 1) pa_nil)) (nomark _)) (pw_and (pt_cmpR op_lt (pv 3) (pe_callB (call_lenK (K := K) rfl) (by rfl) (fr_len En) bt_len (pa_cons (pv 2) pa_nil)) (nomark _)) (pw_and1 (pt_cmpR op_eq (pe_ix ix_str (pv 1) (pv 3) (fun _ _ => rfl)) (pe_ix ix_str (pv 2) (pv 3) (fun _ _ => rfl)) (nomark _)))))) (pss_one (ps_set (i := 3) sc__law_common.nd rfl (Or.inl rfl) (pe_op op_add (pv 3) pe_int))))
      (pss_one
        (ps_set (i := 1) sc__law_common.nd rfl (Or.inl rfl) (pe_slice sl_str (pv 1) po_none (po_some (pv 3))))))))
      (pss_one
        (ps_ret (pv 1))))), ?_⟩
    walk_at "w"
    refine ⟨⟨_, SqL.of ha⟩, for_list (xs := [.str x, .str y]) (fun i σ H' => ∃ (z : Str) (x2 x3 : Option V), σ = [some (.ref a), some (.str z), x2, x3] ∧ H' = H ∧ tl z = cmI (tl x) (tl y) i) ?_ ?_ ?_ ?_⟩
    · exact ⟨_, _, _, rfl, rfl, rfl⟩
    · rintro i σ H' hi ⟨z, x2, x3, rfl, rfl, g⟩
      exact SqL.of ha
    · rintro i v σ H' hi ⟨z, x2, x3, rfl, rfl, g⟩
      obtain ⟨t, rfl, ht, hz, hn⟩ : ∃ t : Str, v = .str t ∧ (tl t).length ≤ 90000 ∧ (tl z).length ≤ 90000 ∧ (tl z).take (cpl (tl z) (tl t)) = cmI (tl x) (tl y) (i + 1) := by
        match i, hi, g with
        | 0, hi, g => cases hi; exact ⟨x, rfl, hx, by rw [g]; exact hx, by rw [g]; show (tl x).take (cpl (tl x) (tl x)) = tl x; rw [cpl_self, List.take_length]⟩
        | 1, hi, g => cases hi; exact ⟨y, rfl, hy, by rw [g]; exact hx, by rw [g]; rfl⟩
        | n + 2, hi, g => simp at hi
      have lz : z.length = (tl z).length := rfl
      have lt : t.length = (tl t).length := rfl
      obtain ⟨c, hcc⟩ : ∃ c, c = cpl (tl z) (tl t) := ⟨_, rfl⟩
      have cl := cpl_le (tl z) (tl t)
      rw [← hcc] at cl hn
      walk_at "w"
      refine ⟨fun q σ H'' => ∃ n : Nat, σ = [some (.ref a), some (.str z), some (.str t), some (.int n)] ∧ H'' = H' ∧ q = c - n ∧ n ≤ c, ⟨c, 0, rfl, rfl, rfl, Nat.zero_le _⟩, ?_⟩
      rintro q σ H'' ⟨n, rfl, rfl, rfl, hnc⟩
      walk_at "w"
      have fin : n = c → ∃ (z' : Str) (x2 x3 : Option V), [some (V.ref a), some (.str (cutS z none (some (n : Int)))), some (.str t), some (.int n)] = [some (.ref a), some (.str z'), x2, x3] ∧ H'' = H'' ∧ tl z' = cmI (tl x) (tl y) (i + 1) := fun e =>
        ⟨_, _, _, rfl, rfl, by rw [tl_pre (by omega), Int.toNat_natCast, e]; exact hn⟩
      refine ⟨_, _, rfl, len_str (by omega), ?_⟩
      walk_at "w"
      walk_at "if"
      rotate_left
      · walk_at "w"
        exact fin (by omega)
      have n1 : n < (tl z).length := by omega
      walk_at "w"
      refine ⟨_, _, rfl, len_str (by omega), ?_⟩
      walk_at "w"
      walk_at "if"
      rotate_left
      · walk_at "w"
        exact fin (by omega)
      have n2 : n < (tl t).length := by omega
      have g1 := List.getElem?_eq_getElem n1
      have g2 := List.getElem?_eq_getElem n2
      have cg := cpl_get (n := n) (by omega) g1 g2
      rw [← hcc] at cg
      generalize (tl z)[n] = c1 at *
      generalize (tl t)[n] = c2 at *
      walk_at "w"
      refine ⟨_, _, c1, rfl, rfl, szle (by omega), atI_nat g1, ?_⟩
      walk_at "w"
      refine ⟨_, _, c2, rfl, rfl, szle (by omega), atI_nat g2, ?_⟩
      walk_at "w"
      walk_at "if"
      · have := cg.mp (by simpa using hc)
        refine ⟨_, fun _ _ h => h, ?_⟩
        walk_at "w"
        exact ⟨c - (n + 1), by omega, n + 1, rfl, rfl, rfl, this⟩
      · have : ¬ n + 1 ≤ c := fun h => hc (by rw [cg.mpr h])
        walk_at "w"
        exact fin (by omega)
    · rintro σ H' ⟨z, x2, x3, rfl, rfl, g⟩
      walk_at "w"
      exact k z g
end
end GJ


set_option Elab.async false
set_option linter.all false
set_option maxRecDepth 100000
set_option maxHeartbeats 4000000
namespace GJ
open PySem PySem.Spec PyProof.Rows L2 TL
set_option pp.maxSteps 300
def hd1 (D : Addr) (H : Hp) : Hp := fun b => if b = D then none else H b
theorem hd1_le (D : Addr) (H : Hp) : Same (hd1 D H) H := fun b o e => by
  unfold hd1 at e
  split at e
  · cases e
  · exact e
theorem hd1_of {D b : Addr} {H : Hp} {o : HO} (n : b ≠ D) (h : H b = some o) : hd1 D H b = some o := by
  unfold hd1
  rw [if_neg n]
  exact h
theorem hd1_up {D : Addr} {H H' : Hp} (s : Same H H') : Same (hd1 D H) (hd1 D H') := fun b o e => by
  unfold hd1 at e ⊢
  split at e
  · cases e
  · rename_i n
    rw [if_neg n]
    exact s _ _ e
theorem hd1_put (D : Addr) (H : Hp) (o : HO) : hd1 D (upd H D o) = hd1 D H := by
  funext b
  unfold hd1
  by_cases n : b = D
  · rw [if_pos n, if_pos n]
  · rw [if_neg n, if_neg n, upd_ne n]
abbrev FF : Type := Nat → V → Hp → Prop
def FUp (F : FF) : Prop := ∀ i v H H', Same H H' → F i v H → F i v H'
/-- a list at D that grows: what its items are, with D out of sight -/
def GL (D : Addr) (H : Hp) (vs : List V) (F : FF) : Prop := H D = some (.lst vs) ∧ ∀ i v, vs[i]? = some v → F i v (hd1 D H)
section
variable {D : Addr} {H H' : Hp} {vs : List V} {F : FF}
theorem GL.up (u : FUp F) (g : GL D H vs F) (s : Same H H') : GL D H' vs F := ⟨s _ _ g.1, fun i v e => u _ _ _ _ (hd1_up s) (g.2 i v e)⟩
theorem GL.app {v : V} (g : GL D H vs F) (h : F vs.length v (hd1 D H)) : GL D (upd H D (.lst (vs ++ [v]))) (vs ++ [v]) F := by
  refine ⟨upd_same, fun i w e => ?_⟩
  rw [hd1_put]
  rcases get_snoc rfl e with e | ⟨rfl, rfl⟩
  · exact g.2 i w e
  · exact h
theorem GL.start (D : Addr) (H : Hp) (F : FF) : GL D (upd H D (.lst [])) [] F := ⟨upd_same, fun i v e => by simp at e⟩
theorem GL.all (u : FUp F) (g : GL D H vs F) : ∀ i v, vs[i]? = some v → F i v H := fun i v e => u _ _ _ _ (hd1_le D H) (g.2 i v e)
end
section
variable {K : PySem.W.Frag} {H H1 : Hp} {D a : Addr} {te : TE} {vs : List Nat} {σ : L2.St} {j : Nat} {Qd : Hp → Prop} {xs : List V}
abbrev GoTt (K : PySem.W.Frag) (a : Addr) (D : Addr) (H1 : Hp) (Qd : Hp → Prop) (g : TG) (tt : TT) (te : TE) (σ : L2.St) (vs : List Nat) : Prop :=
  ∃ W : Nat → Nat → Hp → Prop, (∃ m, W 0 m (upd H1 D (.lst []))) ∧ ∀ i m H, W i m H →
      ((Itt K a).stop i H ∧ Qd H) ∨ ((Itt K a).go i H ∧ ∃ Nx : Hp → Prop, (∀ H', Nx H' → ∃ m', m' < m ∧ W (i + 1) m' H') ∧ ∀ x H', (Itt K a).yld i H x H' → g x (wipe σ vs) H' fun σ2 H2 => wipe σ2 vs = wipe σ vs ∧ tt σ2 H2 fun b H3 =>
        if b = true then te σ2 H3 fun y H4 => ∃ acc, H4 D = some (.lst acc) ∧ acc.length < sizeLine ∧ Nx (upd H4 D (.lst (acc ++ [y]))) else Nx H3)
/-- [.. for x in xs], xs a tuple; what the items are may hang on the heap -/
theorem lc_tupF (F : FF) (u : FUp F) (s1 : Same H H1) (nD : H1 D = none) (hx : H a = some (.tup xs)) (hn : xs.length ≤ 100000) (hw : Wp σ vs j)
    (hs : ∀ (i : Nat) x H3 (R : V → Hp → Prop), xs[i]? = some x → Same H H3 → (∃ acc, H3 D = some (.lst acc)) → (∀ y H4, Same H3 H4 → F i y (hd1 D H4) → R y H4) → te (sl σ vs j x) H3 R)
    (hd : ∀ H3 ys, Same H H3 → H3 D = some (.lst ys) → ys.length = xs.length → (∀ (i : Nat) y, ys[i]? = some y → F i y H3) → Qd H3) : GoTt K a D H1 Qd (gName j) tYes te σ vs := by
  have nD0 : H D = none := s1.free nD
  refine lc_tup (xs := xs) (fun i H' => ∃ ys : List V, Same H H' ∧ GL D H' ys F ∧ ys.length = i) ⟨[], s1.trans (Same.new nD), GL.start D H1 F, rfl⟩ ?_ ?_ ?_
  · rintro i H3 _ ⟨_, s3, _⟩
    exact SqT.of (s3 _ _ hx)
  · rintro i x H3 hi ⟨ys, s3, g, hl⟩
    have hi2 := (List.getElem?_eq_some_iff.mp hi).1
    refine ⟨hw _, ?_⟩
    refine hs i x H3 _ hi s3 ⟨_, g.1⟩ fun y H4 s4 hy => ?_
    have g4 := g.up u s4
    refine ⟨ys, g4.1, by rw [hl]; exact small5 (by omega), ys ++ [y], Same.put (s3.trans s4) nD0, g4.app (by rw [hl]; exact hy), by rw [List.length_append, hl]; rfl⟩
  · rintro H3 ⟨ys, s3, g, hl⟩
    exact hd H3 ys s3 g.1 hl (g.all u)
end
/-- the states of a way -/
def sts (w : Way) : List Int := w.1.1 :: w.2.map (·.2.2.2)
theorem sts_len (w : Way) : (sts w).length = w.2.length + 1 := by
  unfold sts
  rw [List.length_cons, List.length_map]
theorem sts_go : ∀ (as : List Arc) (s : Int) (n : Nat), n ≤ as.length → (s :: as.map (·.2.2.2))[n]? = some (lastSt s (as.take n))
  | _, s, 0, _ => rfl
  | a :: as, s, n + 1, h => by
    rw [List.getElem?_cons_succ]
    exact sts_go as a.2.2.2 n (by simpa using h)
theorem sts_get {w : Way} {n : Nat} (h : n ≤ w.2.length) : (sts w)[n]? = some (lastSt w.1.1 (w.2.take n)) := sts_go w.2 w.1.1 n h
section
variable {P : Program} {w : World} {K : PySem.W.Frag} {mg : Str → Option Value} {base : Heap}
set_option hygiene false in
local macro_rules | `(tactic| walk_at "w") => `(tactic| repeat (first
  | refine ⟨_, rfl, ?_⟩
  | refine ⟨_, _, rfl, rfl, (by first | decide | omega), fun r r0 r1 re => ?_⟩
  | refine ⟨_, _, rfl, rfl, (by first | exact Or.inl ⟨by omega, by omega⟩ | exact Or.inr ⟨by omega, by omega⟩ : CMul _ _), ?_⟩
  | refine ⟨_, _, rfl, rfl, (by first | exact ⟨by decide, by decide⟩ | exact ⟨by omega, by omega⟩ : CDiv _ _), ?_⟩
  | refine ⟨_, _, rfl, rfl, (by exact ⟨by decide, by decide, by decide⟩ : CPow _ _), ?_⟩
  | refine ⟨_, _, rfl, rfl, ?_⟩
  | refine ⟨(by rfl : scal _ _ = true), ?_⟩
  | refine Or.inl ⟨_, rfl, ?_⟩
  | refine ⟨_, _, rfl, fun m m0 m1 m2 => ?_⟩
  | refine ⟨_, _, _, _, rfl, rfl, SqL.of (by first | assumption | exact upd_same | exact fx _ | exact fy _), rfl, ?_⟩
  | refine ⟨_, _, _, _, rfl, rfl, (by first | assumption | exact upd_same | exact fx _ | exact fy _), rfl, ?_⟩
  | refine ⟨_, _, _, _, rfl, rfl, SqT.of (by first | assumption | exact upd_same | exact fx _ | exact fy _), rfl, ?_⟩
  | refine ⟨(szle (by omega) : Str.length _ ≤ sizeLine), ?_⟩
  | refine ⟨(szle (by first | omega | (rw [sla]; omega) | (rw [sla, sla]; omega)) : Str.length _ + Str.length _ ≤ sizeLine), ?_⟩
  | refine ⟨_, _, rfl, len_lst (by first | assumption | exact upd_same | exact fx _ | exact fy _), ?_⟩))
set_option hygiene false in
local macro_rules | `(tactic| walk_at "if") => `(tactic| (refine ite2 (fun hc => ?_) (fun hc => ?_) <;>
  simp only [decide_eq_true_eq, Bool.not_eq_true', decide_eq_false_iff_not, V.int.injEq, V.str.injEq, V.bl.injEq, Decidable.not_not, Bool.not_eq_true, V.int_ne, Int.not_lt, Int.not_le, Bool.true_eq_false, Bool.false_eq_true, not_true_eq_false, not_false_eq_true] at hc))
set_option hygiene false in
local macro_rules | `(tactic| walk_at "new") => `(tactic| (refine ⟨by first | decide | (simp only [List.length_cons, List.length_nil, List.length_append, List.length_map]; first | decide | (rw [sizeLine_eq]; omega)), fun p np => ?_⟩))
set_option hygiene false in
local macro_rules | `(tactic| walk_at "yes") => `(tactic| refine itY (by first | rfl | exact decide_eq_true (by first | rfl | omega | assumption) | (simp only [decide_eq_true_eq, Bool.not_eq_true', decide_eq_false_iff_not, V.int.injEq, V.str.injEq, V.bl.injEq]; first | omega | assumption)) ?_)
set_option hygiene false in
local macro_rules | `(tactic| walk_at "no") => `(tactic| refine itN (by first | decide | (simp only [decide_eq_true_eq, Bool.not_eq_true', decide_eq_false_iff_not, V.int.injEq, V.str.injEq, V.bl.injEq, Bool.not_eq_true, Decidable.not_not]; first | omega | assumption)) ?_)
def N__law_lag : List Str := ["_law_one", "_law_two", "_law_size"]
theorem sc__law_lag : FnScope N__law_lag ["_law_one", "_law_two"] (defScope (top 75)) := ⟨rfl, rfl, rfl, by decide +kernel, rfl, by decide +kernel, by decide +kernel⟩
theorem ok__law_lag (En : Env K mg fas fns prs) : Ok P w K mg base "_law_lag" 2 ["_law_one", "_law_two"] sp_lagOf := by
  refine ok_mk 56 75 En sc__law_lag (fun _ _ _ _ _ _ us hl => match us, hl with | [_, _], _ => rfl) (fun vs H Q E h => ?_) (fun f cdv A outer s H vs Q E hr h => ?_)
  · obtain ⟨x, y, rfl, _⟩ := h
    rfl
  · obtain ⟨x, y, rfl, hx, hy, k⟩ := h
    have lx : x.length = (tl x).length := rfl
    have ly : y.length = (tl y).length := rfl
    have cl := cpl_le (tl x) (tl y)
    refine ⟨_, (pss_cons
        (ps_set (i := 2) sc__law_lag.nd rfl (Or.inl rfl) (pe_callB (call_lenK (K := K) rfl) (by rfl) (fr_len En) bt_len (pa_cons (pe_fn (ok__law_common En) (hr.mono (by decide)) (pa_cons (pe_lst (pa_cons (pv 0) (pa_cons (pv 1) pa_nil))) pa_nil)) pa_nil)))
      (pss_one
        (ps_ret (pe_tup (pa_cons (pe_slice sl_str (pv 0) (po_some (pv 2)) po_none) (pa_cons (pe_slice sl_str (pv 1) (po_some (pv 2)) po_none) pa_nil)))))), ?_⟩
    walk_at "w"
    refine ⟨szr rfl, fun p np => ?_⟩
    refine ⟨p, x, y, rfl, upd_same, hx, hy, fun z hz => ?_⟩
    have lz : z.length = cpl (tl x) (tl y) := by
      rw [tl_len, hz, List.length_take]
      omega
    walk_at "w"
    refine ⟨_, _, rfl, len_str (by omega), ?_⟩
    rw [lz]
    walk_at "w"
    refine ⟨szr rfl, fun q nq => ?_⟩
    refine k q _ _ _ ((Same.new np).trans (Same.new nq)) ?_ ?_ upd_same
    · rw [tl_suf (by omega), Int.toNat_natCast]
    · rw [tl_suf (by omega), Int.toNat_natCast]
end
end GJ


set_option Elab.async false
set_option linter.all false
set_option maxRecDepth 100000
set_option maxHeartbeats 4000000
namespace GJ
open PySem PySem.Spec PyProof.Rows L2 TL
set_option pp.maxSteps 300
theorem das_str (H : Hp) : ∀ ls : List Str, DAs H (ls.map V.str) (ls.map PyData.str)
  | [] => .nil
  | x :: ls => .cons (.str x) (das_str H ls)
theorem eqv_strs : ∀ a b : List Str, PyData.eqv (.list (a.map PyData.str)) (.list (b.map PyData.str)) = true ↔ a = b
  | [], [] => by simp [PyData.eqv, PyData.eqvAll]
  | [], _ :: _ => by simp [PyData.eqv, PyData.eqvAll]
  | _ :: _, [] => by simp [PyData.eqv, PyData.eqvAll]
  | x :: a, y :: b => by
    have ih := eqv_strs a b
    simp only [PyData.eqv] at ih
    simp [PyData.eqv, PyData.eqvAll, ih]
theorem read_inj : ∀ {as bs : List Arc}, (∀ a ∈ as, ∃ c, a.2.1 = ⟨#[c]⟩) → (∀ a ∈ bs, ∃ c, a.2.1 = ⟨#[c]⟩) → (as.map fun a => tl a.2.1).flatten = (bs.map fun a => tl a.2.1).flatten → as.map (·.2.1) = bs.map (·.2.1)
  | [], [], _, _, _ => rfl
  | [], b :: bs, _, h, e => by
    obtain ⟨c, hc⟩ := h b List.mem_cons_self
    rw [List.map_cons, hc] at e
    exact nomatch e
  | a :: as, [], h, _, e => by
    obtain ⟨c, hc⟩ := h a List.mem_cons_self
    rw [List.map_cons, hc] at e
    exact nomatch e
  | a :: as, b :: bs, h, g, e => by
    obtain ⟨c, hc⟩ := h a List.mem_cons_self
    obtain ⟨d, hd⟩ := g b List.mem_cons_self
    rw [List.map_cons, List.map_cons, hc, hd, List.flatten_cons, List.flatten_cons, tl_one, tl_one, List.singleton_append, List.singleton_append, List.cons.injEq] at e
    rw [List.map_cons, List.map_cons, hc, hd, e.1, read_inj (fun x hx => h x (List.mem_cons_of_mem _ hx)) (fun x hx => g x (List.mem_cons_of_mem _ hx)) e.2]
theorem readL_iff {wa wb : Way} (h : ∀ a ∈ wa.2, ∃ c, a.2.1 = ⟨#[c]⟩) (g : ∀ a ∈ wb.2, ∃ c, a.2.1 = ⟨#[c]⟩) : wa.2.map (·.2.1) = wb.2.map (·.2.1) ↔ readL wa = readL wb := by
  refine ⟨fun e => ?_, fun e => read_inj h g e⟩
  have := congrArg (fun l : List Str => (l.map tl).flatten) e
  simp only [List.map_map] at this
  exact this
section
variable {P : Program} {w : World} {K : PySem.W.Frag} {mg : Str → Option Value} {base : Heap}
set_option hygiene false in
local macro_rules | `(tactic| walk_at "w") => `(tactic| repeat (first
  | refine ⟨_, rfl, ?_⟩
  | refine ⟨_, _, rfl, rfl, (by first | decide | omega), fun r r0 r1 re => ?_⟩
  | refine ⟨_, _, rfl, rfl, (by first | exact Or.inl ⟨by omega, by omega⟩ | exact Or.inr ⟨by omega, by omega⟩ : CMul _ _), ?_⟩
  | refine ⟨_, _, rfl, rfl, (by first | exact ⟨by decide, by decide⟩ | exact ⟨by omega, by omega⟩ : CDiv _ _), ?_⟩
  | refine ⟨_, _, rfl, rfl, (by exact ⟨by decide, by decide, by decide⟩ : CPow _ _), ?_⟩
  | refine ⟨_, _, rfl, rfl, ?_⟩
  | refine ⟨(by rfl : scal _ _ = true), ?_⟩
  | refine Or.inl ⟨_, rfl, ?_⟩
  | refine ⟨_, _, rfl, fun m m0 m1 m2 => ?_⟩
  | refine ⟨_, _, _, _, rfl, rfl, SqL.of (by first | assumption | exact upd_same | exact fx _ | exact fy _), rfl, ?_⟩
  | refine ⟨_, _, _, _, rfl, rfl, (by first | assumption | exact upd_same | exact fx _ | exact fy _), rfl, ?_⟩
  | refine ⟨_, _, _, _, rfl, rfl, SqT.of (by first | assumption | exact upd_same | exact fx _ | exact fy _), rfl, ?_⟩
  | refine ⟨(szle (by omega) : Str.length _ ≤ sizeLine), ?_⟩
  | refine ⟨(szle (by first | omega | (rw [sla]; omega) | (rw [sla, sla]; omega)) : Str.length _ + Str.length _ ≤ sizeLine), ?_⟩
  | refine ⟨_, _, rfl, len_lst (by first | assumption | exact upd_same | exact fx _ | exact fy _), ?_⟩))
set_option hygiene false in
local macro_rules | `(tactic| walk_at "if") => `(tactic| (refine ite2 (fun hc => ?_) (fun hc => ?_) <;>
  simp only [decide_eq_true_eq, Bool.not_eq_true', decide_eq_false_iff_not, V.int.injEq, V.str.injEq, V.bl.injEq, Decidable.not_not, Bool.not_eq_true, V.int_ne, Int.not_lt, Int.not_le, Bool.true_eq_false, Bool.false_eq_true, not_true_eq_false, not_false_eq_true] at hc))
set_option hygiene false in
local macro_rules | `(tactic| walk_at "new") => `(tactic| (refine ⟨by first | decide | (simp only [List.length_cons, List.length_nil, List.length_append, List.length_map]; first | decide | (rw [sizeLine_eq]; omega)), fun p np => ?_⟩))
set_option hygiene false in
local macro_rules | `(tactic| walk_at "yes") => `(tactic| refine itY (by first | rfl | exact decide_eq_true (by first | rfl | omega | assumption) | (simp only [decide_eq_true_eq, Bool.not_eq_true', decide_eq_false_iff_not, V.int.injEq, V.str.injEq, V.bl.injEq]; first | omega | assumption)) ?_)
set_option hygiene false in
local macro_rules | `(tactic| walk_at "no") => `(tactic| refine itN (by first | decide | (simp only [decide_eq_true_eq, Bool.not_eq_true', decide_eq_false_iff_not, V.int.injEq, V.str.injEq, V.bl.injEq, Bool.not_eq_true, Decidable.not_not]; first | omega | assumption)) ?_)
def sp_lawIsGrowth : Sp := fun vs H Q _ => ∃ (v u : V) (M : Parts) (d : PyData), vs = [v, u] ∧ DA H v (partsD M) ∧ PV M ∧ DA H u d ∧ Ld d ∧
  ∀ H' (r : Bool), Same H H' → (r = true ↔ Grow M d) → Q (.bl r) H'
def N__law_is_growth : List Str := ["_law_parts", "_law_paper", "_law_places", "_law_path", "_law_size", "_law_at", "_law_good", "_law_lags", "_law_many", "_law_words", "_law_k", "_law_read", "_law_link"]
theorem sc__law_is_growth : FnScope N__law_is_growth ["_law_parts", "_law_paper"] (defScope (top 76)) := ⟨rfl, rfl, rfl, by decide +kernel, rfl, by decide +kernel, by decide +kernel⟩
theorem ok__law_is_growth (En : Env K mg fas fns prs) : Ok P w K mg base "_law_is_growth" 5 ["_law_parts", "_law_paper"] sp_lawIsGrowth := by
  refine ok_mk 57 76 En sc__law_is_growth (fun _ _ _ _ _ _ us hl => match us, hl with | [_, _], _ => rfl) (fun vs H Q E h => ?_) (fun f cdv A outer s H vs Q E hr h => ?_)
  · obtain ⟨v, u, M, d, rfl, _⟩ := h
    rfl
  · obtain ⟨v, u, M, d, rfl, hv, hPV, jd, Lb, k⟩ := h
    have hv0 := hv
    obtain ⟨c, b, a, e, xb, xa, xe, rfl, hct, hb, ha, he, jb, ja, je⟩ := hv.parts_inv
    have no : (¬ Grow M d) → ∀ H', Same H H' → Q (.bl false) H' := fun h H' s => k _ _ s ⟨fun q => (nomatch q), fun q => absurd q h⟩
    refine ⟨_, (pss_cons
        (ps_if (PW.pt (pw_or (pt_not (pt_val (pe_callB (call_isiK2 (K := K) rfl) (by rfl) (fr_isinstance En) bt_isinstance (pa_cons (pv 1) (pa_cons (pe_bltn (v := .ty "tuple") (by rfl) (fr_tuple En) bt_tuple rfl) pa_nil))))) (pw_or (pt_cmpR op_ne (pe_callB (call_lenK (K := K) rfl) (by rfl) (fr_len En) bt_len (pa_cons (pv 1) pa_nil)) pe_int (nomark _)) (pw_or1 (pt_not (pt_val (pe_fn (ok__law_is_integer En) (hr.mono (by decide)) (pa_cons (pe_ix (ix_tupK (K := K) rfl) (pv 1) pe_int (fun _ _ => rfl)) pa_nil)))))))) (pss_one (ps_ret pe_bl)) pss_nil)
      (pss_cons
        (ps_set (i := 2) sc__law_is_growth.nd rfl (Or.inl rfl) (pe_lst pa_nil))
      (pss_cons
        (ps_for PassesOwn.never rfl (pi_tupK (K := K) rfl (pe_slice (sl_tupK (K := K) rfl) (pv 1) po_none (po_some pe_int))) (pg_name (i := 3) sc__law_is_growth.nd rfl (Or.inl rfl)) (pss_cons
        (ps_if (pt_not (pt_val (pe_fn (ok__law_is_way En) (hr.mono (by decide)) (pa_cons (pv 0) (pa_cons (pv 3) (pa_cons pe_bl pa_nil)))))) (pss_one (ps_ret pe_bl)) pss_nil)
      (pss_one
        (ps_expr (pe_bm PySem.F.plainAttrs_list PySem.F.slot_list_append PySem.F.type_list_append mt_append (pv 2) (pa_cons (pe_op op_cat (pe_lst (pa_cons (pe_ix (ix_tupK (K := K) rfl) (pe_ix (ix_tupK (K := K) rfl) (pv 3) pe_int (fun _ _ => rfl)) pe_int (fun _ _ => rfl)) pa_nil)) (pe_lc (own := [("_law_link", 12)]) (g := gName 12) (tt := tYes) rfl sc__law_is_growth.nd (pi_listK (K := K) rfl (pe_ix (ix_tupK (K := K) rfl) (pv 3) pe_int (fun _ _ => rfl))) (blkOk_by (own := [("_law_link", 12)]) (N := N__law_is_growth) (sc := defScope (top 76)) (by decide +kernel)) (fun _ _ _ _ _ => (pg_name (i := 12) sc__law_is_growth.nd rfl (Or.inl rfl))) (fun _ _ _ _ _ => pts_nil) (fun _ _ _ _ _ => (pe_ix (ix_tupK (K := K) rfl) (pv 12) pe_int (fun _ _ => rfl))))) pa_nil))))))
      (pss_cons
        (ps_set (i := 4) sc__law_is_growth.nd rfl (Or.inl rfl) (pe_op op_sub (pe_callB (call_lenK (K := K) rfl) (by rfl) (fr_len En) bt_len (pa_cons (pe_ix (ix_listK (K := K) rfl) (pv 2) pe_int (fun _ _ => rfl)) pa_nil)) pe_int))
      (pss_cons
        (ps_set (i := 5) sc__law_is_growth.nd rfl (Or.inl rfl) (pe_ix (ix_tupK (K := K) rfl) (pv 1) pe_int (fun _ _ => rfl)))
      (pss_cons
        (ps_if (PW.pt (pw_or (pt_cmpR op_ne (pe_callB (call_lenK (K := K) rfl) (by rfl) (fr_len En) bt_len (pa_cons (pe_ix (ix_listK (K := K) rfl) (pv 2) pe_int (fun _ _ => rfl)) pa_nil)) (pe_op op_add (pv 4) pe_int) (nomark _)) (pw_or (pt_cmpR op_lt (pv 5) pe_int (nomark _)) (pw_or1 (pt_cmpR op_ge (pv 5) (pv 4) (nomark _)))))) (pss_one (ps_ret pe_bl)) pss_nil)
      (pss_cons
        (ps_set (i := 6) sc__law_is_growth.nd rfl (Or.inl rfl) (pe_fn (ok__law_useful En) (hr.mono (by decide)) (pa_cons (pv 0) pa_nil)))
      (pss_cons
        (ps_set (i := 7) sc__law_is_growth.nd rfl (Or.inl rfl) (pe_lst pa_nil))
      (pss_cons
        (ps_for PassesOwn.never rfl (pi_listK (K := K) rfl (pe_lst (pa_cons (pv 5) (pa_cons (pv 4) pa_nil)))) (pg_name (i := 8) sc__law_is_growth.nd rfl (Or.inr rfl)) (pss_cons
        (ps_setLc (i := 9) (own := [("_law_path", 3)]) (g := gName 3) (tt := tYes) rfl sc__law_is_growth.nd rfl rfl (sw_true rfl rfl rfl (by decide +kernel)) (pi_tupK (K := K) rfl (pe_slice (sl_tupK (K := K) rfl) (pv 1) po_none (po_some pe_int))) (blkOk_by (own := [("_law_path", 3)]) (N := N__law_is_growth) (sc := defScope (top 76)) (by decide +kernel)) (fun _ _ _ _ _ => (pg_name (i := 3) sc__law_is_growth.nd rfl (Or.inl rfl))) (fun _ _ _ _ _ => pts_nil) (fun _ _ _ _ _ => (pe_fn (ok__law_writes En) (hr.mono (by decide)) (pa_cons (pe_tup (pa_cons (pe_ix (ix_tupK (K := K) rfl) (pv 3) pe_int (fun _ _ => rfl)) (pa_cons (pe_slice (sl_listK (K := K) rfl) (pe_ix (ix_tupK (K := K) rfl) (pv 3) pe_int (fun _ _ => rfl)) po_none (po_some (pv 8))) pa_nil))) pa_nil))))
      (pss_one
        (ps_expr (pe_bm PySem.F.plainAttrs_list PySem.F.slot_list_append PySem.F.type_list_append mt_append (pv 7) (pa_cons (pe_fn (ok__law_lag En) (hr.mono (by decide)) (pa_cons (pe_ix (ix_listK (K := K) rfl) (pv 9) pe_int (fun _ _ => rfl)) (pa_cons (pe_ix (ix_listK (K := K) rfl) (pv 9) pe_int (fun _ _ => rfl)) pa_nil))) pa_nil))))))
      (pss_cons
        (ps_for PassesOwn.never rfl (pi_range1 rfl (fr_range En) (pa_cons pe_int pa_nil)) (pg_name (i := 10) sc__law_is_growth.nd rfl (Or.inl rfl)) (pss_one (ps_if (PW.pt (pw_or (pt_cmpR op_ne (pe_ix (ix_listK (K := K) rfl) (pe_ix (ix_listK (K := K) rfl) (pv 2) (pv 10) (fun _ _ => rfl)) (pv 5) (fun _ _ => rfl)) (pe_ix (ix_listK (K := K) rfl) (pe_ix (ix_listK (K := K) rfl) (pv 2) (pv 10) (fun _ _ => rfl)) (pv 4) (fun _ _ => rfl)) (nomark _)) (pw_or1 (pt_cmpR (op_notIn_seqK (K := K) rfl) (pe_ix (ix_listK (K := K) rfl) (pe_ix (ix_listK (K := K) rfl) (pv 2) (pv 10) (fun _ _ => rfl)) (pv 4) (fun _ _ => rfl)) (pv 6) rfl)))) (pss_one (ps_ret pe_bl)) pss_nil)))
      (pss_cons
        (ps_setLc (i := 11) (own := [("_law_path", 3)]) (g := gName 3) (tt := tYes) rfl sc__law_is_growth.nd rfl rfl (sw_true rfl rfl rfl (by decide +kernel)) (pi_tupK (K := K) rfl (pe_slice (sl_tupK (K := K) rfl) (pv 1) po_none (po_some pe_int))) (blkOk_by (own := [("_law_path", 3)]) (N := N__law_is_growth) (sc := defScope (top 76)) (by decide +kernel)) (fun _ _ _ _ _ => (pg_name (i := 3) sc__law_is_growth.nd rfl (Or.inl rfl))) (fun _ _ _ _ _ => pts_nil) (fun _ _ _ _ _ => (pe_lc (own := [("_law_link", 12)]) (g := gName 12) (tt := tYes) rfl sc__law_is_growth.nd (pi_listK (K := K) rfl (pe_ix (ix_tupK (K := K) rfl) (pv 3) pe_int (fun _ _ => rfl))) (blkOk_by (own := [("_law_link", 12)]) (N := N__law_is_growth) (sc := { kind := .function, names := [(".0", .local), ("_law_path", .local)], isGenerator := false, isCoroutine := false }) (by decide +kernel)) (fun _ _ _ _ _ => (pg_name (i := 12) sc__law_is_growth.nd rfl (Or.inl rfl))) (fun _ _ _ _ _ => pts_nil) (fun _ _ _ _ _ => (pe_ix (ix_tupK (K := K) rfl) (pv 12) pe_int (fun _ _ => rfl))))))
      (pss_one
        (ps_ret (pe_and (pe_cmpR (op_eqDK (K := K) rfl hr.units) (pe_ix (ix_listK (K := K) rfl) (pv 11) pe_int (fun _ _ => rfl)) (pe_ix (ix_listK (K := K) rfl) (pv 11) pe_int (fun _ _ => rfl)) (nomark _)) (pe_one (pe_cmpR (op_neDK (K := K) rfl hr.units) (pe_ix (ix_listK (K := K) rfl) (pv 7) pe_int (fun _ _ => rfl)) (pe_ix (ix_listK (K := K) rfl) (pv 7) pe_int (fun _ _ => rfl)) (nomark _))))))))))))))))), ?_⟩
    walk_at "w"
    refine ⟨_, _, _, _, _, rfl, .ty _, jd.ty, k_tup jd, ?_⟩
    walk_at "w"
    cases ht : isTup d with
    | false =>
      walk_at "w"
      refine itY rfl ?_
      walk_at "w"
      exact no (fun ⟨p, q, _⟩ => by rw [q] at ht; cases ht) _ (Same.refl H)
    | true =>
    obtain ⟨ds, rfl⟩ : ∃ ds, d = .tuple ds := by cases d <;> first | exact ⟨_, rfl⟩ | cases ht
    obtain ⟨p, xs, rfl, hp, hx⟩ := jd.tup_inv
    have hxl := hx.len
    have hdl := Lb.tupLen
    walk_at "w"
    refine ⟨_, _, rfl, len_tup hp, ?_⟩
    walk_at "w"
    walk_at "if"
    · walk_at "w"
      refine no ?_ _ (Same.refl H)
      rintro ⟨p, q, _⟩
      rw [PyData.tuple.inj q] at hxl
      exact hc (by rw [hxl]; rfl)
    have h3 : xs.length = 3 := by omega
    obtain ⟨v1, v2, v3, rfl⟩ := len3 h3
    obtain ⟨d1, d2, d3, rfl⟩ := len3 (hxl.symm.trans h3)
    obtain ⟨_, _, e, j1, hx⟩ := hx.cons_inv
    cases e
    obtain ⟨_, _, e, j2, hx⟩ := hx.cons_inv
    cases e
    obtain ⟨_, _, e, j3, _⟩ := hx.cons_inv
    cases e
    walk_at "w"
    refine ⟨_, d3, rfl, j3, ?_⟩
    walk_at "w"
    cases hi : isInt d3 with
    | false =>
      refine itY rfl ?_
      walk_at "w"
      refine no ?_ _ (Same.refl H)
      rintro ⟨p, q, g⟩
      have q := PyData.tuple.inj q
      simp only [List.cons.injEq, and_true] at q
      rw [q.2.2] at hi
      cases hi
    | true =>
    refine itN (fun h => nomatch h) ?_
    obtain ⟨t, rfl⟩ : ∃ i, d3 = .int i := by cases d3 <;> first | exact ⟨_, rfl⟩ | cases hi
    obtain rfl := j3.int_inv
    have n0 := hPV.n0
    have n1 := hPV.n1
    walk_at "w"
    refine ⟨szr rfl, fun D nD => ?_⟩
    have sD := Same.new (o := .lst []) nD
    have nD0 := nD
    have gD : ∀ F, GL D (upd H D (.lst [])) [] F := fun F => GL.start D H F
    generalize upd H D (.lst []) = H1 at *
    have hp1 := sD _ _ hp
    walk_at "w"
    refine ⟨p, _, rfl, SqT.of hp1, (by show ¬(HT.sIx 3 0 none = 0 ∧ HT.sIx 3 3 (some 2) = 3); decide), fun S nS => ?_⟩
    rw [show cutV [v1, v2, V.int t] none (some 2) = [v1, v2] from rfl]
    have nDS : D ≠ S := ne_of_none (gD (fun _ _ _ => True)).1 nS
    have sS := Same.new (o := .tup [v1, v2]) nS
    have hS : upd H1 S (.tup [v1, v2]) S = _ := upd_same
    have gS : ∀ F, FUp F → GL D (upd H1 S (.tup [v1, v2])) [] F := fun F u => (gD F).up u sS
    have s02 := sD.trans sS
    generalize upd H1 S (.tup [v1, v2]) = H2 at *
    walk_at "w"
    obtain ⟨FP, hFP⟩ : ∃ FP : FF, FP = fun i v H => ∃ (q : Addr) (w : Way), v = .ref q ∧ H q = some (.lst ((sts w).map V.int)) ∧ WayOk M w ∧ [d1, d2][i]? = some (wayD w) := ⟨_, rfl⟩
    have uFP : FUp FP := by
      rw [hFP]
      exact fun i v H H' s ⟨q, w, h1, h2, h3⟩ => ⟨q, w, h1, s _ _ h2, h3⟩
    refine ⟨⟨_, SqT.of hS⟩, for_tup (xs := [v1, v2]) (fun i σ H' => ∃ (vs : List V) (x3 : Option V), σ = [some (.ref c), some (.ref p), some (.ref D), x3, none, none, none, none, none, none, none, none, none] ∧ Same H H' ∧ H' S = some (.tup [v1, v2]) ∧ GL D H' vs FP ∧ vs.length = i) ?_ ?_ ?_ ?_⟩
    · exact ⟨[], _, rfl, s02, hS, gS FP uFP, rfl⟩
    · rintro i σ H' hi ⟨vs, x3, rfl, s3, hS3, g, hvl⟩
      exact SqT.of hS3
    · rintro i x σ H3 hi ⟨vs, x3, rfl, s3, hS3, g, hvl⟩
      obtain ⟨di, hdi, jx, Li⟩ : ∃ di, [d1, d2][i]? = some di ∧ DA H x di ∧ Ld di := by
        match i, hi with
        | 0, hi => cases hi; exact ⟨d1, rfl, j1, Lb.tup (by simp)⟩
        | 1, hi => cases hi; exact ⟨d2, rfl, j2, Lb.tup (by simp)⟩
        | n + 2, hi => simp at hi
      walk_at "w"
      refine ⟨_, x, M, di, rfl, hv0.up s3, hPV, jx.up s3, Li, fun H4 r s4 hr => ?_⟩
      have s04 := s3.trans s4
      walk_at "w"
      cases r with
      | false =>
        refine itY rfl ?_
        walk_at "w"
        refine no ?_ _ s04
        rintro ⟨p, q, g⟩
        have q := PyData.tuple.inj q
        simp only [List.cons.injEq, and_true] at q
        have : di = wayD (WayOf p i) ∧ WayOk M (WayOf p i) := by
          match i, hdi with
          | 0, hdi => cases hdi; exact ⟨q.1, g.a⟩
          | 1, hdi => cases hdi; exact ⟨q.2.1, g.b⟩
          | n + 2, hdi => simp at hdi
        exact nomatch hr.mpr ⟨_, this⟩
      | true =>
        refine itN (fun h => nomatch h) ?_
        obtain ⟨wi, rfl, okw⟩ := hr.mp rfl
        obtain ⟨pw, sd, l, xl, rfl, hpw, hsd, hl, jl⟩ := (jx.up s04).way_inv
        have g4 := g.up uFP s4
        have lxl := jl.len
        rw [List.length_map] at lxl
        have lwi : wi.2.length ≤ 1000 := by
          have := (Li.tup (d := .list (wi.2.map arcD)) (by simp)).lstLen
          rwa [List.length_map] at this
        walk_at "w"
        refine ⟨Or.inl ⟨rfl, _, SqL.of g4.1⟩, ?_⟩
        walk_at "w"
        refine ⟨szr rfl, fun P1 nP1 => ?_⟩
        have t1 := Same.new (o := .lst [.int wi.1.1]) nP1
        have hP1 : upd H4 P1 (.lst [.int wi.1.1]) P1 = _ := upd_same
        generalize upd H4 P1 (.lst [.int wi.1.1]) = H5 at *
        have hpw5 := t1 _ _ hpw
        have hl5 := t1 _ _ hl
        walk_at "w"
        refine ⟨⟨_, SqL.of hl5⟩, fun D2 nD2 => ?_⟩
        have jl5 := jl.up t1
        refine lc_mapP (Same.refl H5) nD2 hl5 (by omega) (fun i v => ∃ a, wi.2[i]? = some a ∧ v = .int a.2.2.2) ?_ ?_ ?_
        · exact fun _ => rfl
        · intro i x H6 R hi6 s6 hR
          obtain ⟨d, d1, d2⟩ := jl5.get hi6
          rw [List.getElem?_map] at d1
          obtain ⟨ar, q, rfl⟩ := Option.map_eq_some_iff.mp d1
          obtain ⟨cc, rfl, hcc⟩ := (d2.up s6).arc_inv
          have hcc0 := hcc
          walk_at "w"
          exact hR _ _ (Same.refl _) ⟨ar, q, rfl⟩
        intro H6 ys t6 hD2 hyl hF
        obtain rfl : ys = (wi.2.map (·.2.2.2)).map V.int := map_of_get (by rw [List.length_map]; omega) fun i v hv => by
          obtain ⟨ar, q, e2⟩ := hF i v hv
          exact ⟨_, by rw [List.getElem?_map, q]; rfl, e2⟩
        have hP6 := t6 _ _ hP1
        refine ⟨P1, D2, _, _, rfl, rfl, hP6, hD2, szle (by simp only [List.length_cons, List.length_nil, List.length_map]; omega), fun P3 nP3 => ?_⟩
        have t7 := Same.new (o := .lst ([V.int wi.1.1] ++ (wi.2.map (·.2.2.2)).map V.int)) nP3
        have nDP : P3 ≠ D := (ne_of_none ((g4.up uFP (t1.trans t6)).1) nP3).symm
        have hP3 : upd H6 P3 (.lst ([V.int wi.1.1] ++ (wi.2.map (·.2.2.2)).map V.int)) P3 = some (.lst ((sts wi).map V.int)) := upd_same
        generalize upd H6 P3 (.lst ([V.int wi.1.1] ++ (wi.2.map (·.2.2.2)).map V.int)) = H7 at *
        have t47 := (t1.trans t6).trans t7
        have g7 := g4.up uFP t47
        have s07 := s04.trans t47
        walk_at "w"
        refine ⟨D, vs, _, rfl, rfl, g7.1, by rw [hvl]; exact small5 (by have := (List.getElem?_eq_some_iff.mp hi).1; simp only [List.length_cons, List.length_nil] at this; omega), ?_⟩
        refine ⟨_, _, rfl, Same.put s07 nD0, by rw [upd_ne nDS.symm]; exact t47 _ _ (s4 _ _ hS3), g7.app ?_, by rw [List.length_append, hvl]; rfl⟩
        rw [hFP]
        exact ⟨P3, wi, rfl, hd1_of nDP hP3, okw, by rw [hvl]; exact hdi⟩
    · rintro σ H3 ⟨vs, x3, rfl, s3, hS3, g, hvl⟩
      obtain ⟨va, vb, rfl⟩ := len2 hvl
      have ga := g.all uFP 0 va rfl
      have gb := g.all uFP 1 vb rfl
      have hD3 := g.1
      rw [hFP] at ga gb
      obtain ⟨qa, wa, rfl, hqa, oka, ea⟩ := ga
      obtain ⟨qb, wb, rfl, hqb, okb, eb⟩ := gb
      replace ea : d1 = _ := Option.some.inj ea
      replace eb : d2 = _ := Option.some.inj eb
      subst ea eb
      clear hFP uFP g hdl hxl gS gD
      have hp3 := s3 _ _ hp
      have la := sts_len wa
      have lb := sts_len wb
      have lwa : wa.2.length ≤ 1000 := by
        have := ((Lb.tup (d := wayD wa) (by simp)).tup (d := .list (wa.2.map arcD)) (by simp)).lstLen
        rwa [List.length_map] at this
      have lwb : wb.2.length ≤ 1000 := by
        have := ((Lb.tup (d := wayD wb) (by simp)).tup (d := .list (wb.2.map arcD)) (by simp)).lstLen
        rwa [List.length_map] at this
      have no2 : (¬ GrowP M ⟨wa, wb, t⟩) → ∀ H', Same H H' → Q (.bl false) H' := fun h => no fun ⟨p, q, g⟩ => h (by rw [papD_inj (a := ⟨wa, wb, t⟩) q]; exact g)
      have k2 : ∀ H' r, Same H H' → (r = true ↔ GrowP M ⟨wa, wb, t⟩) → Q (.bl r) H' := fun H' r s h => k H' r s (h.trans ⟨fun g => ⟨_, rfl, g⟩, fun ⟨p, q, g⟩ => by rw [papD_inj (a := ⟨wa, wb, t⟩) q]; exact g⟩)
      clear no k
      walk_at "w"
      rw [List.length_map, List.length_map]
      walk_at "if"
      · walk_at "w"
        exact no2 (fun g => hc (by have := g.len; dsimp only at this; omega)) _ s3
      have hlen : wb.2.length = wa.2.length := by omega
      walk_at "w"
      walk_at "if"
      · walk_at "w"
        exact no2 (fun g => by have := g.t0; dsimp only at this; omega) _ s3
      walk_at "w"
      walk_at "if"
      · walk_at "w"
        exact no2 (fun g => by have := g.t1; dsimp only at this; omega) _ s3
      have t0 : 0 ≤ t := by omega
      have t1 : t < wa.2.length := by omega
      walk_at "w"
      refine ⟨_, M, rfl, hv0.up s3, hPV, fun U H4 us s4 hU hul hus => ?_⟩
      walk_at "w"
      refine ⟨szr rfl, fun D7 nD7 => ?_⟩
      have nD70 : H4 D7 = none := nD7
      have s5 := Same.new (o := .lst []) nD7
      have g0 : ∀ F, GL D7 (upd H4 D7 (.lst [])) [] F := fun F => GL.start D7 H4 F
      generalize upd H4 D7 (.lst []) = H5 at *
      walk_at "w"
      refine ⟨szr rfl, fun LS nLS => ?_⟩
      have hsz : ((sts wa).length : Int) - 1 = (wa.2.length : Int) := by omega
      have s6 := Same.new (o := .lst [.int t, .int (((sts wa).length : Int) - 1)]) nLS
      have hLS : upd H5 LS (.lst [.int t, .int (((sts wa).length : Int) - 1)]) LS = _ := upd_same
      have nDLS : D7 ≠ LS := ne_of_none (g0 (fun _ _ _ => True)).1 nLS
      have g1 : ∀ F, FUp F → GL D7 (upd H5 LS (.lst [.int t, .int (((sts wa).length : Int) - 1)])) [] F := fun F u => (g0 F).up u s6
      have s46 := s5.trans s6
      generalize upd H5 LS (.lst [.int t, .int (((sts wa).length : Int) - 1)]) = H6 at *
      have s06 := (s3.trans s4).trans s46
      have b1 : ∀ {w : Way}, WayOk M w → (tl w.1.2).length ≤ 50 := fun {w} g => (hPV.bs w.1 g.1).2.2.1
      have b2 : ∀ {w : Way}, WayOk M w → ∀ a ∈ w.2, (tl a.2.2.1).length ≤ 50 := fun {w} g a ha => (hPV.as a (chain_mem g.2 a ha)).2.2.1.1
      obtain ⟨nn, hnn⟩ : ∃ nn : Nat → Nat, nn = fun i => if i = 0 then t.toNat else wa.2.length := ⟨_, rfl⟩
      obtain ⟨WW, hWW⟩ : ∃ WW : Nat → Way, WW = fun i => if i = 0 then wa else wb := ⟨_, rfl⟩
      have okW : ∀ j, WayOk M (WW j) := fun j => by rw [hWW]; dsimp only; split <;> assumption
      have lW : ∀ j, (WW j).2.length ≤ 1000 := fun j => by rw [hWW]; dsimp only; split <;> omega
      obtain ⟨FL, hFL⟩ : ∃ FL : FF, FL = fun i v H => ∃ (q : Addr) (a b : Str), v = .ref q ∧ H q = some (.tup [.str a, .str b]) ∧ tl a = (wrW wa (nn i)).drop (cpl (wrW wa (nn i)) (wrW wb (nn i))) ∧ tl b = (wrW wb (nn i)).drop (cpl (wrW wa (nn i)) (wrW wb (nn i))) := ⟨_, rfl⟩
      have uFL : FUp FL := by
        rw [hFL]
        exact fun i v H H' s ⟨q, a, b, h1, h2, h3⟩ => ⟨q, a, b, h1, s _ _ h2, h3⟩
      walk_at "w"
      refine ⟨⟨_, SqL.of hLS⟩, for_list (xs := [.int t, .int (((sts wa).length : Int) - 1)]) (fun i σ H' => ∃ (vs : List V) (x3 x8 x9 : Option V), σ = [some (.ref c), some (.ref p), some (.ref D), x3, some (.int (((sts wa).length : Int) - 1)), some (.int t), some (.ref U), some (.ref D7), x8, x9, none, none, none] ∧ Same H4 H' ∧ H' LS = some (.lst [.int t, .int (((sts wa).length : Int) - 1)]) ∧ GL D7 H' vs FL ∧ vs.length = i) ?_ ?_ ?_ ?_⟩
      · exact ⟨[], _, _, _, rfl, s46, hLS, g1 FL uFL, rfl⟩
      · rintro i σ H' hi ⟨vs, x3, x8, x9, rfl, s7, hLS7, g, hvl⟩
        exact SqL.of hLS7
      · rintro i x σ H7 hi ⟨vs, x3, x8, x9, rfl, s7, hLS7, g, hvl⟩
        obtain ⟨m, rfl, m0, hm, hml⟩ : ∃ m : Int, x = .int m ∧ 0 ≤ m ∧ m.toNat = nn i ∧ m.toNat ≤ wa.2.length := by
          match i, hi with
          | 0, hi => cases hi; exact ⟨t, rfl, t0, by rw [hnn]; rfl, by omega⟩
          | 1, hi => cases hi; exact ⟨_, rfl, by omega, by rw [hnn]; show _ = wa.2.length; omega, by omega⟩
          | n + 2, hi => simp at hi
        have s07 := (s3.trans s4).trans s7
        have hp7 := s07 _ _ hp
        walk_at "w"
        refine ⟨p, _, rfl, SqT.of hp7, (by show ¬(HT.sIx 3 0 none = 0 ∧ HT.sIx 3 3 (some 2) = 3); decide), fun S2 nS2 => ?_⟩
        rw [show cutV [v1, v2, V.int t] none (some 2) = [v1, v2] from rfl]
        walk_at "w"
        have sS2 := Same.new (o := .tup [v1, v2]) nS2
        have hS2 : upd H7 S2 (.tup [v1, v2]) S2 = _ := upd_same
        have g8 := g.up uFL sS2
        have hLS8 := sS2 _ _ hLS7
        have s48 := s7.trans sS2
        generalize upd H7 S2 (.tup [v1, v2]) = H8 at *
        have s08 := (s3.trans s4).trans s48
        refine ⟨⟨_, SqT.of hS2⟩, fun D9 nD9 => ?_⟩
        refine lc_tupF (fun j v _ => ∃ s : Str, v = .str s ∧ tl s = wrW (WW j) (nn i)) (fun _ _ _ _ _ h => h) (Same.refl H8) nD9 hS2 (show 2 ≤ 100000 by decide) ?_ ?_ ?_
        · exact fun _ => rfl
        · intro j x H9 R hj s9 _ hR
          have jx : DA H x (wayD (WW j)) := by
            match j, hj with
            | 0, hj => cases hj; rw [hWW]; exact j1
            | 1, hj => cases hj; rw [hWW]; exact j2
            | n + 2, hj => simp at hj
          obtain ⟨pw, sd, l, xl, rfl, hpw, hsd, hl, jl⟩ := (jx.up (s08.trans s9)).way_inv
          have hpw9 := hpw
          walk_at "w"
          refine ⟨l, xl, rfl, SqL.of hl, fun T1 nT1 => ?_⟩
          rw [cutV_pre _ m0]
          have u1 := Same.new (o := .lst (xl.take m.toNat)) nT1
          walk_at "w"
          refine ⟨szr rfl, fun T2 nT2 => ?_⟩
          have u2 := Same.new (o := .tup [.ref sd, .ref T1]) nT2
          have u3 := u1.trans u2
          refine ⟨_, ((WW j).1, (WW j).2.take m.toNat), rfl, DA.way upd_same ((DA.side hsd).up u3) (.lst (u2 _ _ upd_same) (by rw [List.map_take]; exact (jl.take m.toNat).up u3)), by rw [List.length_take]; have := lW j; omega, by show (tl (WW j).1.2).length ≤ 50; exact b1 (okW j), fun a ha => b2 (okW j) a (List.mem_of_mem_take ha), fun s hs => ?_⟩
          exact hR _ _ u3 ⟨s, rfl, by rw [hs, ← hm]; rfl⟩
        intro H9 ys s9 hD9 hyl hF
        obtain ⟨y0, y1, rfl⟩ := len2 hyl
        obtain ⟨z0, rfl, ez0⟩ := hF 0 y0 rfl
        obtain ⟨z1, rfl, ez1⟩ := hF 1 y1 rfl
        rw [show WW 0 = wa by rw [hWW]; rfl] at ez0
        rw [show WW 1 = wb by rw [hWW]; rfl] at ez1
        have g9 := g8.up uFL s9
        have s49 := s48.trans s9
        walk_at "w"
        refine ⟨Or.inl ⟨rfl, _, SqL.of g9.1⟩, ?_⟩
        walk_at "w"
        refine ⟨z0, z1, rfl, by rw [ez0]; have := wrW_len hPV oka lwa (nn i); omega, by rw [ez1]; have := wrW_len hPV okb lwb (nn i); omega, fun q H10 a b s10 ea eb hq => ?_⟩
        rw [ez0, ez1] at ea eb
        have g10 := g9.up uFL s10
        have nDq : q ≠ D7 := fun e => by rw [e, g10.1] at hq; cases hq
        walk_at "w"
        refine ⟨D7, vs, _, rfl, rfl, g10.1, by rw [hvl]; exact small5 (by have := (List.getElem?_eq_some_iff.mp hi).1; simp only [List.length_cons, List.length_nil] at this; omega), ?_⟩
        refine ⟨_, _, _, _, rfl, Same.put (s49.trans s10) nD70, by rw [upd_ne nDLS.symm]; exact s10 _ _ (s9 _ _ hLS8), g10.app ?_, by rw [List.length_append, hvl]; rfl⟩
        rw [hFL]
        exact ⟨q, a, b, rfl, hd1_of nDq hq, by rw [hvl]; exact ea, by rw [hvl]; exact eb⟩
      · rintro σ H7 ⟨vs, x3, x8, x9, rfl, s7, hLS7, g, hvl⟩
        obtain ⟨va, vb, rfl⟩ := len2 hvl
        have ga := g.all uFL 0 va rfl
        have gb := g.all uFL 1 vb rfl
        have hD7 := g.1
        rw [hFL] at ga gb
        obtain ⟨q0, a0, c0, rfl, hq0, ea0, ec0⟩ := ga
        obtain ⟨q1, a1, c1, rfl, hq1, ea1, ec1⟩ := gb
        rw [show nn 0 = t.toNat by rw [hnn]; rfl] at ea0 ec0
        rw [show nn 1 = wa.2.length by rw [hnn]; rfl] at ea1 ec1
        have s37 := s4.trans s7
        have s07 := s3.trans s37
        have hD37 := s37 _ _ hD3
        have hqa7 := s37 _ _ hqa
        have hqb7 := s37 _ _ hqb
        have hU7 := s7 _ _ hU
        clear hFL uFL g1 g0 g
        walk_at "w"
        refine ⟨by decide, by decide, for_range (lo := 0) (n := 2) (fun i σ H' => ∃ x10, σ = [some (.ref c), some (.ref p), some (.ref D), x3, some (.int (((sts wa).length : Int) - 1)), some (.int t), some (.ref U), some (.ref D7), x8, x9, x10, none, none] ∧ H' = H7 ∧ ∀ j < i, EndOk M (WW j) t) ?_ ?_ ?_⟩
        · exact ⟨_, rfl, rfl, fun j h => absurd h (Nat.not_lt_zero _)⟩
        · rintro i σ H8 hi ⟨x10, rfl, rfl, gE⟩
          obtain ⟨qw, hix, hqw⟩ : ∃ qw, atI [V.ref qa, V.ref qb] (0 + (i : Int)) = some (.ref qw) ∧ H8 qw = some (.lst ((sts (WW i)).map V.int)) := by
            match i, hi with
            | 0, _ => exact ⟨qa, rfl, by rw [hWW]; exact hqa7⟩
            | 1, _ => exact ⟨qb, rfl, by rw [hWW]; exact hqb7⟩
            | n + 2, hi => omega
          have hWl : (WW i).2.length = wa.2.length := by rw [hWW]; dsimp only; split <;> omega
          have ix1 : atI ((sts (WW i)).map V.int) t = some (.int (lastSt (WW i).1.1 ((WW i).2.take t.toNat))) := by
            have := atI_nat (xs := (sts (WW i)).map V.int) (j := t.toNat) (by rw [List.getElem?_map, sts_get (by omega)]; rfl)
            rwa [Int.toNat_of_nonneg t0] at this
          have ix2 : atI ((sts (WW i)).map V.int) (((sts wa).length : Int) - 1) = some (.int (lastSt (WW i).1.1 (WW i).2)) := by
            have := atI_nat (xs := (sts (WW i)).map V.int) (j := wa.2.length) (by rw [List.getElem?_map, sts_get (by omega), List.take_of_length_le (by omega)]; rfl)
            rwa [← hsz] at this
          have ge : GrowP M ⟨wa, wb, t⟩ → EndOk M (WW i) t := fun g => by
            rw [hWW]
            dsimp only
            split
            · exact g.ea
            · exact g.eb
          have gn : EndOk M (WW i) t → ∀ j < i + 1, EndOk M (WW j) t := fun h j hj => by
            by_cases e : j = i
            · rw [e]; exact h
            · exact gE j (by omega)
          walk_at "w"
          refine ⟨_, _, _, _, rfl, rfl, SqL.of hD37, hix, ?_⟩
          walk_at "w"
          refine ⟨_, _, _, _, rfl, rfl, SqL.of hqw, ix1, ?_⟩
          walk_at "w"
          refine ⟨_, _, _, _, rfl, rfl, SqL.of hD37, hix, ?_⟩
          walk_at "w"
          refine ⟨_, _, _, _, rfl, rfl, SqL.of hqw, ix2, ?_⟩
          walk_at "w"
          walk_at "if"
          · walk_at "w"
            exact no2 (fun g => hc (ge g).2) _ s07
          have hcl := hc
          walk_at "w"
          refine ⟨_, _, _, _, rfl, rfl, SqL.of hD37, hix, ?_⟩
          walk_at "w"
          refine ⟨_, _, _, _, rfl, rfl, SqL.of hqw, ix2, ?_⟩
          walk_at "w"
          refine ⟨U, us.map V.int, rfl, .inl (SqL.of hU7), rfl, by simp [flatV], ?_⟩
          walk_at "w"
          rw [niV_ints]
          walk_at "if"
          · walk_at "w"
            exact no2 (fun g => hc ((hus _).mpr (ge g).1)) _ s07
          · walk_at "w"
            exact ⟨rfl, gn ⟨(hus _).mp hc, hcl⟩⟩
        · rintro σ H8 ⟨x10, rfl, rfl, gE⟩
          have hp8 := s07 _ _ hp
          walk_at "w"
          refine ⟨p, _, rfl, SqT.of hp8, (by show ¬(HT.sIx 3 0 none = 0 ∧ HT.sIx 3 3 (some 2) = 3); decide), fun S3 nS3 => ?_⟩
          rw [show cutV [v1, v2, V.int t] none (some 2) = [v1, v2] from rfl]
          have sS3 := Same.new (o := .tup [v1, v2]) nS3
          have hS3' : upd H8 S3 (.tup [v1, v2]) S3 = _ := upd_same
          generalize upd H8 S3 (.tup [v1, v2]) = H9 at *
          have s09 := s07.trans sS3
          walk_at "w"
          refine ⟨⟨_, SqT.of hS3'⟩, fun D11 nD11 => ?_⟩
          refine lc_tupF (fun j v H => ∃ q : Addr, v = .ref q ∧ H q = some (.lst (((WW j).2.map (·.2.1)).map V.str))) (fun _ _ _ _ s ⟨q, h1, h2⟩ => ⟨q, h1, s _ _ h2⟩) (Same.refl H9) nD11 hS3' (show 2 ≤ 100000 by decide) ?_ ?_ ?_
          · exact fun _ => rfl
          · intro j x H10 R hj s10 hacc hR
            obtain ⟨acc, hacc⟩ := hacc
            have jx : DA H x (wayD (WW j)) := by
              match j, hj with
              | 0, hj => cases hj; rw [hWW]; exact j1
              | 1, hj => cases hj; rw [hWW]; exact j2
              | n + 2, hj => simp at hj
            obtain ⟨pw, sd, l, xl, rfl, hpw, hsd, hl, jl⟩ := (jx.up (s09.trans s10)).way_inv
            have hpw9 := hpw
            have lxl := jl.len
            rw [List.length_map] at lxl
            have lWj := lW j
            walk_at "w"
            refine ⟨⟨_, SqL.of hl⟩, fun D12 nD12 => ?_⟩
            refine lc_mapP (Same.refl H10) nD12 hl (by omega) (fun i v => ∃ a, (WW j).2[i]? = some a ∧ v = .str a.2.1) ?_ ?_ ?_
            · exact fun _ => rfl
            · intro i x H6 R hi6 s6 hR
              obtain ⟨d, d1, d2⟩ := jl.get hi6
              rw [List.getElem?_map] at d1
              obtain ⟨ar, q, rfl⟩ := Option.map_eq_some_iff.mp d1
              obtain ⟨cc, rfl, hcc⟩ := (d2.up s6).arc_inv
              have hcc0 := hcc
              walk_at "w"
              exact hR _ _ (Same.refl _) ⟨ar, q, rfl⟩
            intro H11 ys s11 hD12 hyl hF
            obtain rfl : ys = ((WW j).2.map (·.2.1)).map V.str := map_of_get (by rw [List.length_map]; omega) fun i v hv => by
              obtain ⟨ar, q, e2⟩ := hF i v hv
              exact ⟨_, by rw [List.getElem?_map, q]; rfl, e2⟩
            exact hR _ _ s11 ⟨D12, rfl, hd1_of (ne_of_none hacc nD12).symm hD12⟩
          intro H10 ys s10 hD11 hyl hF
          obtain ⟨y0, y1, rfl⟩ := len2 hyl
          obtain ⟨r0, rfl, er0⟩ := hF 0 y0 rfl
          obtain ⟨r1, rfl, er1⟩ := hF 1 y1 rfl
          rw [show WW 0 = wa by rw [hWW]; rfl] at er0
          rw [show WW 1 = wb by rw [hWW]; rfl] at er1
          have s8A := sS3.trans s10
          have hD710 := s8A _ _ hD7
          have hq010 := s8A _ _ hq0
          have hq110 := s8A _ _ hq1
          walk_at "w"
          have ltr : ∀ {w : Way}, WayOk M w → ∀ a ∈ w.2, ∃ c, a.2.1 = ⟨#[c]⟩ := fun {w} g a ha => by
            obtain ⟨c, _, h⟩ := (hPV.as a (chain_mem g.2 a ha)).2.1
            exact ⟨c, h⟩
          have oks : ∀ {w : Way}, WayOk M w → SeqAt.shaped (.list ((w.2.map (·.2.1)).map PyData.str)) = true := fun {w} g => shaped_list fun d hd => by
            obtain ⟨x, hx, rfl⟩ := List.mem_map.mp hd
            obtain ⟨a, ha, rfl⟩ := List.mem_map.mp hx
            obtain ⟨c, hc, h⟩ := (hPV.as a (chain_mem g.2 a ha)).2.1
            have : PyData.strOk a.2.1 = true := by
              rw [h]
              exact strOk_of fun d hd => by rw [List.mem_singleton.mp hd]; have := hPV.ard.az c hc; omega
            exact ⟨by simp [SeqAt.shaped, PyData.canLay0, PyData.depth, this], by simp [PyData.depth]⟩
          have ok1 : ∀ {w : Way} {n m : Nat} {u : Str}, WayOk M w → tl u = (wrW w n).drop m → PyData.strOk u = true := fun {w n m u} g e => strOk_of fun c hc => wrW_mem hPV g (by rw [e] at hc; exact List.mem_of_mem_drop hc)
          have s0A := s09.trans s10
          have ev := (eqv_strs (wa.2.map (·.2.1)) (wb.2.map (·.2.1))).trans (readL_iff (ltr oka) (ltr okb))
          refine ⟨.list ((wa.2.map (·.2.1)).map PyData.str), .list ((wb.2.map (·.2.1)).map PyData.str), (DA.lst er0 (das_str _ _)).dp _, (DA.lst er1 (das_str _ _)).dp _, oks oka, oks okb, ?_⟩
          cases hE : PyData.eqv (.list ((wa.2.map (·.2.1)).map PyData.str)) (.list ((wb.2.map (·.2.1)).map PyData.str)) with
          | false =>
            rw [hE] at ev
            refine ⟨_, rfl, iteF ?_⟩
            exact k2 _ _ s0A ⟨fun h => (nomatch h), fun g => (nomatch ev.mpr g.read)⟩
          | true =>
            rw [hE] at ev
            refine ⟨_, rfl, iteT ?_⟩
            walk_at "w"
            refine ⟨.tuple [.str a0, .str c0], .tuple [.str a1, .str c1], .tup (SqT.of hq010) (.cons (.str _) (.cons (.str _) .nil)), .tup (SqT.of hq110) (.cons (.str _) (.cons (.str _) .nil)), lag_shaped (ok1 oka ea0) (ok1 okb ec0), lag_shaped (ok1 oka ea1) (ok1 okb ec1), ?_⟩
            refine k2 _ _ s0A ?_
            rw [lag_ne ea0 ec0 ea1 ec1]
            have eA := gE 0 (by decide)
            have eB := gE 1 (by decide)
            rw [hWW] at eA eB
            constructor
            · intro h
              refine ⟨oka, okb, hlen, t0, t1, ev.mp rfl, eA, eB, ?_⟩
              show lagL (wrW wa t.toNat) (wrW wb t.toNat) ≠ lagL (wrW wa wa.2.length) (wrW wb wb.2.length)
              rw [hlen]
              exact h
            · intro g
              have := g.lag
              dsimp only at this
              rw [hlen] at this
              exact this
end
end GJ


set_option Elab.async false
set_option linter.all false
set_option maxRecDepth 100000
set_option maxHeartbeats 4000000
namespace GJ
open PySem PySem.Spec PyProof.Rows L2 TL
/-! ### repr of data -/
theorem int_shown {i : Int} (h : -1000 ≤ i) (g : i ≤ 1000) : (PyData.shown (.int i)).length ≤ 80 := by
  have := int_text_length_le10 (a := i) (k := 4) (by decide) (by omega)
  simp only [PyData.shown]
  rw [PySem.ofString_length]
  omega
mutual
theorem shown_wt : ∀ d : PyData, wt d < 1000000000 → d.shown.length ≤ 5 * wt d ∧ d.showable = true ∧ d.hasDict = false
  | .none, _ => ⟨by simp only [wt]; decide +kernel, rfl, rfl⟩
  | .bool b, _ => ⟨by simp only [wt]; cases b <;> decide +kernel, rfl, rfl⟩
  | .int i, h => by
    simp only [wt] at h ⊢
    split at h
    · rename_i q
      rw [if_pos q]
      refine ⟨int_shown q.1 q.2, ?_, rfl⟩
      simp only [PyData.showable, decide_eq_true_eq]
      have hl : i.natAbs ≤ 1000 := by omega
      have h1 : i.natAbs < 2 ^ 10 := by omega
      by_cases h0 : i.natAbs = 0
      · rw [h0]; decide
      · have := (Nat.log2_lt h0).mpr h1
        omega
    · omega
  | .str x, h => by
    simp only [wt] at h ⊢
    split at h
    · rename_i q
      rw [if_pos q]
      refine ⟨?_, rfl, rfl⟩
      have := StrLaws.reprText_len x fun c hc => by
        have := List.all_eq_true.mp q c hc
        simp only [okc, Bool.or_eq_true, Bool.and_eq_true, decide_eq_true_eq] at this
        omega
      simp only [PyData.shown]
      have e : x.length = (tl x).length := rfl
      omega
    · omega
  | .list ds, h => by
    simp only [wt] at h ⊢
    split at h
    · rename_i q
      rw [if_pos q]
      obtain ⟨h1, h2, h3, h4⟩ := shown_wts ds (by omega)
      refine ⟨?_, by simpa only [PyData.showable] using h2, by simpa only [PyData.hasDict] using h3⟩
      have := listText_len_le (PyData.shownAll ds)
      simp only [PyData.shown]
      omega
    · omega
  | .tuple ds, h => by
    simp only [wt] at h ⊢
    obtain ⟨h1, h2, h3, h4⟩ := shown_wts ds (by omega)
    refine ⟨?_, by simpa only [PyData.showable] using h2, by simpa only [PyData.hasDict] using h3⟩
    have := tupleText_len_le (PyData.shownAll ds)
    simp only [PyData.shown]
    omega
  | .dict _, h => by
    simp only [wt] at h
    omega
theorem shown_wts : ∀ ds : List PyData, wts ds < 1000000000 → ((PyData.shownAll ds).map (·.length)).sum + 2 * (PyData.shownAll ds).length ≤ 5 * wts ds ∧ PyData.showableAll ds = true ∧ PyData.hasDictAll ds = false ∧ (PyData.shownAll ds).length = ds.length
  | [], _ => ⟨by simp [PyData.shownAll, wts], rfl, rfl, rfl⟩
  | d :: ds, h => by
    simp only [wts] at h ⊢
    obtain ⟨a1, a2, a3⟩ := shown_wt d (by omega)
    obtain ⟨b1, b2, b3, b4⟩ := shown_wts ds (by omega)
    simp only [PyData.shownAll, List.map_cons, List.sum_cons, List.length_cons, PyData.showableAll, PyData.hasDictAll]
    refine ⟨by omega, by rw [a2, b2]; rfl, by rw [a3, b3]; rfl, by rw [b4]⟩
end
section
variable {X : Cx}
def rRepr (K : PySem.W.Frag) : List V → Hp → VK → Prop := fun xs H Q => ∃ v d, xs = [v] ∧ DA H v d ∧ Pz d ∧ Q (.str d.shown) H
theorem call_reprD {K : PySem.W.Frag} (hA : X.A.guards = some []) (hu : X.A.units + 64 < cLine) (hK : X.K = K) : CallR X (.builtin "repr") (rRepr K) := by
  subst hK
  intro pins s σ H xs us Q I r h
  obtain ⟨v, d, rfl, jd, hz, q⟩ := h
  obtain ⟨u, rfl, r1⟩ := vals1 r
  obtain ⟨h1, h2, h3⟩ := shown_wt d (Nat.lt_of_le_of_lt hz.1 (by decide))
  have hzl : d.shown.length ≤ sizeLine := by
    have := hz.1
    rw [sizeLine_eq]
    omega
  have hdp := hz.2
  obtain ⟨as, rd⟩ := Dp.reads I d v u (jd.dp _) r1
  have done : ∀ h' u' tk, (∀ b o, s.heap.get? b = some o → h'.get? b = some o) → EP X pins σ Q (.str d.shown u') { s with heap := h', toks := tk } := fun h' u' tk k => ⟨.str d.shown, H, I.kept k, ⟨u', rfl⟩, q⟩
  cases jd with
  | non => 
    cases r1
    exact PySem.P.repr_of_none (done s.heap _ _ fun _ _ e => e)
  | bl b =>
    cases r1
    exact PySem.P.repr_of_bool (done s.heap _ _ fun _ _ e => e)
  | int i =>
    obtain ⟨t, rfl⟩ := r1
    exact PySem.P.repr_of_int (by simpa only [PyData.showable, decide_eq_true_eq] using h2) (done s.heap _ _ fun _ _ e => e)
  | str x =>
    obtain ⟨t, rfl⟩ := r1
    exact PySem.P.repr_of_str (done s.heap _ _ fun _ _ e => e) hzl
  | lst ha hb =>
    cases r1
    exact repr_of_reads' rd h2 (PyData.noDict_hsm h3) hA (by omega) (fun _ _ e => e) (fun h' u' tk k => done h' u' tk k) hzl
  | tup ha hb =>
    cases r1
    exact repr_of_reads' rd h2 (PyData.noDict_hsm h3) hA (by omega) (fun _ _ e => e) (fun h' u' tk k => done h' u' tk k) hzl
end
end GJ

set_option Elab.async false
set_option linter.all false
set_option maxRecDepth 100000
set_option maxHeartbeats 4000000
namespace GJ
open PySem PySem.Spec PyProof.Rows L2 TL
set_option pp.maxSteps 300
/-- the same with the store apart -/
def GZ (z : Zz) (D : Addr) (H : Hp) (vs : List V) (F : FF) : Prop := H D = some (.lst vs) ∧ ∀ i v, vs[i]? = some v → F i v (hd1 D (hide z H))
section
variable {z : Zz} {D : Addr} {H H' : Hp} {vs : List V} {F : FF}
theorem GZ.up (u : FUp F) (g : GZ z D H vs F) (w : Wd z H H') (n : D ≠ z.s ∧ D ≠ z.c) : GZ z D H' vs F := ⟨w.kp _ _ n.1 n.2 g.1, fun i v e => u _ _ _ _ (hd1_up w.up) (g.2 i v e)⟩
theorem hd1_put_le (z : Zz) (D : Addr) (H : Hp) (o : HO) : Same (hd1 D (hide z H)) (hd1 D (hide z (upd H D o))) := fun b u e => by
  unfold hd1 at e ⊢
  by_cases n : b = D
  · rw [if_pos n] at e; cases e
  · rw [if_neg n] at e ⊢
    obtain ⟨m, e2⟩ := hide_some e
    exact hide_of m (by rw [upd_ne n]; exact e2)
theorem GZ.app {v : V} (u : FUp F) (g : GZ z D H vs F) (h : F vs.length v (hd1 D (hide z H))) : GZ z D (upd H D (.lst (vs ++ [v]))) (vs ++ [v]) F := by
  refine ⟨upd_same, fun i w e => ?_⟩
  rcases get_snoc rfl e with e | ⟨rfl, rfl⟩
  · exact u _ _ _ _ (hd1_put_le z D H _) (g.2 i w e)
  · exact u _ _ _ _ (hd1_put_le z D H _) h
theorem GZ.start (z : Zz) (D : Addr) (H : Hp) (F : FF) : GZ z D (upd H D (.lst [])) [] F := ⟨upd_same, fun i v e => by simp at e⟩
theorem GZ.all (u : FUp F) (g : GZ z D H vs F) : ∀ i v, vs[i]? = some v → F i v (hide z H) := fun i v e => u _ _ _ _ (hd1_le D _) (g.2 i v e)
end
/-- a world: parts, their machine -/
def FW (K : PySem.W.Frag) : FF := fun _ v H => ∃ (p q : Addr) (v' : V) (M : Parts), v = .ref p ∧ H p = some (.tup [v', .ref q]) ∧ DA H v' (partsD M) ∧ MA K H q M ∧ PV M
theorem FW.up (K : PySem.W.Frag) : FUp (FW K) := fun _ _ _ _ s ⟨p, q, v', M, h1, h2, h3, h4, h5⟩ => ⟨p, q, v', M, h1, s _ _ h2, h3.up s, h4.up s, h5⟩
section
variable {P : Program} {w : World} {K : PySem.W.Frag} {mg : Str → Option Value} {base : Heap}
set_option hygiene false in
local macro_rules | `(tactic| walk_at "w") => `(tactic| repeat (first
  | refine ⟨_, rfl, ?_⟩
  | refine ⟨_, _, rfl, rfl, (by first | decide | omega), fun r r0 r1 re => ?_⟩
  | refine ⟨_, _, rfl, rfl, (by first | exact Or.inl ⟨by omega, by omega⟩ | exact Or.inr ⟨by omega, by omega⟩ : CMul _ _), ?_⟩
  | refine ⟨_, _, rfl, rfl, (by first | exact ⟨by decide, by decide⟩ | exact ⟨by omega, by omega⟩ : CDiv _ _), ?_⟩
  | refine ⟨_, _, rfl, rfl, (by exact ⟨by decide, by decide, by decide⟩ : CPow _ _), ?_⟩
  | refine ⟨_, _, rfl, rfl, ?_⟩
  | refine ⟨(by rfl : scal _ _ = true), ?_⟩
  | refine Or.inl ⟨_, rfl, ?_⟩
  | refine ⟨_, _, rfl, fun m m0 m1 m2 => ?_⟩
  | refine ⟨_, _, _, _, rfl, rfl, SqL.of (by first | assumption | exact upd_same | exact fx _ | exact fy _), rfl, ?_⟩
  | refine ⟨_, _, _, _, rfl, rfl, (by first | assumption | exact upd_same | exact fx _ | exact fy _), rfl, ?_⟩
  | refine ⟨_, _, _, _, rfl, rfl, SqT.of (by first | assumption | exact upd_same | exact fx _ | exact fy _), rfl, ?_⟩
  | refine ⟨(szle (by omega) : Str.length _ ≤ sizeLine), ?_⟩
  | refine ⟨(szle (by first | omega | (rw [sla]; omega) | (rw [sla, sla]; omega)) : Str.length _ + Str.length _ ≤ sizeLine), ?_⟩
  | refine ⟨_, _, rfl, len_lst (by first | assumption | exact upd_same | exact fx _ | exact fy _), ?_⟩))
set_option hygiene false in
local macro_rules | `(tactic| walk_at "if") => `(tactic| (refine ite2 (fun hc => ?_) (fun hc => ?_) <;>
  simp only [decide_eq_true_eq, Bool.not_eq_true', decide_eq_false_iff_not, V.int.injEq, V.str.injEq, V.bl.injEq, Decidable.not_not, Bool.not_eq_true, V.int_ne, Int.not_lt, Int.not_le, Bool.true_eq_false, Bool.false_eq_true, not_true_eq_false, not_false_eq_true] at hc))
set_option hygiene false in
local macro_rules | `(tactic| walk_at "new") => `(tactic| (refine ⟨by first | decide | (simp only [List.length_cons, List.length_nil, List.length_append, List.length_map]; first | decide | (rw [sizeLine_eq]; omega)), fun p np => ?_⟩))
set_option hygiene false in
local macro_rules | `(tactic| walk_at "yes") => `(tactic| refine itY (by first | rfl | exact decide_eq_true (by first | rfl | omega | assumption) | (simp only [decide_eq_true_eq, Bool.not_eq_true', decide_eq_false_iff_not, V.int.injEq, V.str.injEq, V.bl.injEq]; first | omega | assumption)) ?_)
set_option hygiene false in
local macro_rules | `(tactic| walk_at "no") => `(tactic| refine itN (by first | decide | (simp only [decide_eq_true_eq, Bool.not_eq_true', decide_eq_false_iff_not, V.int.injEq, V.str.injEq, V.bl.injEq, Bool.not_eq_true, Decidable.not_not]; first | omega | assumption)) ?_)
def sp_law (K : PySem.W.Frag) : Sp := fun vs H Q _ => ∃ (a : Addr) (ns : List Int), vs = [.ref a] ∧ SqL K H a (ns.map V.int) ∧ ns.length ≤ 63 ∧ ∀ H', Q (.bl true) H'
def N_law : List Str := ["_law_script", "_law_store_here", "_law_parts", "_law_worlds", "_law_world", "_law_papers_here", "_law_paper", "_law_kept", "_law_actual"]
theorem sc_law : FnScope N_law ["_law_script"] (defScope (top 82)) := ⟨rfl, rfl, rfl, by decide +kernel, rfl, by decide +kernel, by decide +kernel⟩
theorem law_body (En : Env K mg fas fns prs) (f : Addr) (cdv : Value) (A : Around) (outer : List PySem.Env) (s : Shared) (H : Hp) (vs : List V) (Q : VK) (E : XK)
    (hr : Room 9 (A.deeper (envOfC "law" (defScope (top 82)) s.heap.objs.size f cdv))) (hA : (A.deeper (envOfC "law" (defScope (top 82)) s.heap.objs.size f cdv)).guards = some []) (h : sp_law K vs H Q E) :
    ∃ t, PSs (cxOf CX0 P w K mg base N_law "law" (defScope (top 82)) f cdv A outer s H E).nox (defBody (top 82)) t ∧ t { nx := fun _ H' => Q .non H', rt := Q } (start N_law vs) H := by
  obtain ⟨a, ns, rfl, hS, hl, k⟩ := h
  refine ⟨_, (pss_cons
        (ps_set (i := 1) sc_law.nd rfl (Or.inl rfl) (pe_fn (ok__law_store En) (hr.mono (by decide)) (pa_cons (pv 0) pa_nil)))
      (pss_cons
        (ps_set (i := 2) sc_law.nd rfl (Or.inl rfl) (pe_fn (ok__law_mixed En) (hr.mono (by decide)) (pa_cons (pv 1) (pa_cons (pe_fn (ok__law_letters En) (hr.mono (by decide)) (pa_cons (pv 1) (pa_cons pe_int pa_nil))) (pa_cons (pe_fn (ok__law_letters En) (hr.mono (by decide)) (pa_cons (pv 1) (pa_cons pe_int pa_nil))) (pa_cons pe_int pa_nil))))))
      (pss_cons
        (ps_set (i := 3) sc_law.nd rfl (Or.inl rfl) (pe_lst pa_nil))
      (pss_cons
        (ps_for PassesOwn.never rfl (pi_listK (K := K) rfl (pe_lst (pa_cons (pv 2) (pa_cons (pe_fn (ok__law_lessened En) (hr.mono (by decide)) (pa_cons (pv 1) (pa_cons (pv 2) pa_nil))) pa_nil)))) (pg_name (i := 4) sc_law.nd rfl (Or.inl rfl)) (pss_one (ps_expr (pe_bm PySem.F.plainAttrs_list PySem.F.slot_list_append PySem.F.type_list_append mt_append (pv 3) (pa_cons (pe_tup (pa_cons (pv 4) (pa_cons (pe_fn (ok__law_machine_of En) (hr.mono (by decide)) (pa_cons (pv 4) pa_nil)) pa_nil))) pa_nil)))))
      (pss_cons
        (ps_set (i := 5) sc_law.nd rfl (Or.inl rfl) (pe_fn (ok__law_papers En) (hr.mono (by decide)) (pa_cons (pv 1) (pa_cons (pv 2) pa_nil))))
      (pss_cons
        (ps_for PassesOwn.never rfl (pi_listK (K := K) rfl (pe_op op_cat (pv 5) (pe_slice (sl_listK (K := K) rfl) (pv 5) po_none (po_some pe_int)))) (pg_name (i := 6) sc_law.nd rfl (Or.inl rfl)) (pss_cons
        (ps_set (i := 7) sc_law.nd rfl (Or.inl rfl) (pe_callB (call_reprD (K := K) hA hr.units rfl) (by rfl) (fr_repr En) bt_repr (pa_cons (pv 6) pa_nil)))
      (pss_one
        (ps_for PassesOwn.never rfl (pi_listK (K := K) rfl (pv 3)) (pg_name (i := 4) sc_law.nd rfl (Or.inl rfl)) (pss_cons
        (ps_set (i := 8) sc_law.nd rfl (Or.inl rfl) (pe_fn (ok_is_growth En) (hr.mono (by decide)) (pa_cons (pe_ix (ix_tupK (K := K) rfl) (pv 4) pe_int (fun _ _ => rfl)) (pa_cons (pv 6) pa_nil))))
      (pss_one
        (ps_if (PW.pt (pw_or (pt_not (pt_val (pe_fn (ok_same0 En) (hr.mono (by decide)) (pa_cons (pv 8) (pa_cons (pe_fn (ok__law_is_growth En) (hr.mono (by decide)) (pa_cons (pe_ix (ix_tupK (K := K) rfl) (pv 4) pe_int (fun _ _ => rfl)) (pa_cons (pv 6) pa_nil))) pa_nil))))) (pw_or1 (pt_cmpR op_ne (pe_callB (call_reprD (K := K) hA hr.units rfl) (by rfl) (fr_repr En) bt_repr (pa_cons (pv 6) pa_nil)) (pv 7) (nomark _))))) (pss_one (ps_ret pe_bl)) pss_nil)))))))
      (pss_one
        (ps_ret pe_bl)))))))), ?_⟩
  walk_at "w"
  refine ⟨a, ns, rfl, hS, hl, fun z' H1 s1 hz' => ?_⟩
  obtain ⟨z, ez, zm, hz⟩ : ∃ z : Zz, z'.s = z.s ∧ z.m = [] ∧ St z H1 := ⟨⟨z'.s, z'.c, []⟩, rfl, rfl, hz'.1, hz'.2.1, fun b hb => nomatch hb⟩
  rw [ez]
  walk_at "w"
  refine ⟨hz, fun rd H2 ard w2 => ?_⟩
  walk_at "w"
  refine ⟨w2.st, fun wr H3 awr w3 => ?_⟩
  replace w3 := w2.trans w3
  walk_at "w"
  refine ⟨z, rd, wr, rfl, w3.st, ard, awr, fun vp H4 M w4 hvp hPV => ?_⟩
  replace w4 := w3.trans w4
  walk_at "w"
  refine ⟨szr rfl, fun D nD => ?_⟩
  have nDz := w4.st.ne nD
  have nD4 : H4 D = none := nD
  have w45 := (Wd.refl w4.st).new (o := .lst []) nD
  have hD5 : upd H4 D (.lst []) D = _ := upd_same
  generalize upd H4 D (.lst []) = H5 at *
  have st5 : St (z.add D) H5 := w45.st.add hD5
  have hvp5 : DA (hide (z.add D) H5) vp (partsD M) := hvp.up (hide_add w45 nD4)
  walk_at "w"
  refine ⟨z.add D, vp, M, rfl, st5, hvp5, hPV, fun v2 H6 M2 w6 hv2 hPV2 => ?_⟩
  replace hvp5 := w6.da hvp5
  have hD6 := w6.kp _ _ nDz.1 nDz.2.1 hD5
  have nDm : ∀ b ∈ (z.add D).m, b = D := fun b hb => by
    rcases List.mem_cons.mp hb with h | h
    · exact h
    · rw [zm] at h; exact nomatch h
  walk_at "w"
  refine ⟨szr rfl, fun LS nLS => ?_⟩
  have nLSz := w6.st.ne nLS
  have nDLS : D ≠ LS := ne_of_none hD6 nLS
  have w67 := (Wd.refl w6.st).new (o := .lst [vp, v2]) nLS
  have hLS : upd H6 LS (.lst [vp, v2]) LS = _ := upd_same
  replace hvp5 := w67.da hvp5
  replace hv2 := w67.da hv2
  replace hD6 := w67.kp _ _ nDz.1 nDz.2.1 hD6
  have w07 := (w45.trans w6.drop).trans w67.drop
  generalize upd H6 LS (.lst [vp, v2]) = H7 at *
  walk_at "w"
  refine ⟨⟨_, SqL.of hLS⟩, for_list (xs := [vp, v2]) (fun i σ H' => ∃ (vs : List V) (x4 : Option V), σ = [some (.ref a), some (.ref z.s), some vp, some (.ref D), x4, none, none, none, none] ∧ Wd z H4 H' ∧ Same (hide (z.add D) H7) (hide (z.add D) H') ∧ H' LS = some (.lst [vp, v2]) ∧ GZ z D H' vs (FW K) ∧ vs.length = i) ?_ ?_ ?_ ?_⟩
  · exact ⟨[], _, rfl, w07, Same.refl _, hLS, ⟨hD6, fun i v e => by simp at e⟩, rfl⟩
  · rintro i σ H' hi ⟨vs, x4, rfl, w8, s8, hLS8, g, hvl⟩
    exact SqL.of hLS8
  · rintro i x σ H8 hi ⟨vs, x4, rfl, w8, s8, hLS8, g, hvl⟩
    obtain ⟨Mi, jx, hPi⟩ : ∃ Mi, DA (hide (z.add D) H8) x (partsD Mi) ∧ PV Mi := by
      match i, hi with
      | 0, hi => cases hi; exact ⟨M, hvp5.up s8, hPV⟩
      | 1, hi => cases hi; exact ⟨M2, hv2.up s8, hPV2⟩
      | n + 2, hi => simp at hi
    have st8 : St (z.add D) H8 := w8.st.add g.1
    walk_at "w"
    refine ⟨Or.inl ⟨rfl, _, SqL.of g.1⟩, ?_⟩
    walk_at "w"
    refine ⟨z.add D, x, Mi, rfl, st8, fun b hb => ⟨vs, by rw [nDm b hb]; exact g.1⟩, jx, hPi, fun q H9 w9 hMA => ?_⟩
    have g9 := g.up (FW.up K) w9.drop ⟨nDz.1, nDz.2.1⟩
    walk_at "w"
    refine ⟨szr rfl, fun T nT => ?_⟩
    have w9T := (Wd.refl w9.st).new (o := .tup [x, .ref q]) nT
    have hT := (Wd.refl w9.st).here (o := .tup [x, .ref q]) nT
    have g10 := g9.up (FW.up K) w9T.drop ⟨nDz.1, nDz.2.1⟩
    have hLS10 := w9T.kp _ _ nLSz.1 nLSz.2.1 (w9.kp _ _ nLSz.1 nLSz.2.1 hLS8)
    have w10 := (w8.trans w9.drop).trans w9T.drop
    have jx10 := w9T.da (w9.da jx)
    have hMA10 := hMA.up w9T.up
    have s10 := (s8.trans w9.up).trans w9T.up
    generalize upd H9 T (.tup [x, .ref q]) = H10 at *
    walk_at "w"
    refine ⟨D, vs, _, rfl, rfl, g10.1, by rw [hvl]; exact small5 (by have := (List.getElem?_eq_some_iff.mp hi).1; simp only [List.length_cons, List.length_nil] at this; omega), ?_⟩
    have e1 : Same (hide (z.add D) H10) (hd1 D (hide z H10)) := fun b o e => by
      obtain ⟨n, e2⟩ := hide_some e
      exact hd1_of (fun h => n.2.2 (by rw [h]; exact List.mem_cons_self)) (hide_drop z H10 D _ _ e)
    refine ⟨_, _, rfl, w10.put nD4 nDz.1 nDz.2.1, s10.trans (hide_upd z H10 D _), by rw [upd_ne nDLS.symm]; exact hLS10, g10.app (FW.up K) ?_, by rw [List.length_append, hvl]; rfl⟩
    exact ⟨T, q, x, Mi, rfl, e1 _ _ hT, jx10.up e1, hMA10.up e1, hPi⟩
  · rintro σ H8 ⟨vs, x4, rfl, w8, s8, hLS8, g, hvl⟩
    have hvp8 := (hvp5.up s8).up (hide_drop z H8 D)
    have hD8 := g.1
    replace g := g.all (FW.up K)
    walk_at "w"
    refine ⟨z, vp, M, rfl, w8.st, hvp8, hPV, fun vD H9 ds w9 hds lds pz _ => ?_⟩
    have hD9 := w9.kp _ _ nDz.1 nDz.2.1 hD8
    replace g : ∀ i v, vs[i]? = some v → FW K i v H9 := fun i v e => FW.up K _ _ _ _ (w9.up.trans (hide_le z H9)) (g i v e)
    replace hds := hds.un
    obtain ⟨pd, xs, rfl, hpd, jds⟩ := hds.lst_inv
    clear hvp8 s8 hLS8 w8 w07 hvp5 hv2 w67 hD6 w6 st5 w45
    walk_at "w"
    have lxs := jds.len
    refine ⟨pd, xs, rfl, SqL.of hpd, fun T1 nT1 => ?_⟩
    rw [cutV_pre _ (by decide)]
    have t1 := Same.new (o := .lst (xs.take (2 : Int).toNat)) nT1
    have hT1 : upd H9 T1 (.lst (xs.take (2 : Int).toNat)) T1 = _ := upd_same
    have hpd1 := t1 _ _ hpd
    generalize upd H9 T1 (.lst (xs.take (2 : Int).toNat)) = H10 at *
    refine ⟨pd, T1, _, _, rfl, rfl, hpd1, hT1, szle (by rw [List.length_take]; omega), fun T2 nT2 => ?_⟩
    have t2 := t1.trans (Same.new (o := .lst (xs ++ xs.take (2 : Int).toNat)) nT2)
    have hT2 : upd H10 T2 (.lst (xs ++ xs.take (2 : Int).toNat)) T2 = _ := upd_same
    generalize upd H10 T2 (.lst (xs ++ xs.take (2 : Int).toNat)) = H11 at *
    have jall := (jds.append (jds.take (2 : Int).toNat)).up t2
    have pall : ∀ d ∈ ds ++ ds.take (2 : Int).toNat, Pz d := fun d hd => (List.mem_append.mp hd).elim (pz d) fun h => pz d (List.mem_of_mem_take h)
    obtain ⟨ys, hys⟩ : ∃ ys, ys = xs ++ xs.take (2 : Int).toNat := ⟨_, rfl⟩
    obtain ⟨es, hes⟩ : ∃ es, es = ds ++ ds.take (2 : Int).toNat := ⟨_, rfl⟩
    rw [← hys] at hT2 jall
    rw [← hes] at jall pall
    have hD11 := t2 _ _ hD9
    replace g : ∀ i v, vs[i]? = some v → FW K i v H11 := fun i v e => FW.up K _ _ _ _ t2 (g i v e)
    clear hys hes hds hpd jds hpd1 hT1 nT1 nT2 t1 t2 lxs w9 hD9 pz lds
    walk_at "w"
    refine ⟨⟨_, SqL.of hT2⟩, for_list (xs := ys) (fun i σ H' => ∃ (x4 x6 x7 x8 : Option V), σ = [some (.ref a), some (.ref z.s), some vp, some (.ref D), x4, some (.ref pd), x6, x7, x8] ∧ Same H11 H') ?_ ?_ ?_ ?_⟩
    · exact ⟨_, _, _, _, rfl, Same.refl _⟩
    · rintro i σ H' hi ⟨x4, x6, x7, x8, rfl, s12⟩
      exact SqL.of (s12 _ _ hT2)
    · rintro i x σ H12 hi ⟨x4, x6, x7, x8, rfl, s12⟩
      obtain ⟨d, hd, jd⟩ := jall.get hi
      have pd1 := pall d (List.mem_of_getElem? hd)
      have ld : Ld d := Nat.lt_of_le_of_lt pd1.1 (by decide)
      walk_at "w"
      refine ⟨x, d, rfl, jd.up s12, pd1, ?_⟩
      have hD12 := s12 _ _ hD11
      walk_at "w"
      refine ⟨⟨_, SqL.of hD12⟩, for_list (xs := vs) (fun i σ H' => ∃ (x4 x8 : Option V), σ = [some (.ref a), some (.ref z.s), some vp, some (.ref D), x4, some (.ref pd), some x, some (.str d.shown), x8] ∧ Same H11 H') ?_ ?_ ?_ ?_⟩
      · exact ⟨_, _, rfl, s12⟩
      · rintro i σ H' hi ⟨x4, x8, rfl, s13⟩
        exact SqL.of (s13 _ _ hD11)
      · rintro i v σ H13 hi ⟨x4, x8, rfl, s13⟩
        obtain ⟨pw, qm, vw, Mw, rfl, hpw, jw, mw, pvw⟩ := FW.up K _ _ _ _ s13 (g i v hi)
        have hpw13 := hpw
        have jd13 := jd.up s13
        walk_at "w"
        refine ⟨qm, x, Mw, d, rfl, mw, pvw, jd13, ld, fun H14 r1 s14 hr1 => ?_⟩
        have hpw14 := s14 _ _ hpw
        walk_at "w"
        refine ⟨vw, x, Mw, d, rfl, jw.up s14, pvw, jd13.up s14, ld, fun H15 r2 s15 hr2 => ?_⟩
        have s315 := (s13.trans s14).trans s15
        have e12 : r1 = r2 := Bool.eq_iff_iff.mpr (hr1.trans hr2.symm)
        walk_at "w"
        refine ⟨.bl r1, .bl r2, .bool r1, .bool r2, rfl, .bl _, .bl _, by show wt _ < _; simp only [wt]; decide, by show wt _ < _; simp only [wt]; decide, rfl, fun r hr => ?_⟩
        obtain rfl : r = true := hr.mpr (by rw [e12])
        walk_at "w"
        refine ⟨x, d, rfl, jd.up s315, pd1, ?_⟩
        walk_at "w"
        refine itN (by simp) ?_
        exact ⟨_, _, rfl, s315⟩
      · rintro σ H13 ⟨x4, x8, rfl, s13⟩
        exact ⟨_, _, _, _, rfl, s13⟩
    · rintro σ H12 ⟨x4, x6, x7, x8, rfl, s12⟩
      walk_at "w"
      exact k _
end
end GJ


set_option Elab.async false
set_option linter.all false
set_option maxRecDepth 100000
set_option maxHeartbeats 4000000
namespace GJ
open PySem PySem.Spec PyProof.Rows L2 TL
/-! ### the def law, entered from the top: no text is being written there -/
abbrev lawF (K : PySem.W.Frag) (fd : FuncData) : Prop := FunD K "law" "law" (defArgs (top 82)) (defBody (top 82)) (defScope (top 82)) [] [] (He.ga K "law") fd
abbrev okTrue : VK := fun v _ => v = .bl true
abbrev noEx : XK := fun _ _ _ => False
theorem law_at {P : Program} {w : World} {K : PySem.W.Frag} {mg : Str → Option Value} {base : Heap} {fd : FuncData} {s : Shared} {H : Hp} {a : Addr} {ns : List Int}
    (En : Env K mg fas fns prs) (F : lawF K fd) (e0 : Env0 P w K mg base callerA [] s H) (hS : SqL K H a (ns.map V.int)) (hl : ns.length ≤ 63) :
    codeAny (model P w) callerA (.call (.ref (He.ga K "law")) ⟨[.ref a], []⟩) (CR CX0 [] P w H s okTrue noEx) s := by
  have bnd := F.bindsA (ps := ["_law_script"]) (fun _ _ _ _ _ _ us h => match us, h with | [_], _ => rfl) s [.ref a] rfl
  obtain ⟨c1, c2, c3, c4, c5, c6, c7, c8, c9, c10, rfl, at_, rec_, _⟩ := F.ex
  have old : ∀ b o, base.get? b = some o → s.heap.get? b = some o := fun b o e => (e0.bs b o e).1
  have inK : K.In s.heap := e0.mod.kin.keeps old
  have nolim := e0.mod.nolimit.keeps old
  have room : Room 10 callerA := ⟨rfl, by decide, by decide⟩
  have par : ∀ y ∈ (["_law_script"] : List Str).zip [Value.ref a], (defScope (top 82)).names.lookup y.1 = some .local ∨ ((defScope (top 82)).names.lookup y.1 = some .cell ∧ ((cellsFrom (s.heap.objs.size + 1) (defScope (top 82)).names []).lookup y.1).isSome = true) := by
    intro y hy
    have h1 : y.1 ∈ (["_law_script"] : List Str) := (List.of_mem_zip (a := y.1) (b := y.2) hy).1
    rcases sc_law.par _ h1 with h | h
    · exact Or.inl h
    · exact Or.inr ⟨h, PySem.W.cellsFrom_some _ _ _ (Or.inl h)⟩
  refine codeAny_call_function room.depth (inK _ _ at_) rfl sc_law.co sc_law.gen rfl (PySem.W.codeRec_of inK rec_) (bnd _ _ _ _ ?_)
  refine wpAny_newFunctionEnv_cells sc_law.kind par fun en hen s2 in2 => ?_
  subst hen
  refine ⟨nolim.keeps in2.toInCall.keep, codeAny_func ?_⟩
  have hsp : sp_law K [V.ref a] H okTrue noEx := ⟨a, ns, rfl, hS, hl, fun _ => rfl⟩
  obtain ⟨t, run_, fine⟩ := law_body (P := P) (w := w) (base := base) En (He.ga K "law") c8 callerA [] s H [V.ref a] okTrue noEx (room.deeper _) rfl hsp
  have inv := inv_start (CX := CX0) (E := noEx) sc_law room.hd e0 (vs := [V.ref a]) rfl (.cons rfl .nil) in2
  refine wpAny_mono (run_.nox.run [] s2 _ H _ inv fine) ?_ (fun _ _ h => h)
  intro fl s3 h3
  match fl, h3 with
  | .ret u, ⟨v, σ', H', J, r, q⟩ => exact ⟨v, H', J.os, J.bare, J.base, J.hok, r, q⟩
  | .next, ⟨σ', H', J, q⟩ => exact ⟨.non, H', J.os, J.bare, J.base, J.hok, rfl, q⟩
  | .brk, ⟨_, _, _, q⟩ => exact False.elim q
  | .cont, ⟨_, _, _, q⟩ => exact False.elim q
/-- a namespace seen past what is tracked -/
theorem ns_past {h : Heap} {H : Hp} {L : Addr} {m : Str → Option Value} (n : h.Ns L m) (q : ∀ (o : Obj) (es : Array DictEntry) (ep : Nat), h.get? L = some o → o.data = .dict es ep → H L = none) : (hidT h H).Ns L m :=
  match n with
  | ⟨o, es, ep, e, d, r⟩ => ⟨o, es, ep, hidT_get e (q o es ep e d), d, r⟩
/-- the script, if it is none of the module's own objects -/
def scrH (K : PySem.W.Frag) (a : Addr) (o : Obj) (ns : List Int) : Hp := fun b => if b = a ∧ (K.lookup a).isNone = true then some (.frz o (.lst (ns.map V.int))) else none
theorem scrH_some {K : PySem.W.Frag} {a b : Addr} {o : Obj} {ns : List Int} {u : HO} (h : scrH K a o ns b = some u) : b = a ∧ K.lookup a = none ∧ u = .frz o (.lst (ns.map V.int)) := by
  unfold scrH at h
  by_cases q : b = a ∧ (K.lookup a).isNone = true
  · rw [if_pos q] at h
    exact ⟨q.1, Option.isNone_iff_eq_none.mp q.2, (Option.some.inj h).symm⟩
  · rw [if_neg q] at h
    cases h
theorem law_top {P : Program} {w : World} {K : PySem.W.Frag} {mg mb : Str → Option Value} {fd : FuncData} {a : Addr} {s : Shared} {us : List Value} {ns : List Int}
    (En : Env K mg fas fns prs) (F : lawF K fd) (inK : K.In s.heap) (nsG : s.heap.Ns mainGlobals mg) (nsB : s.heap.Ns builtinsNs mb) (bB : ∀ x : Str, x ≠ "__name__" → mb x = bootBuiltins x) (lim : s.heap.NoLimit) (gens : s.gens = #[])
    (ha : s.heap.get? a = some { cls := .type "list", data := .seq us.toArray }) (hi : IntsAre us ns) (hl : ns.length ≤ 63) :
    codeAny (model P w) callerA (.call (.ref (He.ga K "law")) ⟨[.ref a], []⟩) (fun r s' => r = .ok (.ret (.bool true)) ∧ OldK s.heap s'.heap ∧ s'.os = s.os ∧ AllBare s'.gens) s := by
  have vals := vals_ints hi
  have big : ns.length ≤ sizeLine := Nat.le_trans hl (by decide)
  obtain ⟨H, hH⟩ : ∃ H : Hp, H = scrH K a { cls := .type "list", data := .seq us.toArray } ns := ⟨_, rfl⟩
  have tr : ∀ {b : Addr} {u : HO}, H b = some u → b = a ∧ K.lookup a = none ∧ u = .frz { cls := .type "list", data := .seq us.toArray } (.lst (ns.map V.int)) := fun {b u} h => scrH_some (by rw [hH] at h; exact h)
  have hS : SqL K H a (ns.map V.int) := by
    cases q : K.lookup a with
    | some o =>
      have same := inK a o q
      rw [ha] at same
      cases same
      refine Or.inr ⟨_, us.toArray, _, q, rfl, rfl, rfl, ?_, by simpa using vals⟩
      rw [List.size_toArray, hi.length]
      exact big
    | none => exact Or.inl (Or.inr ⟨_, by rw [hH]; unfold scrH; rw [q]; exact if_pos ⟨rfl, rfl⟩⟩)
  have hok : HOk P w H s.heap := fun b u h => by
    obtain ⟨rfl, _, rfl⟩ := tr h
    exact ⟨ha, by rw [List.length_map]; exact big, us, _, vals, ha⟩
  have no : ∀ {b : Addr}, (b = a → K.lookup a = none → False) → H b = none := fun {b} n => by
    cases q : H b with
    | none => rfl
    | some u => exact (n (tr q).1 (tr q).2.1).elim
  have dict : ∀ (L : Addr) (o : Obj) (es : Array DictEntry) (ep : Nat), s.heap.get? L = some o → o.data = .dict es ep → H L = none := fun L o es ep e d => no fun h _ => by
    rw [h, ha] at e
    cases e
    exact nomatch d
  have kb : K.In (hidT s.heap H) := fun b o e => hidT_get (inK b o e) (no fun h q => by rw [h, q] at e; cases e)
  have limB : (hidT s.heap H).NoLimit := match lim with
    | ⟨mc, l1, l2⟩ => ⟨mc, ns_past l1 (dict _), l2⟩
  have e0 : Env0 P w K mg (hidT s.heap H) callerA [] s H := {
    frames := rfl
    mod := ⟨kb, ns_past nsG (dict _), ⟨mb, ns_past nsB (dict _), bB⟩, limB⟩
    bs := fun b o e => of_hidT e
    bsz := Nat.le_of_eq (hidT_size _ _)
    funs := trivial
    frf := fun b hb => nomatch (show b ∈ ([] : List Addr) from hb)
    hok := hok
    bare := .of_eq gens }
  refine codeAny_mono (law_at En F e0 hS hl) fun r s' h => ?_
  match r, h with
  | .ok (.ret u), ⟨v, H', os, bare, un, hok', rv, q⟩ =>
    have q : v = .bl true := q
    subst q
    have rv : u = Value.bool true := rv
    subst rv
    refine ⟨rfl, OldK.of_keep fun b o e => ?_, os, bare⟩
    cases z : H b with
    | none => exact un.keep b o e z (fun h => nomatch (show b ∈ ([] : List Addr) from h)) (fun h => nomatch h)
    | some y =>
      obtain ⟨rfl, _, rfl⟩ := tr z
      have kept := (hok' _ _ (un.frzs _ _ _ z)).1
      rw [ha] at e
      rw [← Option.some.inj e]
      exact kept
end GJ

set_option Elab.async false
set_option linter.all false
set_option maxRecDepth 100000
set_option maxHeartbeats 0
open PySem PySem.W PySem.Calls PyProof.Rows
theorem PySem.Challenge.cw_lagbound_k42_growth_judged_holds : PySem.Challenge.rw_lagbound_k42_growth_judged.Holds := by
  w_on; o_law
  refine HandSHeadRun.head_any (r := GJ.RR) (q := view GJ.RR.prog [82]) (H := GJ.hk) (ob := GJ.ob) (M := 6000) (loose := GJ.nms) (d := HandSHeadRun.topDef GJ.RR.prog 82) (kwd := []) GJ.ob_eq
    (by kernel_rfl) (fun s => by kernel_rfl) GJ.run (by kernel_rfl) (by kernel_rfl) (by kernel_rfl) (by rfl) (by first | assumption | decide +kernel) (by decide +kernel) ⟨rfl, rfl, rfl, rfl, rfl, by decide +kernel⟩ ?hw ?hc
  case hw => w_witness2
  case hc =>
    refine Att.attach_call (l := PySem.Challenge.rw_lagbound_k42_growth_judged) (n := 63) rfl (by kernel_rfl) fun w s0 s1 mg mb fa o pm cd doc a vs ns G Y ho hd hcd hmg hobj hints hlen hg => ?_
    obtain ⟨K, inK, says⟩ := Y
    have En := GJ.env_of inK G.T.g says
    have nm : (HandSHeadRun.topDef GJ.RR.prog 82).name = ("law" : PySem.Str) := by kernel_rfl
    have same : mg ("law" : PySem.Str) = some (.ref fa) := by
      rw [← nm]
      exact hmg
    have here := same.symm.trans (En.glo "law" (En.fa GJ.i_law _ rfl))
    cases here
    obtain ⟨fd, F⟩ := En.fn GJ.i_law (GJ.dfn "law" 82) rfl
    exact GJ.law_top En F inK G.T.g G.T.b G.T.builtins G.T.nolimit hg hobj hints hlen

