import PyProof.Rows.All
import Wide.All
import OpenK.AllK
import Wide.FinOn
import KE.KStateDown
import HandS.Base
import HandS.Call
import HandS.Ends
import HandS.More
import HandS.Words
import HandS.WordsExc
import HandS.Defaults
import HandS.Property
import HandS.Star
import HandS.Head0
import HandS.Head1
import HandS.Head2
import HandS.HeadEnd
import HandS.HeadHook1
import HandS.HeadHook2
import PySem.Challenge.RW_leastlooks_k52_whole_rounds_are_few
import HandS.ForMost
import HandS.Walk
import HandS.DictComp
import HandS.IsInst
import HandS.Style
import HandS.Conv
import HandS.Strs
import HandS.Flow
import HandS.NoneIn
import KE.GoesEnum
import KE.SortData
import KE.KIndexOf
set_option Elab.async false
set_option linter.all false
set_option maxRecDepth 100000
set_option maxHeartbeats 0
/-! LkHd: what the program's top leaves, by facts (printed by head_gen.py). -/
namespace Lk
open PySem PySem.Spec PyProof.Rows L2
/-! ### the text by places -/
def topS (i : Nat) : Stmt := PySem.Challenge.pw_leastlooks_k52_whole_rounds_are_few.main.body.getD i (.Pass ⟨0, 0, 0, 0⟩)
abbrev s_is_integer : Stmt := topS 13
abbrev s_has_signs : Stmt := topS 14
abbrev s_is_input : Stmt := topS 15
abbrev s_is_pattern : Stmt := topS 16
abbrev s_need_count : Stmt := topS 17
abbrev s_need_pattern : Stmt := topS 18
abbrev s_need_input : Stmt := topS 19
abbrev s_need_bit : Stmt := topS 20
abbrev s_strings : Stmt := topS 21
abbrev s_inputs : Stmt := topS 22
abbrev s_patterns : Stmt := topS 23
abbrev s_known : Stmt := topS 24
abbrev s_unknown : Stmt := topS 25
abbrev s_size : Stmt := topS 26
abbrev s_need_two : Stmt := topS 27
abbrev s_differ : Stmt := topS 28
abbrev s_put : Stmt := topS 29
abbrev s_settling_patterns : Stmt := topS 31
abbrev s_lean_patterns : Stmt := topS 32
abbrev s_is_table : Stmt := topS 35
abbrev s_chosen_pattern : Stmt := topS 38
abbrev s_round_walk : Stmt := topS 39
abbrev s_rounds_from : Stmt := topS 40
abbrev s_rounds_tree : Stmt := topS 41
abbrev s_most_rounds : Stmt := topS 42
abbrev s_law_bag : Stmt := topS 44
abbrev s_law_draw : Stmt := topS 45
abbrev s_law_mixed : Stmt := topS 46
abbrev s_law_strings : Stmt := topS 47
abbrev s_law_inputs : Stmt := topS 48
abbrev s_law_patterns : Stmt := topS 49
abbrev s_law_put : Stmt := topS 50
abbrev s_law_flip : Stmt := topS 51
abbrev s_law_turned : Stmt := topS 52
abbrev s_law_fits : Stmt := topS 53
abbrev s_law_open_spots : Stmt := topS 54
abbrev s_law_size : Stmt := topS 55
abbrev s_law_rule : Stmt := topS 56
abbrev s_law_table : Stmt := topS 57
abbrev s_law_worths : Stmt := topS 58
abbrev s_law_settling : Stmt := topS 59
abbrev s_law_needs : Stmt := topS 60
abbrev s_law_least_sizes : Stmt := topS 61
abbrev s_law_blocks : Stmt := topS 62
abbrev s_law_turning : Stmt := topS 63
abbrev s_law_most_apart : Stmt := topS 64
abbrev s_law_products : Stmt := topS 65
abbrev s_law_path : Stmt := topS 66
abbrev s_law_is_right : Stmt := topS 67
abbrev s_law_is_whole : Stmt := topS 68
abbrev s_law_is_tree : Stmt := topS 69
abbrev s_law_numbers : Stmt := topS 70
abbrev s_law : Stmt := topS 71
abbrev s_Qinit : Stmt := inClass (topS 36) 0
abbrev s_Qmany : Stmt := inClass (topS 36) 2
abbrev s_Qcall : Stmt := inClass (topS 36) 10
/-! ### a def by its address in the written part -/
structure DefA where
  adr : PySem.W.Frag → Addr
  name : Str
  qual : Str
  params : Arguments
  body : List Stmt
  scope : Scope
def fnA (K : PySem.W.Frag) (a : Addr) : He.FnW := match K.lookup a with
  | some ⟨_, _, .func fd, _⟩ => some (fd.name, fd.qualname, fd.params, fd.body, fd.scope, fd.globals, fd.closure, fd.builtins)
  | _ => none
def DefA.val (d : DefA) : He.FnW := some (d.name, d.qual, d.params, .stmts d.body, d.scope, mainGlobals, [], builtinsNs)
def DefA.ok (K : PySem.W.Frag) (d : DefA) : Bool := PySem.W.keepIn K (.ref (d.adr K)) && (match K.lookup (d.adr K) with
  | some ⟨_, _, .func fd, _⟩ => PySem.W.codeIn K fd.code d.qual && (He.dflB K fd.defaults [] && He.kwdB K fd.kwdefaults [])
  | _ => false)
theorem DefA.funD {K : PySem.W.Frag} {d : DefA} (e : fnA K (d.adr K) = d.val) (c : d.ok K = true) : ∃ fd, FunD K d.name d.qual d.params d.body d.scope [] [] (d.adr K) fd := by
  obtain ⟨kp, c2⟩ := He.ba c
  unfold fnA at e
  cases q : K.lookup (d.adr K) with
  | none =>
    rw [q] at c2
    cases c2
  | some o =>
    obtain ⟨oc, od, dt, osl⟩ := o
    rw [q] at c2 e
    cases dt with
    | func fd =>
      obtain ⟨n1, n2, n3, n4, n5, n6, n7, n8, n9, n10, n11, n12, n13, n14, n15⟩ := fd
      have e2 : (some (n1, n2, n3, n4, n5, n6, n7, n15) : He.FnW) = some (d.name, d.qual, d.params, .stmts d.body, d.scope, mainGlobals, [], builtinsNs) := e
      simp only [Option.some.injEq, Prod.mk.injEq] at e2
      obtain ⟨h1, h2, h3, h4, h5, h6, h7, h8⟩ := e2
      subst h1 h2 h3 h4 h5 h6 h7 h8
      have c3 : (PySem.W.codeIn K n13 d.qual && (He.dflB K n8 [] && He.kwdB K n9 [])) = true := c2
      obtain ⟨k1, k2⟩ := He.ba c3
      obtain ⟨k3, k4⟩ := He.ba k2
      exact ⟨_, ⟨oc, od, n8, n9, n10, n11, n12, n13, n14, osl, rfl, q, k1, He.dflB_ok k3, He.kwdB_ok k4⟩, kp⟩
    | _ => cases c2
/-! ### the class's property, its call -/
def propAt (K : PySem.W.Frag) (C : Addr) (f : Str) : Addr := match PySem.W.findIn K (.ref C) f with
  | some (some (.ref p)) => p
  | _ => 0
def getterAt (K : PySem.W.Frag) (C : Addr) (f : Str) : Addr := match PySem.W.recIn K (propAt K C f) "property" with
  | some (.ref g :: _) => g
  | _ => 0
def propB (K : PySem.W.Frag) (C : Addr) (f : Str) : Bool :=
  He.eqO (PySem.W.findIn K (.ref C) f) (some (some (.ref (propAt K C f)))) && (He.eqO (PySem.W.specialIn K (.ref (propAt K C f)) "__get__") (some (some (.builtin "property.__get__"))) &&
    (decide (PySem.W.takesIn K (.ref (propAt K C f)) = some true) && (match PySem.W.recIn K (propAt K C f) "property" with
      | some (.ref _ :: _) => true
      | _ => false)))
theorem propB_ok {K : PySem.W.Frag} {C : Addr} {f : Str} (h : propB K C f = true) : PropOf K C f (propAt K C f) (getterAt K C f) := by
  obtain ⟨h1, h⟩ := He.ba h
  obtain ⟨h2, h⟩ := He.ba h
  obtain ⟨h3, h4⟩ := He.ba h
  refine ⟨He.eqO_ok h1, He.eqO_ok h2, of_decide_eq_true h3, ?_⟩
  unfold getterAt
  split at h4
  · rename_i g rest e
    exact ⟨rest, by rw [e]⟩
  · cases h4
def callB (K : PySem.W.Frag) (C : Addr) : Bool := He.eqO (PySem.W.findIn K (.ref C) "__call__") (some (some (.ref (He.ma K C "__call__")))) && (PySem.W.isFn K (.ref (He.ma K C "__call__")) && PySem.W.fnIn K (He.ma K C "__call__"))
theorem callB_ok {K : PySem.W.Frag} {C : Addr} (h : callB K C = true) : StX.CallO K C (He.ma K C "__call__") := by
  obtain ⟨h1, h⟩ := He.ba h
  obtain ⟨h2, h3⟩ := He.ba h
  exact ⟨He.eqO_ok h1, h2, h3⟩
/-- the name stands for a tuple of the class itself, with no dict -/
def tupN (K : PySem.W.Frag) (x : Str) : Bool := match K.lookup (He.ga K x) with
  | some ⟨.type c, none, _, _⟩ => decide (c = "tuple")
  | _ => false
theorem tupN_ok {K : PySem.W.Frag} {x : Str} (h : tupN K x = true) : ∃ o, K.lookup (He.ga K x) = some o ∧ o.cls = .type "tuple" ∧ o.dict = none := by
  unfold tupN at h
  split at h
  · rename_i c d sl e
    refine ⟨_, e, ?_, rfl⟩
    rw [of_decide_eq_true h]
  · cases h
/-! ### the Hook -/
abbrev AlX : Type := Bool × Bool × List He.FnW
def obsX (tst : PySem.W.Frag → Bool) (fa : List He.Fa) (fn : List DefA) (K : PySem.W.Frag) : AlX := (tst K, (fa.all fun f => f.ok K) && fn.all fun d => d.ok K, fn.map fun d => fnA K (d.adr K))
def valX (fn : List DefA) : AlX := (true, true, fn.map DefA.val)
def SaysX (tst : PySem.W.Frag → Bool) (fa : List He.Fa) (fn : List DefA) (K : PySem.W.Frag) : Prop := obsX tst fa fn K = valX fn
def obsXG (n : Nat) (tst : PySem.W.Frag → Bool) (fa : List He.Fa) (fn : List DefA) (g : Addr → Option Obj) : AlX := obsX tst fa fn (He.frG g (He.asD g n))
def hookX (n : Nat) (tst : PySem.W.Frag → Bool) (fa : List He.Fa) (fn : List DefA) : PySem.W.Hook where
  α := AlX
  obs := fun s => obsXG n tst fa fn s.heap.get?
  val := fun _ => valX fn
  says := fun _ h => ∃ K : PySem.W.Frag, K.In h ∧ SaysX tst fa fn K
  of := fun _ _ e => ⟨_, He.frG_in, e⟩
  keeps := fun _ _ _ ⟨K, hK, c⟩ k => ⟨K, PySem.W.Frag.In.keeps hK k, c⟩
theorem obsXG_eq {n : Nat} {tst : PySem.W.Frag → Bool} {fa : List He.Fa} {fn : List DefA} {g : Addr → Option Obj} {s : Shared} (h : ∀ a, g a = s.heap.get? a) : obsXG n tst fa fn g = (hookX n tst fa fn).obs s := by
  have e : g = s.heap.get? := funext h
  rw [e] <;> rfl
section
variable {tst : PySem.W.Frag → Bool} {fa : List He.Fa} {fn : List DefA} {K : PySem.W.Frag}
theorem SaysX.test (c : SaysX tst fa fn K) : tst K = true := congrArg (fun z : AlX => z.1) c
theorem SaysX.fact (c : SaysX tst fa fn K) (i : Nat) {f : He.Fa} (h : fa[i]? = some f := by rfl) : f.ok K = true := by
  have c1 := (He.ba (show ((fa.all fun f => f.ok K) && fn.all fun d => d.ok K) = true from congrArg (fun z : AlX => z.2.1) c)).1
  exact List.all_eq_true.mp c1 f (List.mem_of_getElem? h)
theorem SaysX.def_ (c : SaysX tst fa fn K) (i : Nat) {d : DefA} (h : fn[i]? = some d := by rfl) : ∃ fd, FunD K d.name d.qual d.params d.body d.scope [] [] (d.adr K) fd := by
  have c2 := (He.ba (show ((fa.all fun f => f.ok K) && fn.all fun d => d.ok K) = true from congrArg (fun z : AlX => z.2.1) c)).2
  have e : fn.map (fun d => fnA K (d.adr K)) = fn.map DefA.val := congrArg (fun z : AlX => z.2.2) c
  have e2 : (fn.map fun d => fnA K (d.adr K))[i]? = (fn.map DefA.val)[i]? := by rw [e]
  rw [List.getElem?_map, List.getElem?_map, h] at e2
  exact DefA.funD (Option.some.inj e2) (List.all_eq_true.mp c2 d (List.mem_of_getElem? h))
end
/-! ### the facts asked -/
def gd (x : Str) (st : Stmt) : DefA := ⟨fun K => He.ga K x, x, x, defArgs st, defBody st, defScope st⟩
def d_is_integer : DefA := gd "is_integer" s_is_integer
def d_has_signs : DefA := gd "has_signs" s_has_signs
def d_is_input : DefA := gd "is_input" s_is_input
def d_is_pattern : DefA := gd "is_pattern" s_is_pattern
def d_need_count : DefA := gd "need_count" s_need_count
def d_need_pattern : DefA := gd "need_pattern" s_need_pattern
def d_need_input : DefA := gd "need_input" s_need_input
def d_need_bit : DefA := gd "need_bit" s_need_bit
def d_strings : DefA := gd "strings" s_strings
def d_inputs : DefA := gd "inputs" s_inputs
def d_patterns : DefA := gd "patterns" s_patterns
def d_known : DefA := gd "known" s_known
def d_unknown : DefA := gd "unknown" s_unknown
def d_size : DefA := gd "size" s_size
def d_need_two : DefA := gd "need_two" s_need_two
def d_differ : DefA := gd "differ" s_differ
def d_put : DefA := gd "put" s_put
def d_settling_patterns : DefA := gd "settling_patterns" s_settling_patterns
def d_lean_patterns : DefA := gd "lean_patterns" s_lean_patterns
def d_is_table : DefA := gd "is_table" s_is_table
def d_chosen_pattern : DefA := gd "chosen_pattern" s_chosen_pattern
def d_round_walk : DefA := gd "round_walk" s_round_walk
def d_rounds_from : DefA := gd "rounds_from" s_rounds_from
def d_rounds_tree : DefA := gd "rounds_tree" s_rounds_tree
def d_most_rounds : DefA := gd "most_rounds" s_most_rounds
def d_law_bag : DefA := gd "_law_bag" s_law_bag
def d_law_draw : DefA := gd "_law_draw" s_law_draw
def d_law_mixed : DefA := gd "_law_mixed" s_law_mixed
def d_law_strings : DefA := gd "_law_strings" s_law_strings
def d_law_inputs : DefA := gd "_law_inputs" s_law_inputs
def d_law_patterns : DefA := gd "_law_patterns" s_law_patterns
def d_law_put : DefA := gd "_law_put" s_law_put
def d_law_flip : DefA := gd "_law_flip" s_law_flip
def d_law_turned : DefA := gd "_law_turned" s_law_turned
def d_law_fits : DefA := gd "_law_fits" s_law_fits
def d_law_open_spots : DefA := gd "_law_open_spots" s_law_open_spots
def d_law_size : DefA := gd "_law_size" s_law_size
def d_law_rule : DefA := gd "_law_rule" s_law_rule
def d_law_table : DefA := gd "_law_table" s_law_table
def d_law_worths : DefA := gd "_law_worths" s_law_worths
def d_law_settling : DefA := gd "_law_settling" s_law_settling
def d_law_needs : DefA := gd "_law_needs" s_law_needs
def d_law_least_sizes : DefA := gd "_law_least_sizes" s_law_least_sizes
def d_law_blocks : DefA := gd "_law_blocks" s_law_blocks
def d_law_turning : DefA := gd "_law_turning" s_law_turning
def d_law_most_apart : DefA := gd "_law_most_apart" s_law_most_apart
def d_law_products : DefA := gd "_law_products" s_law_products
def d_law_path : DefA := gd "_law_path" s_law_path
def d_law_is_right : DefA := gd "_law_is_right" s_law_is_right
def d_law_is_whole : DefA := gd "_law_is_whole" s_law_is_whole
def d_law_is_tree : DefA := gd "_law_is_tree" s_law_is_tree
def d_law_numbers : DefA := gd "_law_numbers" s_law_numbers
def d_law : DefA := gd "law" s_law
def d_Qinit : DefA := ⟨fun K => He.ma K (He.ga K "Question") "__init__", "__init__", "Question.__init__", defArgs s_Qinit, defBody s_Qinit, defScope s_Qinit⟩
def d_Qmany : DefA := ⟨fun K => getterAt K (He.ga K "Question") "many", "many", "Question.many", defArgs s_Qmany, defBody s_Qmany, defScope s_Qmany⟩
def d_Qcall : DefA := ⟨fun K => He.ma K (He.ga K "Question") "__call__", "__call__", "Question.__call__", defArgs s_Qcall, defBody s_Qcall, defScope s_Qcall⟩
def fnL : List DefA := [d_is_integer, d_has_signs, d_is_input, d_is_pattern, d_need_count, d_need_pattern, d_need_input, d_need_bit, d_strings, d_inputs, d_patterns, d_known, d_unknown, d_size, d_need_two, d_differ, d_put, d_settling_patterns, d_lean_patterns, d_is_table, d_chosen_pattern, d_round_walk, d_rounds_from, d_rounds_tree, d_most_rounds, d_law_bag, d_law_draw, d_law_mixed, d_law_strings, d_law_inputs, d_law_patterns, d_law_put, d_law_flip, d_law_turned, d_law_fits, d_law_open_spots, d_law_size, d_law_rule, d_law_table, d_law_worths, d_law_settling, d_law_needs, d_law_least_sizes, d_law_blocks, d_law_turning, d_law_most_apart, d_law_products, d_law_path, d_law_is_right, d_law_is_whole, d_law_is_tree, d_law_numbers, d_law, d_Qinit, d_Qmany, d_Qcall]
def faL : List He.Fa := [.glo "is_integer", .glo "has_signs", .glo "is_input", .glo "is_pattern", .glo "need_count", .glo "need_pattern", .glo "need_input", .glo "need_bit", .glo "strings", .glo "inputs", .glo "patterns", .glo "known", .glo "unknown", .glo "size", .glo "need_two", .glo "differ", .glo "put", .glo "settling_patterns", .glo "lean_patterns", .glo "is_table", .glo "chosen_pattern", .glo "round_walk", .glo "rounds_from", .glo "rounds_tree", .glo "most_rounds", .glo "_law_bag", .glo "_law_draw", .glo "_law_mixed", .glo "_law_strings", .glo "_law_inputs", .glo "_law_patterns", .glo "_law_put", .glo "_law_flip", .glo "_law_turned", .glo "_law_fits", .glo "_law_open_spots", .glo "_law_size", .glo "_law_rule", .glo "_law_table", .glo "_law_worths", .glo "_law_settling", .glo "_law_needs", .glo "_law_least_sizes", .glo "_law_blocks", .glo "_law_turning", .glo "_law_most_apart", .glo "_law_products", .glo "_law_path", .glo "_law_is_right", .glo "_law_is_whole", .glo "_law_is_tree", .glo "_law_numbers", .glo "law", .free "isinstance", .free "len", .free "all", .free "any", .free "range", .free "enumerate", .free "sorted", .free "max", .free "min", .free "abs", .free "int", .free "str", .free "bool", .free "list", .free "tuple", .free "dict", .free "zip", .int "MOST" 6, .str "BITS" "01", .str "SIGNS" "-01", .glo "SIZES", .glo "Question", .cls "Question", .mkr "Question", .noat "Question" "kept_table", .noat "Question" "kept_many", .noat "Question" "answer_of", .noat "Question" "yes"]
def sizesL : List He.Dv := [.int 1, .int 2, .int 4, .int 8, .int 16, .int 32, .int 64]
def tstL (K : PySem.W.Frag) : Bool := propB K (He.ga K "Question") "many" && (callB K (He.ga K "Question") && (He.tupB K "SIZES" sizesL && tupN K "SIZES"))
abbrev RR : PySem.W.OpenRow := PySem.W.OpenLaw.row PySem.Challenge.rw_leastlooks_k52_whole_rounds_are_few
abbrev hkL : PySem.W.Hook := hookX 5 tstL faL fnL
def obL (s : PySem.W.SharedT) : AlX := obsXG 5 tstL faL fnL (HandSHeadRun.getT s)
theorem obL_eq (s : PySem.W.SharedT) : obL s = hkL.obs s.abs := obsXG_eq (HandSHeadRun.getT_eq s)
def loose0 : List Str := [("_wall" : Str), ("LooksError" : Str), ("BadInput" : Str), ("BadPattern" : Str), ("BadTable" : Str), ("BadCount" : Str), ("BadBit" : Str), ("UnlikeSizes" : Str), ("MOST" : Str), ("BITS" : Str), ("SIGNS" : Str), ("is_integer" : Str), ("has_signs" : Str), ("is_input" : Str), ("is_pattern" : Str), ("need_count" : Str), ("need_pattern" : Str), ("need_input" : Str), ("need_bit" : Str), ("strings" : Str), ("inputs" : Str), ("patterns" : Str), ("known" : Str), ("unknown" : Str), ("size" : Str), ("need_two" : Str), ("differ" : Str), ("put" : Str), ("settling_patterns" : Str), ("lean_patterns" : Str), ("SIZES" : Str), ("is_table" : Str), ("Question" : Str), ("chosen_pattern" : Str), ("round_walk" : Str), ("rounds_from" : Str)]
def loose1 : List Str := [("rounds_tree" : Str), ("most_rounds" : Str), ("_law_bag" : Str), ("_law_draw" : Str), ("_law_mixed" : Str), ("_law_strings" : Str), ("_law_inputs" : Str), ("_law_patterns" : Str), ("_law_put" : Str), ("_law_flip" : Str), ("_law_turned" : Str), ("_law_fits" : Str), ("_law_open_spots" : Str), ("_law_size" : Str), ("_law_rule" : Str), ("_law_table" : Str), ("_law_worths" : Str), ("_law_settling" : Str), ("_law_needs" : Str), ("_law_least_sizes" : Str), ("_law_blocks" : Str), ("_law_turning" : Str), ("_law_most_apart" : Str), ("_law_products" : Str), ("_law_path" : Str), ("_law_is_right" : Str), ("_law_is_whole" : Str), ("_law_is_tree" : Str), ("_law_numbers" : Str)]
def looseL : List Str := loose0 ++ loose1
theorem runL (w : World) : HandSHeadRun.RunEq RR (PySem.W.view RR.prog [71]) hkL obL 6000 looseL w := by
  intro os
  kernel_rfl
end Lk

set_option Elab.async false
set_option linter.all false
/-! LkA: patterns as lists of signs (45 is '-', 48 is '0', 49 is '1'); plain mathematics, no program. -/
namespace Lk
abbrev Pat := List Nat
/-- the sign at a place -/
def gt (p : Pat) (i : Nat) : Nat := p.getD i 0
theorem gt_set {p : Pat} {i j c : Nat} (h : i < p.length) : gt (p.set i c) j = if i = j then c else gt p j := by
  unfold gt
  rw [List.getD_eq_getElem?_getD, List.getD_eq_getElem?_getD]
  by_cases e : i = j
  · subst e; rw [List.getElem?_set_self h, if_pos rfl]; rfl
  · rw [List.getElem?_set_ne e, if_neg e]
theorem gt_same {p : Pat} {i c : Nat} (h : i < p.length) : gt (p.set i c) i = c := by rw [gt_set h, if_pos rfl]
theorem gt_ne {p : Pat} {i j c : Nat} (h : i < p.length) (e : i ≠ j) : gt (p.set i c) j = gt p j := by rw [gt_set h, if_neg e]
theorem gt_get {p : Pat} {i : Nat} (h : i < p.length) : p[i]? = some (gt p i) := by
  unfold gt
  rw [List.getD_eq_getElem?_getD, List.getElem?_eq_getElem h]; rfl
theorem gt_mem {p : Pat} {i : Nat} (h : i < p.length) : gt p i ∈ p := by
  have e := gt_get h
  exact List.mem_of_getElem? e
theorem ext_gt {p q : Pat} (hl : p.length = q.length) (h : ∀ i, i < p.length → gt p i = gt q i) : p = q := by
  apply List.ext_getElem? ; intro i
  by_cases hi : i < p.length
  · rw [gt_get hi, gt_get (hl ▸ hi), h i hi]
  · rw [List.getElem?_eq_none (by omega), List.getElem?_eq_none (by omega)]
theorem set_eq {p : Pat} {i c : Nat} (h : i < p.length) : p.take i ++ c :: p.drop (i + 1) = p.set i c := by
  rw [List.set_eq_take_append_cons_drop, if_pos h]

theorem nodup_le {α : Type} [DecidableEq α] : ∀ {l m : List α}, l.Nodup → (∀ a ∈ l, a ∈ m) → l.length ≤ m.length
  | [], _, _, _ => Nat.zero_le _
  | a :: l, m, h, s => by
    obtain ⟨h1, h2⟩ := List.nodup_cons.mp h
    have ha : a ∈ m := s a List.mem_cons_self
    have := nodup_le (m := m.erase a) h2 fun b hb => (List.mem_erase_of_ne (fun e : b = a => h1 (by rw [← e]; exact hb))).mpr (s b (List.mem_cons_of_mem _ hb))
    rw [List.length_erase_of_mem ha] at this
    have : 0 < m.length := List.length_pos_of_mem ha
    rw [List.length_cons]; omega

/-! ### all strings of so many signs -/
def stg (s : List Nat) : Nat → List Pat
  | 0 => [[]]
  | n + 1 => (stg s n).flatMap fun t => s.map fun c => t ++ [c]
def ins (n : Nat) : List Pat := stg [48, 49] n
def pats (n : Nat) : List Pat := stg [45, 48, 49] n
theorem mem_stg {s : List Nat} : ∀ {n : Nat} {t : Pat}, t ∈ stg s n ↔ t.length = n ∧ ∀ c ∈ t, c ∈ s
  | 0, t => by
    show t ∈ [[]] ↔ _
    rw [List.mem_singleton]
    constructor
    · rintro rfl; exact ⟨rfl, fun c h => nomatch h⟩
    · rintro ⟨h, _⟩; exact List.length_eq_zero_iff.mp h
  | n + 1, t => by
    show t ∈ (stg s n).flatMap _ ↔ _
    rw [List.mem_flatMap]
    constructor
    · rintro ⟨u, hu, ht⟩
      obtain ⟨c, hc, rfl⟩ := List.mem_map.mp ht
      obtain ⟨h1, h2⟩ := mem_stg.mp hu
      refine ⟨by rw [List.length_append, h1]; rfl, fun d hd => ?_⟩
      rcases List.mem_append.mp hd with hd | hd
      · exact h2 d hd
      · rw [List.mem_singleton.mp hd]; exact hc
    · rintro ⟨h1, h2⟩
      have hne : t ≠ [] := by intro e; rw [e] at h1; cases h1
      refine ⟨t.dropLast, mem_stg.mpr ⟨by rw [List.length_dropLast, h1]; rfl, fun c hc => h2 c (List.dropLast_subset t hc)⟩, ?_⟩
      refine List.mem_map.mpr ⟨t.getLast hne, h2 _ (List.getLast_mem hne), List.dropLast_concat_getLast hne⟩
theorem length_stg (s : List Nat) : ∀ n, (stg s n).length = s.length ^ n
  | 0 => rfl
  | n + 1 => by
    show ((stg s n).flatMap _).length = _
    rw [List.length_flatMap]
    have : ((stg s n).map fun t => (s.map fun c => t ++ [c]).length) = (stg s n).map fun _ => s.length := by
      apply List.map_congr_left; intro t _; rw [List.length_map]
    rw [this, List.map_const', List.sum_replicate_nat, length_stg s n, Nat.pow_succ]
theorem length_ins (n : Nat) : (ins n).length = 2 ^ n := length_stg _ _
theorem length_pats (n : Nat) : (pats n).length = 3 ^ n := length_stg _ _

/-! ### their order: ascending as texts are compared -/
theorem lt_snoc {a b : Pat} (hl : a.length = b.length) (h : a < b) (c d : Nat) : a ++ [c] < b ++ [d] := by
  induction a generalizing b with
  | nil => cases b with
    | nil => exact absurd h (by simp)
    | cons y b => cases hl
  | cons x a ih => cases b with
    | nil => cases hl
    | cons y b =>
      rw [List.cons_lt_cons_iff] at h
      rw [List.cons_append, List.cons_append, List.cons_lt_cons_iff]
      rcases h with h | ⟨rfl, h⟩
      · exact .inl h
      · exact .inr ⟨rfl, ih (by simpa using hl) h⟩
theorem lt_snoc_same (a : Pat) {c d : Nat} (h : c < d) : a ++ [c] < a ++ [d] := by
  induction a with
  | nil => exact List.cons_lt_cons_iff.mpr (.inl h)
  | cons x a ih => rw [List.cons_append, List.cons_append, List.cons_lt_cons_iff]; exact .inr ⟨rfl, ih⟩
theorem sorted_stg {s : List Nat} (hs : s.Pairwise (· < ·)) : ∀ n, (stg s n).Pairwise (· < ·)
  | 0 => List.pairwise_singleton _ _
  | n + 1 => by
    show ((stg s n).flatMap _).Pairwise _
    rw [List.flatMap, List.pairwise_flatten]
    refine ⟨fun l hl => ?_, ?_⟩
    · obtain ⟨t, _, rfl⟩ := List.mem_map.mp hl
      rw [List.pairwise_map]
      exact hs.imp fun h => lt_snoc_same t h
    · rw [List.pairwise_map]
      refine (List.Pairwise.and_mem.mp (sorted_stg hs n)).imp ?_
      rintro a b ⟨ha, hb, h⟩ x hx y hy
      obtain ⟨c, _, rfl⟩ := List.mem_map.mp hx
      obtain ⟨d, _, rfl⟩ := List.mem_map.mp hy
      exact lt_snoc ((mem_stg.mp ha).1.trans (mem_stg.mp hb).1.symm) h c d
theorem lt_irrefl (a : Pat) : ¬ a < a := List.lt_irrefl a
theorem nodup_of_sorted {l : List Pat} (h : l.Pairwise (· < ·)) : l.Nodup := by
  refine List.Pairwise.imp ?_ h
  intro a b q e
  rw [e] at q; exact lt_irrefl _ q
theorem sorted_ins (n : Nat) : (ins n).Pairwise (· < ·) := sorted_stg (by decide) n
theorem sorted_pats (n : Nat) : (pats n).Pairwise (· < ·) := sorted_stg (by decide) n
theorem nodup_ins (n : Nat) : (ins n).Nodup := nodup_of_sorted (sorted_ins n)
theorem nodup_pats (n : Nat) : (pats n).Nodup := nodup_of_sorted (sorted_pats n)
/-- of a place with '-', a known sign makes a later pattern -/
theorem lt_set {p : Pat} {i c : Nat} (hi : i < p.length) (h : gt p i < c) : p < p.set i c := by
  induction p generalizing i with
  | nil => cases hi
  | cons x p ih =>
    cases i with
    | zero => exact List.cons_lt_cons_iff.mpr (.inl h)
    | succ i => exact List.cons_lt_cons_iff.mpr (.inr ⟨rfl, ih (Nat.lt_of_succ_lt_succ hi) h⟩)
/-- in a sorted list the greater one stands behind -/
theorem behind {l : List Pat} (hl : l.Pairwise (· < ·)) {j : Nat} {a b : Pat} (ha : l[j]? = some a) (hb : b ∈ l) (h : a < b) : b ∈ l.drop (j + 1) := by
  obtain ⟨hj, ea⟩ := List.getElem?_eq_some_iff.mp ha
  obtain ⟨k, hk, eb⟩ := List.getElem_of_mem hb
  have hjk : j < k := by
    rcases Nat.lt_trichotomy j k with q | q | q
    · exact q
    · subst q; rw [ea] at eb; rw [eb] at h; exact absurd h (lt_irrefl _)
    · have := List.pairwise_iff_getElem.mp hl k j hk hj q
      rw [ea, eb] at this
      exact absurd (List.lt_trans h this) (lt_irrefl _)
  rw [← eb]
  refine List.mem_iff_getElem.mpr ⟨k - (j + 1), by rw [List.length_drop]; omega, ?_⟩
  rw [List.getElem_drop]
  congr 1; omega
/-- .. in the reversed list ahead -/
theorem ahead_rev {l : List Pat} (hl : l.Pairwise (· < ·)) {i : Nat} {a b : Pat} (ha : l.reverse[i]? = some a) (hb : b ∈ l) (h : a < b) : b ∈ l.reverse.take i := by
  have hi : i < l.reverse.length := (List.getElem?_eq_some_iff.mp ha).1
  rw [List.length_reverse] at hi
  rw [List.getElem?_reverse hi] at ha
  have := behind hl ha hb h
  rw [List.take_reverse, List.mem_reverse]
  have e : l.length - 1 - i + 1 = l.length - i := by omega
  rw [e] at this
  exact this

/-! ### patterns, inputs, what fits -/
theorem mem_pats {n : Nat} {p : Pat} : p ∈ pats n ↔ p.length = n ∧ ∀ i, i < n → gt p i = 45 ∨ gt p i = 48 ∨ gt p i = 49 := by
  rw [pats, mem_stg]
  constructor
  · rintro ⟨h1, h2⟩
    refine ⟨h1, fun i hi => ?_⟩
    have := h2 _ (gt_mem (h1.symm ▸ hi : i < p.length))
    simpa using this
  · rintro ⟨h1, h2⟩
    refine ⟨h1, fun c hc => ?_⟩
    obtain ⟨i, hi, e⟩ := List.getElem_of_mem hc
    have q := h2 i (h1 ▸ hi)
    have e2 : gt p i = c := by
      have z := gt_get hi
      rw [List.getElem?_eq_getElem hi, e] at z
      exact (Option.some.inj z).symm
    rw [e2] at q
    simpa using q
theorem mem_ins {n : Nat} {p : Pat} : p ∈ ins n ↔ p.length = n ∧ ∀ i, i < n → gt p i = 48 ∨ gt p i = 49 := by
  rw [ins, mem_stg]
  constructor
  · rintro ⟨h1, h2⟩
    refine ⟨h1, fun i hi => ?_⟩
    have := h2 _ (gt_mem (h1.symm ▸ hi : i < p.length))
    simpa using this
  · rintro ⟨h1, h2⟩
    refine ⟨h1, fun c hc => ?_⟩
    obtain ⟨i, hi, e⟩ := List.getElem_of_mem hc
    have q := h2 i (h1 ▸ hi)
    have e2 : gt p i = c := by
      have z := gt_get hi
      rw [List.getElem?_eq_getElem hi, e] at z
      exact (Option.some.inj z).symm
    rw [e2] at q
    simpa using q
theorem ins_pats {n : Nat} {p : Pat} (h : p ∈ ins n) : p ∈ pats n := by
  obtain ⟨h1, h2⟩ := mem_ins.mp h
  exact mem_pats.mpr ⟨h1, fun i hi => .inr (h2 i hi)⟩
theorem len_pats {n : Nat} {p : Pat} (h : p ∈ pats n) : p.length = n := (mem_pats.mp h).1
theorem len_ins {n : Nat} {p : Pat} (h : p ∈ ins n) : p.length = n := (mem_ins.mp h).1
theorem set_pats {n i c : Nat} {p : Pat} (h : p ∈ pats n) (hc : c = 45 ∨ c = 48 ∨ c = 49) : p.set i c ∈ pats n := by
  obtain ⟨h1, h2⟩ := mem_pats.mp h
  refine mem_pats.mpr ⟨by rw [List.length_set, h1], fun j hj => ?_⟩
  by_cases hi : i < p.length
  · rw [gt_set hi]
    split
    · exact hc
    · exact h2 j hj
  · rw [List.set_eq_of_length_le (by omega)]; exact h2 j hj
theorem set_ins {n i c : Nat} {p : Pat} (h : p ∈ ins n) (hc : c = 48 ∨ c = 49) : p.set i c ∈ ins n := by
  obtain ⟨h1, h2⟩ := mem_ins.mp h
  refine mem_ins.mpr ⟨by rw [List.length_set, h1], fun j hj => ?_⟩
  by_cases hi : i < p.length
  · rw [gt_set hi]
    split
    · exact hc
    · exact h2 j hj
  · rw [List.set_eq_of_length_le (by omega)]; exact h2 j hj
/-- an input (or pattern) fits a pattern -/
def Fit (x p : Pat) : Prop := ∀ i, i < p.length → gt p i = 45 ∨ gt p i = gt x i
instance (x p : Pat) : Decidable (Fit x p) := inferInstanceAs (Decidable (∀ i, i < p.length → _))
theorem Fit.refl (x : Pat) : Fit x x := fun _ _ => .inr rfl
theorem Fit.set {n i c : Nat} {x p : Pat} (hp : p.length = n) (hi : i < n) (h : Fit x p) (e : gt x i = c) : Fit x (p.set i c) := fun j hj => by
  rw [List.length_set] at hj
  rw [gt_set (hp ▸ hi)]
  split
  · rename_i q; subst q; exact .inr e.symm
  · exact h j hj
theorem Fit.of_set {n i c : Nat} {x p : Pat} (hp : p.length = n) (hi : i < n) (ho : gt p i = 45) (h : Fit x (p.set i c)) : Fit x p := fun j hj => by
  have := h j (by rw [List.length_set]; exact hj)
  rw [gt_set (hp ▸ hi)] at this
  by_cases q : i = j
  · subst q; exact .inl ho
  · rw [if_neg q] at this; exact this
theorem Fit.at_set {n i c : Nat} {x p : Pat} (hp : p.length = n) (hi : i < n) (hc : c ≠ 45) (h : Fit x (p.set i c)) : gt x i = c := by
  have := h i (by rw [List.length_set, hp]; exact hi)
  rw [gt_same (hp ▸ hi)] at this
  rcases this with h | h
  · exact absurd h hc
  · exact h.symm
/-- some input fits -/
theorem some_fit {n : Nat} {p : Pat} (h : p ∈ pats n) : ∃ x ∈ ins n, Fit x p := by
  obtain ⟨h1, h2⟩ := mem_pats.mp h
  have hg : ∀ j, j < n → gt (p.map fun c => if c = 45 then 48 else c) j = if gt p j = 45 then 48 else gt p j := fun j hj => by
    have hj' : j < p.length := h1.symm ▸ hj
    have := gt_get (p := p.map fun c => if c = 45 then 48 else c) (i := j) (by rw [List.length_map]; exact hj')
    rw [List.getElem?_map, gt_get hj'] at this
    exact (Option.some.inj this).symm
  refine ⟨p.map fun c => if c = 45 then 48 else c, mem_ins.mpr ⟨by rw [List.length_map, h1], fun i hi => ?_⟩, fun i hi => ?_⟩
  · rw [hg i hi]
    split
    · exact .inl rfl
    · rename_i q; exact (h2 i hi).resolve_left q
  · rw [hg i (h1 ▸ hi)]
    split
    · rename_i q; exact .inl q
    · exact .inr rfl
/-- the unknown places, ascending -/
def opn (p : Pat) : List Nat := (List.range p.length).filter fun i => gt p i == 45
theorem mem_opn {p : Pat} {i : Nat} : i ∈ opn p ↔ i < p.length ∧ gt p i = 45 := by
  unfold opn
  rw [List.mem_filter, List.mem_range, beq_iff_eq]
theorem nodup_opn (p : Pat) : (opn p).Nodup := List.Pairwise.filter _ List.nodup_range
/-- the known places, ascending; their number -/
def kno (p : Pat) : List Nat := (List.range p.length).filter fun i => gt p i != 45
theorem mem_kno {p : Pat} {i : Nat} : i ∈ kno p ↔ i < p.length ∧ gt p i ≠ 45 := by
  unfold kno
  rw [List.mem_filter, List.mem_range, bne_iff_ne]
theorem nodup_kno (p : Pat) : (kno p).Nodup := List.Pairwise.filter _ List.nodup_range
def siz (p : Pat) : Nat := (kno p).length
theorem siz_le (p : Pat) : siz p ≤ p.length := by
  unfold siz kno
  exact Nat.le_trans (List.length_filter_le _ _) (by rw [List.length_range]; exact Nat.le_refl _)
theorem opn_nil {n : Nat} {p : Pat} (h : p ∈ pats n) (e : opn p = []) : p ∈ ins n := by
  obtain ⟨h1, h2⟩ := mem_pats.mp h
  refine mem_ins.mpr ⟨h1, fun i hi => (h2 i hi).resolve_left fun q => ?_⟩
  have : i ∈ opn p := mem_opn.mpr ⟨h1.symm ▸ hi, q⟩
  rw [e] at this; cases this
theorem ins_opn {n : Nat} {p : Pat} (h : p ∈ ins n) : opn p = [] := by
  obtain ⟨h1, h2⟩ := mem_ins.mp h
  apply List.eq_nil_iff_forall_not_mem.mpr
  intro i hi
  obtain ⟨a, b⟩ := mem_opn.mp hi
  rcases h2 i (h1 ▸ a) with q | q <;> omega
/-- an input that fits an input is it -/
theorem fit_ins {n : Nat} {x p : Pat} (hx : x ∈ ins n) (hp : p ∈ ins n) (h : Fit x p) : x = p := by
  obtain ⟨h1, h2⟩ := mem_ins.mp hp
  refine ext_gt ((len_ins hx).trans h1.symm) fun i hi => ?_
  have hi' : i < p.length := by rw [h1, ← len_ins hx]; exact hi
  rcases h i hi' with q | q
  · rcases h2 i (h1 ▸ hi') with r | r <;> omega
  · exact q.symm
/-- one place less is open -/
theorem opn_set {p : Pat} {i c : Nat} (hc : c ≠ 45) (hi : i ∈ opn p) : (opn (p.set i c)).length < (opn p).length := by
  obtain ⟨h1, h2⟩ := mem_opn.mp hi
  have hs : ∀ j, j ∈ opn (p.set i c) ↔ j ∈ opn p ∧ j ≠ i := fun j => by
    rw [mem_opn, mem_opn, List.length_set]
    constructor
    · rintro ⟨a, b⟩
      rw [gt_set h1] at b
      by_cases q : i = j
      · rw [if_pos q] at b; exact absurd b hc
      · rw [if_neg q] at b; exact ⟨⟨a, b⟩, fun e => q e.symm⟩
    · rintro ⟨⟨a, b⟩, q⟩
      refine ⟨a, ?_⟩
      rw [gt_set h1, if_neg (fun e => q e.symm)]; exact b
  have e : (i :: opn (p.set i c)).length ≤ (opn p).length := by
    refine nodup_le ?_ ?_
    · refine List.nodup_cons.mpr ⟨fun m => ((hs i).mp m).2 rfl, nodup_opn _⟩
    · intro j hj
      rcases List.mem_cons.mp hj with rfl | hj
      · exact hi
      · exact ((hs j).mp hj).1
  rw [List.length_cons] at e
  omega
end Lk

set_option Elab.async false
set_option linter.all false
/-! LkB: what settles, the lean patterns, the walk in rounds, and its bounds; plain mathematics. -/
namespace Lk
section
variable (f : Pat → Int) (n : Nat)
/-- the answer that a pattern settles -/
def st (p : Pat) : Option Int :=
  if ∀ x ∈ ins n, Fit x p → f x = 0 then some 0 else if ∀ x ∈ ins n, Fit x p → f x = 1 then some 1 else none
/-- a 0-1 function -/
def Bi : Prop := ∀ x, f x = 0 ∨ f x = 1
end
section
variable {f : Pat → Int} {n : Nat}
theorem st_some (hf : Bi f) {p : Pat} (hp : p ∈ pats n) {b : Int} : st f n p = some b ↔ ∀ x ∈ ins n, Fit x p → f x = b := by
  obtain ⟨x0, hx0, hfit⟩ := some_fit hp
  unfold st
  split
  · rename_i h
    constructor
    · intro e; cases e; exact h
    · intro h2; rw [← h2 x0 hx0 hfit, h x0 hx0 hfit]
  · rename_i h
    split
    · rename_i h1
      constructor
      · intro e; cases e; exact h1
      · intro h2; rw [← h2 x0 hx0 hfit, h1 x0 hx0 hfit]
    · rename_i h1
      constructor
      · intro e; cases e
      · intro h2
        have q := h2 x0 hx0 hfit
        rcases hf x0 with e | e
        · rw [e] at q; rw [← q] at h2; exact absurd h2 h
        · rw [e] at q; rw [← q] at h2; exact absurd h2 h1
theorem st_bit {p : Pat} {b : Int} (h : st f n p = some b) : b = 0 ∨ b = 1 := by
  unfold st at h
  split at h
  · cases h; exact .inl rfl
  · split at h
    · cases h; exact .inr rfl
    · cases h
/-- where nothing is settled both answers are open -/
theorem st_open (hf : Bi f) {p : Pat} (h : st f n p = none) {a : Int} (ha : a = 0 ∨ a = 1) : ∃ x ∈ ins n, Fit x p ∧ f x = a := by
  unfold st at h
  split at h
  · cases h
  · rename_i h0
    split at h
    · cases h
    · rename_i h1
      rcases ha with rfl | rfl
      · apply Classical.byContradiction
        intro hn
        exact h1 fun x hx hfx => (hf x).resolve_left fun e => hn ⟨x, hx, hfx, e⟩
      · apply Classical.byContradiction
        intro hn
        exact h0 fun x hx hfx => (hf x).resolve_right fun e => hn ⟨x, hx, hfx, e⟩
theorem st_input (hf : Bi f) {p : Pat} (hp : p ∈ ins n) : st f n p = some (f p) :=
  (st_some hf (ins_pats hp)).mpr fun x hx h => by rw [fit_ins hx hp h]
theorem st_fit (hf : Bi f) {p : Pat} (hp : p ∈ pats n) {b : Int} (h : st f n p = some b) {x : Pat} (hx : x ∈ ins n) (h' : Fit x p) : f x = b := (st_some hf hp).mp h x hx h'
/-- a wider pattern that settles -/
theorem st_wider (hf : Bi f) {p q : Pat} (hp : p ∈ pats n) (hq : q ∈ pats n) (w : ∀ x, Fit x p → Fit x q) {b : Int} (h : st f n q = some b) : st f n p = some b :=
  (st_some hf hp).mpr fun x hx hfx => st_fit hf hq h hx (w x hfx)
theorem st_split (hf : Bi f) {p : Pat} (hp : p ∈ pats n) {i : Nat} (hi : i ∈ opn p) :
    st f n p = if st f n (p.set i 48) = st f n (p.set i 49) then st f n (p.set i 48) else none := by
  obtain ⟨hi1, ho⟩ := mem_opn.mp hi
  have hl := len_pats hp
  have p0 : p.set i 48 ∈ pats n := set_pats hp (by simp)
  have p1 : p.set i 49 ∈ pats n := set_pats hp (by simp)
  have down : ∀ {b : Int} {c : Nat}, p.set i c ∈ pats n → st f n p = some b → st f n (p.set i c) = some b := fun hc h =>
    st_wider hf hc hp (fun x hx => Fit.of_set hl (hl ▸ hi1) ho hx) h
  cases e : st f n p with
  | some b => rw [down p0 e, down p1 e, if_pos rfl]
  | none =>
    split
    · rename_i q
      cases e0 : st f n (p.set i 48) with
      | none => rfl
      | some b =>
        rw [e0] at q
        have all : st f n p = some b := (st_some hf hp).mpr fun x hx hfx => by
          rcases (mem_ins.mp hx).2 i (hl ▸ hi1) with z | z
          · exact st_fit hf p0 e0 hx (Fit.set hl (hl ▸ hi1) hfx z)
          · exact st_fit hf p1 q.symm hx (Fit.set hl (hl ▸ hi1) hfx z)
        rw [e] at all; cases all
    · rfl
end

/-! ### the lean patterns of an answer; the chosen one -/
section
variable (f : Pat → Int) (n : Nat)
def lea (a : Int) : List Pat := (pats n).filter fun p => decide (st f n p = some a) && (kno p).all fun i => decide (st f n (p.set i 45) = none)
end
def dif (q p : Pat) : List Nat := ((kno q).filter fun i => gt p i != 45).filter fun i => gt q i != gt p i
/-- they agree -/
def Agr (q p : Pat) : Prop := ∀ i, i < q.length → gt q i = 45 ∨ gt p i = 45 ∨ gt q i = gt p i
theorem dif_nil {q p : Pat} : dif q p = [] ↔ Agr q p := by
  unfold dif
  rw [List.eq_nil_iff_forall_not_mem]
  constructor
  · intro h i hi
    have := h i
    rw [List.mem_filter, List.mem_filter, mem_kno, bne_iff_ne, bne_iff_ne] at this
    by_cases h1 : gt q i = 45
    · exact .inl h1
    · by_cases h2 : gt p i = 45
      · exact .inr (.inl h2)
      · by_cases h3 : gt q i = gt p i
        · exact .inr (.inr h3)
        · exact absurd ⟨⟨⟨hi, h1⟩, h2⟩, h3⟩ this
  · intro h i m
    rw [List.mem_filter, List.mem_filter, mem_kno, bne_iff_ne, bne_iff_ne] at m
    obtain ⟨⟨⟨a, b⟩, c⟩, d⟩ := m
    rcases h i a with q | q | q
    · exact b q
    · exact c q
    · exact d q
theorem agr_of_fit {x q p : Pat} (hl : q.length = p.length) (h1 : Fit x q) (h2 : Fit x p) : Agr q p := fun i hi => by
  rcases h1 i hi with a | a
  · exact .inl a
  · rcases h2 i (hl ▸ hi) with b | b
    · exact .inr (.inl b)
    · exact .inr (.inr (a.trans b.symm))
def chs1 (p : Pat) (best : Option Pat) (o : Pat) : Option Pat :=
  if (dif o p).length = 0 ∧ (best = none ∨ siz o < siz (best.getD [])) then some o else best
def chs (ln : List Pat) (p : Pat) : Option Pat := ln.foldl (chs1 p) none
theorem chs_go (p : Pat) : ∀ (ln : List Pat) (b : Option Pat) (c : Pat), ln.foldl (chs1 p) b = some c →
    (b = some c ∨ (c ∈ ln ∧ dif c p = [])) ∧ (∀ d, b = some d → siz c ≤ siz d) ∧ ∀ o ∈ ln, dif o p = [] → siz c ≤ siz o
  | [], b, c, h => ⟨.inl h, fun d e => by rw [show b = some c from h] at e; cases e; exact Nat.le_refl _, fun o ho => nomatch ho⟩
  | o :: ln, b, c, h => by
    rw [List.foldl_cons] at h
    obtain ⟨h1, h2, h3⟩ := chs_go p ln (chs1 p b o) c h
    have hs : (chs1 p b o = some o ∧ dif o p = [] ∧ ∀ d, b = some d → siz o < siz d) ∨ (chs1 p b o = b ∧ (dif o p = [] → ∃ d, b = some d ∧ siz d ≤ siz o)) := by
      unfold chs1
      split
      · rename_i q
        refine .inl ⟨rfl, List.length_eq_zero_iff.mp q.1, fun d e => ?_⟩
        rcases q.2 with z | z
        · rw [z] at e; cases e
        · rw [e] at z; exact z
      · rename_i q
        refine .inr ⟨rfl, fun e => ?_⟩
        cases b with
        | none => exact absurd ⟨List.length_eq_zero_iff.mpr e, .inl rfl⟩ q
        | some d =>
          refine ⟨d, rfl, Nat.le_of_not_lt fun z => q ⟨List.length_eq_zero_iff.mpr e, .inr z⟩⟩
    rcases hs with ⟨e, e2, e3⟩ | ⟨e, e2⟩
    · refine ⟨?_, fun d hd => Nat.le_trans (h2 o e) (Nat.le_of_lt (e3 d hd)), fun o' ho' => ?_⟩
      · rcases h1 with h1 | h1
        · rw [e] at h1; cases h1; exact .inr ⟨List.mem_cons_self, e2⟩
        · exact .inr ⟨List.mem_cons_of_mem _ h1.1, h1.2⟩
      · rcases List.mem_cons.mp ho' with rfl | ho'
        · exact fun _ => h2 _ e
        · exact h3 o' ho'
    · refine ⟨?_, fun d hd => h2 d (e.trans hd), fun o' ho' => ?_⟩
      · rcases h1 with h1 | h1
        · exact .inl (e.symm.trans h1)
        · exact .inr ⟨List.mem_cons_of_mem _ h1.1, h1.2⟩
      · rcases List.mem_cons.mp ho' with rfl | ho'
        · intro z
          obtain ⟨d, hd, hle⟩ := e2 z
          exact Nat.le_trans (h2 d (e.trans hd)) hle
        · exact h3 o' ho'
theorem chs_some (p : Pat) : ∀ (ln : List Pat) (b : Option Pat), (b ≠ none ∨ ∃ o ∈ ln, dif o p = []) → ln.foldl (chs1 p) b ≠ none
  | [], b, h => by
    rcases h with h | ⟨o, ho, _⟩
    · exact h
    · cases ho
  | o :: ln, b, h => by
    rw [List.foldl_cons]
    apply chs_some
    by_cases hb : chs1 p b o = none
    · right
      unfold chs1 at hb
      split at hb
      · cases hb
      · rename_i q
        subst hb
        rcases h with h | ⟨o', ho', e⟩
        · exact absurd rfl h
        · rcases List.mem_cons.mp ho' with rfl | ho'
          · exact absurd ⟨List.length_eq_zero_iff.mpr e, .inl rfl⟩ q
          · exact ⟨o', ho', e⟩
    · exact .inl hb
theorem chs_ok {ln : List Pat} {p : Pat} (h : ∃ o ∈ ln, dif o p = []) : ∃ c, chs ln p = some c ∧ c ∈ ln ∧ dif c p = [] ∧ ∀ o ∈ ln, dif o p = [] → siz c ≤ siz o := by
  cases e : chs ln p with
  | none => exact absurd e (chs_some p ln none (.inr h))
  | some c =>
    obtain ⟨h1, _, h3⟩ := chs_go p ln none c e
    rcases h1 with h1 | h1
    · cases h1
    · exact ⟨c, rfl, h1.1, h1.2, h3⟩
section
variable {f : Pat → Int} {n : Nat}
theorem mem_lea {a : Int} {p : Pat} : p ∈ lea f n a ↔ p ∈ pats n ∧ st f n p = some a ∧ ∀ i ∈ kno p, st f n (p.set i 45) = none := by
  unfold lea
  rw [List.mem_filter, Bool.and_eq_true, decide_eq_true_iff, List.all_eq_true]
  simp only [decide_eq_true_iff]
theorem siz_set {p : Pat} {i : Nat} (hi : i ∈ kno p) : siz (p.set i 45) < siz p := by
  obtain ⟨h1, h2⟩ := mem_kno.mp hi
  have hs : ∀ j, j ∈ kno (p.set i 45) → j ∈ kno p ∧ j ≠ i := fun j hj => by
    obtain ⟨a, b⟩ := mem_kno.mp hj
    rw [List.length_set] at a
    rw [gt_set h1] at b
    by_cases q : i = j
    · rw [if_pos q] at b; exact absurd rfl b
    · rw [if_neg q] at b; exact ⟨mem_kno.mpr ⟨a, b⟩, fun e => q e.symm⟩
  have e : (i :: kno (p.set i 45)).length ≤ (kno p).length := by
    refine nodup_le ?_ ?_
    · exact List.nodup_cons.mpr ⟨fun m => (hs i m).2 rfl, nodup_kno _⟩
    · intro j hj
      rcases List.mem_cons.mp hj with rfl | hj
      · exact hi
      · exact (hs j hj).1
  rw [List.length_cons] at e
  exact e
/-- what is known in q' is known so in q -/
def Wid (q' q : Pat) : Prop := q'.length = q.length ∧ ∀ i, i < q.length → gt q' i = 45 ∨ gt q' i = gt q i
theorem Wid.fit {q' q x : Pat} (h : Wid q' q) (hx : Fit x q) : Fit x q' := fun i hi => by
  rw [h.1] at hi
  rcases h.2 i hi with a | a
  · exact .inl a
  · rcases hx i hi with b | b
    · exact .inl (a.trans b)
    · exact .inr (a.trans b)
theorem Wid.agr {q' q p : Pat} (h : Wid q' q) (a : Agr q p) : Agr q' p := fun i hi => by
  rw [h.1] at hi
  rcases h.2 i hi with e | e
  · exact .inl e
  · rcases a i hi with b | b | b
    · exact .inl (e.trans b)
    · exact .inr (.inl b)
    · exact .inr (.inr (e.trans b))
theorem lean_of (hf : Bi f) {a : Int} : ∀ (k : Nat) {q : Pat}, siz q ≤ k → q ∈ pats n → st f n q = some a → ∃ q' ∈ lea f n a, Wid q' q ∧ siz q' ≤ siz q
  | k, q, hk, hq, hs => by
    by_cases hl : ∀ i ∈ kno q, st f n (q.set i 45) = none
    · exact ⟨q, mem_lea.mpr ⟨hq, hs, hl⟩, ⟨rfl, fun i _ => .inr rfl⟩, Nat.le_refl _⟩
    · have : ∃ i, i ∈ kno q ∧ st f n (q.set i 45) ≠ none := by
        apply Classical.byContradiction
        intro hn
        exact hl fun i hi => Classical.byContradiction fun e => hn ⟨i, hi, e⟩
      obtain ⟨i, hi, hne⟩ := this
      obtain ⟨h1, h2⟩ := mem_kno.mp hi
      have hlt := siz_set hi
      cases k with
      | zero => omega
      | succ k =>
        have hq' : q.set i 45 ∈ pats n := set_pats hq (by simp)
        have wid : Wid (q.set i 45) q := ⟨List.length_set .., fun j _ => by
          rw [gt_set h1]
          split
          · exact .inl rfl
          · exact .inr rfl⟩
        have hs' : st f n (q.set i 45) = some a := by
          cases e : st f n (q.set i 45) with
          | none => exact absurd e hne
          | some b =>
            have := st_wider hf hq hq' (fun x hx => wid.fit hx) e
            rw [hs] at this; cases this; rfl
        obtain ⟨r, hr, w, hle⟩ := lean_of hf k (by omega) hq' hs'
        refine ⟨r, hr, ⟨w.1.trans wid.1, fun j hj => ?_⟩, by omega⟩
        rcases w.2 j (wid.1.symm ▸ hj) with e | e
        · exact .inl e
        · rcases wid.2 j hj with e' | e'
          · exact .inl (e.trans e')
          · exact .inr (e.trans e')
/-- the sizes that the law finds: each input with the answer a fits a settling pattern of at most so many known places -/
def Cok (f : Pat → Int) (n : Nat) (a : Int) (c : Nat) : Prop := ∀ x ∈ ins n, f x = a → ∃ q ∈ pats n, Fit x q ∧ st f n q ≠ none ∧ siz q ≤ c
theorem chs_lea (hf : Bi f) {a : Int} (ha : a = 0 ∨ a = 1) {p : Pat} (hp : p ∈ pats n) (hn : st f n p = none) :
    ∃ c, chs (lea f n a) p = some c ∧ c ∈ pats n ∧ st f n c = some a ∧ Agr c p ∧ ∀ k, Cok f n a k → siz c ≤ k := by
  have key : ∀ x ∈ ins n, Fit x p → f x = a → ∀ q ∈ pats n, Fit x q → st f n q ≠ none → ∃ o ∈ lea f n a, dif o p = [] ∧ siz o ≤ siz q := fun x hx hfx hfa q hq hxq hqs => by
    have hs : st f n q = some a := by
      cases e : st f n q with
      | none => exact absurd e hqs
      | some b => rw [← hfa, st_fit hf hq e hx hxq]
    obtain ⟨o, ho, w, hle⟩ := lean_of hf (siz q) (Nat.le_refl _) hq hs
    exact ⟨o, ho, dif_nil.mpr (w.agr (agr_of_fit ((len_pats hq).trans (len_pats hp).symm) hxq hfx)), hle⟩
  obtain ⟨x, hx, hfx, hfa⟩ := st_open hf hn ha
  obtain ⟨o, ho, hd, _⟩ := key x hx hfx hfa x (ins_pats hx) (Fit.refl x) (by rw [st_input hf hx]; simp)
  obtain ⟨c, h1, h2, h3, h4⟩ := chs_ok ⟨o, ho, hd⟩
  obtain ⟨c1, c2, _⟩ := mem_lea.mp h2
  refine ⟨c, h1, c1, c2, dif_nil.mp h3, fun k hk => ?_⟩
  obtain ⟨q, hq, hxq, hqs, hle⟩ := hk x hx hfa
  obtain ⟨o', ho', hd', hle'⟩ := key x hx hfx hfa q hq hxq hqs
  exact Nat.le_trans (h4 o' ho' hd') (Nat.le_trans hle' hle)
end

/-! ### trees -/
inductive Tr where
  | lf (b : Int)
  | nd (i : Nat) (l h : Tr)
def pth : Tr → Pat → List Nat × Int
  | .lf b, _ => ([], b)
  | .nd i l h, x => if gt x i = 49 then (i :: (pth h x).1, (pth h x).2) else (i :: (pth l x).1, (pth l x).2)
def dep : Tr → Nat
  | .lf _ => 0
  | .nd _ l h => 1 + max (dep l) (dep h)
def cnt : Tr → Nat
  | .lf _ => 1
  | .nd _ l h => 1 + cnt l + cnt h
/-- a tree that is right below a pattern, and looks at unknown places alone -/
def Wf (f : Pat → Int) (n : Nat) : Pat → Tr → Prop
  | p, .lf b => st f n p = some b
  | p, .nd i l h => i ∈ opn p ∧ st f n p = none ∧ Wf f n (p.set i 48) l ∧ Wf f n (p.set i 49) h
section
variable {f : Pat → Int} {n : Nat}
theorem Wf.right (hf : Bi f) : ∀ {t : Tr} {p : Pat}, p ∈ pats n → Wf f n p t → ∀ x ∈ ins n, Fit x p → (pth t x).2 = f x
  | .lf b, p, hp, w, x, hx, h => (st_fit hf hp w hx h).symm
  | .nd i l h, p, hp, w, x, hx, hxp => by
    obtain ⟨w1, _, w2, w3⟩ := w
    obtain ⟨hi, ho⟩ := mem_opn.mp w1
    have hl := len_pats hp
    show (if gt x i = 49 then (i :: (pth h x).1, (pth h x).2) else (i :: (pth l x).1, (pth l x).2)).2 = f x
    split
    · rename_i e
      exact Wf.right hf (set_pats hp (by simp)) w3 x hx (Fit.set hl (hl ▸ hi) hxp e)
    · rename_i e
      have e' := ((mem_ins.mp hx).2 i (hl ▸ hi)).resolve_right e
      exact Wf.right hf (set_pats hp (by simp)) w2 x hx (Fit.set hl (hl ▸ hi) hxp e')
theorem Wf.deep : ∀ {t : Tr} {p : Pat}, p ∈ pats n → Wf f n p t → ∃ x ∈ ins n, Fit x p ∧ (pth t x).1.length = dep t
  | .lf b, p, hp, w => by
    obtain ⟨x, hx, h⟩ := some_fit hp
    exact ⟨x, hx, h, rfl⟩
  | .nd i l h, p, hp, w => by
    obtain ⟨w1, _, w2, w3⟩ := w
    obtain ⟨hi, ho⟩ := mem_opn.mp w1
    have hl := len_pats hp
    by_cases hm : dep l ≤ dep h
    · obtain ⟨x, hx, hxp, e⟩ := Wf.deep (set_pats hp (by simp)) w3
      have e49 := Fit.at_set hl (hl ▸ hi) (by decide) hxp
      refine ⟨x, hx, Fit.of_set hl (hl ▸ hi) ho hxp, ?_⟩
      show (if gt x i = 49 then (i :: (pth h x).1, (pth h x).2) else (i :: (pth l x).1, (pth l x).2)).1.length = 1 + max (dep l) (dep h)
      rw [if_pos e49, List.length_cons, e]
      omega
    · obtain ⟨x, hx, hxp, e⟩ := Wf.deep (set_pats hp (by simp)) w2
      have e48 := Fit.at_set hl (hl ▸ hi) (by decide) hxp
      refine ⟨x, hx, Fit.of_set hl (hl ▸ hi) ho hxp, ?_⟩
      show (if gt x i = 49 then (i :: (pth h x).1, (pth h x).2) else (i :: (pth l x).1, (pth l x).2)).1.length = 1 + max (dep l) (dep h)
      rw [if_neg (by rw [e48]; decide), List.length_cons, e]
      omega
theorem pth_le : ∀ (t : Tr) (x : Pat), (pth t x).1.length ≤ dep t
  | .lf _, _ => Nat.le_refl _
  | .nd i l h, x => by
    show (if gt x i = 49 then (i :: (pth h x).1, (pth h x).2) else (i :: (pth l x).1, (pth l x).2)).1.length ≤ 1 + max (dep l) (dep h)
    have h1 := pth_le h x
    have h2 := pth_le l x
    split
    · show (pth h x).1.length + 1 ≤ _; omega
    · show (pth l x).1.length + 1 ≤ _; omega
theorem Wf.size : ∀ {t : Tr} {p : Pat}, Wf f n p t → dep t ≤ (opn p).length ∧ cnt t + 1 ≤ 2 ^ ((opn p).length + 1)
  | .lf b, p, w => by
    refine ⟨Nat.zero_le _, ?_⟩
    show 2 ≤ 2 ^ ((opn p).length + 1)
    rw [Nat.pow_succ]
    have : 0 < 2 ^ (opn p).length := Nat.pow_pos (by decide)
    omega
  | .nd i l h, p, w => by
    obtain ⟨w1, _, w2, w3⟩ := w
    obtain ⟨a1, a2⟩ := Wf.size w2
    obtain ⟨b1, b2⟩ := Wf.size w3
    have o1 := opn_set (c := 48) (by decide) w1
    have o2 := opn_set (c := 49) (by decide) w1
    refine ⟨by show 1 + max (dep l) (dep h) ≤ _; omega, ?_⟩
    show 1 + cnt l + cnt h + 1 ≤ _
    have e1 : 2 ^ ((opn (p.set i 48)).length + 1) ≤ 2 ^ (opn p).length := Nat.pow_le_pow_right (by decide) o1
    have e2 : 2 ^ ((opn (p.set i 49)).length + 1) ≤ 2 ^ (opn p).length := Nat.pow_le_pow_right (by decide) o2
    rw [Nat.pow_succ]
    omega
/-- all looked places lie below n, all ends are answers -/
def Snd (n : Nat) : Tr → Prop
  | .lf b => b = 0 ∨ b = 1
  | .nd i l h => i < n ∧ Snd n l ∧ Snd n h
theorem Wf.sound : ∀ {t : Tr} {p : Pat}, p ∈ pats n → Wf f n p t → Snd n t
  | .lf b, p, _, w => st_bit w
  | .nd i l h, p, hp, w => by
    obtain ⟨w1, _, w2, w3⟩ := w
    refine ⟨len_pats hp ▸ (mem_opn.mp w1).1, Wf.sound (set_pats hp (by simp)) w2, Wf.sound (set_pats hp (by simp)) w3⟩
end

/-! ### blocks -/
def turn (x : Pat) (B : List Nat) : Pat := B.foldl (fun x i => x.set i (97 - gt x i)) x
theorem turn_cons (x : Pat) (i : Nat) (B : List Nat) : turn x (i :: B) = turn (x.set i (97 - gt x i)) B := rfl
theorem turn_ins {n : Nat} : ∀ {B : List Nat} {x : Pat}, x ∈ ins n → (∀ i ∈ B, i < n) → turn x B ∈ ins n
  | [], x, h, _ => h
  | i :: B, x, h, hb => by
    rw [turn_cons]
    refine turn_ins (set_ins h ?_) fun j hj => hb j (List.mem_cons_of_mem _ hj)
    rcases (mem_ins.mp h).2 i (hb i List.mem_cons_self) with e | e <;> rw [e] <;> simp
theorem turn_at {n : Nat} : ∀ {B : List Nat} {x : Pat}, x.length = n → B.Nodup → (∀ i ∈ B, i < n) → ∀ j, gt (turn x B) j = if j ∈ B then 97 - gt x j else gt x j
  | [], x, _, _, _, j => by simp [turn]
  | i :: B, x, h, hn, hb, j => by
    obtain ⟨n1, n2⟩ := List.nodup_cons.mp hn
    have hi : i < x.length := h.symm ▸ hb i List.mem_cons_self
    rw [turn_cons, turn_at (by rw [List.length_set, h]) n2 (fun j hj => hb j (List.mem_cons_of_mem _ hj)) j]
    by_cases e : j = i
    · subst e
      rw [if_neg n1, gt_same hi, if_pos List.mem_cons_self]
    · rw [gt_ne hi (fun q => e q.symm)]
      by_cases m : j ∈ B
      · rw [if_pos m, if_pos (List.mem_cons_of_mem _ m)]
      · rw [if_neg m, if_neg (fun q => (List.mem_cons.mp q).elim e m)]
/-- an ascending list of places below n -/
def Blk (n : Nat) (B : List Nat) : Prop := B.Pairwise (· < ·) ∧ ∀ i ∈ B, i < n
theorem Blk.nodup {n : Nat} {B : List Nat} (h : Blk n B) : B.Nodup := List.Pairwise.imp (fun q => Nat.ne_of_lt q) h.1
def Sens (f : Pat → Int) (x : Pat) (B : List Nat) : Prop := f (turn x B) ≠ f x
/-- disjoint sensitive blocks at an input -/
structure Apart (f : Pat → Int) (n : Nat) (x : Pat) (Bs : List (List Nat)) : Prop where
  blk : ∀ B ∈ Bs, Blk n B
  sens : ∀ B ∈ Bs, Sens f x B
  dis : Bs.Pairwise fun B C => ∀ i ∈ B, i ∉ C
theorem meets_le : ∀ {Bs : List (List Nat)} {L : List Nat}, (Bs.Pairwise fun B C => ∀ i ∈ B, i ∉ C) → (∀ B ∈ Bs, ∃ i ∈ B, i ∈ L) → Bs.length ≤ L.length
  | [], _, _, _ => Nat.zero_le _
  | B :: Bs, L, h, m => by
    obtain ⟨h1, h2⟩ := List.pairwise_cons.mp h
    obtain ⟨e, he, hL⟩ := m B List.mem_cons_self
    have := meets_le (L := L.erase e) h2 fun C hC => by
      obtain ⟨i, hi, hi'⟩ := m C (List.mem_cons_of_mem _ hC)
      refine ⟨i, hi, (List.mem_erase_of_ne fun q : i = e => ?_).mpr hi'⟩
      subst q
      exact h1 C hC i he hi
    rw [List.length_erase_of_mem hL] at this
    have : 0 < L.length := List.length_pos_of_mem hL
    rw [List.length_cons]; omega
section
variable {f : Pat → Int} {n : Nat}
/-- disjoint sensitive blocks are no more than the known places of a settling pattern that the input fits -/
theorem Apart.le_siz (hf : Bi f) {x q : Pat} (hx : x ∈ ins n) (hq : q ∈ pats n) (hxq : Fit x q) (hs : st f n q ≠ none) {Bs : List (List Nat)} (h : Apart f n x Bs) : Bs.length ≤ siz q := by
  refine meets_le h.dis fun B hB => ?_
  apply Classical.byContradiction
  intro hn
  have hb := h.blk B hB
  cases e : st f n q with
  | none => exact hs e
  | some b =>
    have hfit : Fit (turn x B) q := fun i hi => by
      rw [turn_at (len_ins hx) hb.nodup hb.2 i]
      by_cases m : i ∈ B
      · by_cases k : gt q i = 45
        · exact .inl k
        · exact absurd ⟨i, m, mem_kno.mpr ⟨hi, k⟩⟩ hn
      · rw [if_neg m]; exact hxq i hi
    have e1 := st_fit hf hq e (turn_ins hx hb.2) hfit
    have e2 := st_fit hf hq e hx hxq
    exact h.sens B hB (e1.trans e2.symm)
/-- where an input and a settling pattern with the other answer differ: a sensitive block -/
theorem dif_sens (hf : Bi f) {a : Int} {x c : Pat} (hx : x ∈ ins n) (hc : c ∈ pats n) (hs : st f n c = some a) (hfx : f x ≠ a) :
    Blk n ((kno c).filter fun i => gt x i != gt c i) ∧ Sens f x ((kno c).filter fun i => gt x i != gt c i) := by
  have hb : Blk n ((kno c).filter fun i => gt x i != gt c i) := by
    refine ⟨List.Pairwise.filter _ (List.Pairwise.filter _ List.pairwise_lt_range), fun i hi => ?_⟩
    exact len_pats hc ▸ (mem_kno.mp (List.mem_filter.mp hi).1).1
  refine ⟨hb, ?_⟩
  have hfit : Fit (turn x ((kno c).filter fun i => gt x i != gt c i)) c := fun i hi => by
    rw [turn_at (len_ins hx) hb.nodup hb.2 i]
    by_cases k : gt c i = 45
    · exact .inl k
    · right
      have hin : i < n := len_pats hc ▸ hi
      by_cases m : gt x i = gt c i
      · rw [if_neg (fun q => by
          have := (List.mem_filter.mp q).2
          rw [bne_iff_ne] at this
          exact this m), m]
      · have hm : i ∈ (kno c).filter fun i => gt x i != gt c i := List.mem_filter.mpr ⟨mem_kno.mpr ⟨hi, k⟩, bne_iff_ne.mpr m⟩
        rw [if_pos hm]
        rcases (mem_ins.mp hx).2 i hin with z | z <;> rcases ((mem_pats.mp hc).2 i hin).resolve_left k with y | y <;> rw [z, y] at m <;> rw [z, y]
        · exact absurd rfl m
        · exact absurd rfl m
  intro e
  exact hfx (e.symm.trans (st_fit hf hc hs (turn_ins hx hb.2) hfit))
end

theorem bit_neg {a : Int} (ha : a = 0 ∨ a = 1) : 1 - a = 0 ∨ 1 - a = 1 := by omega
theorem ne_neg {a b : Int} (h : b = 1 - a) : b ≠ a := by omega
/-! ### the walk in rounds -/
def nxt (ln : List Pat) (p : Pat) : List Nat := (opn p).filter fun i => gt ((chs ln p).getD []) i != 45
def walk (S : Pat → Option Int) (ln : List Pat) : Nat → Pat → List Nat → Tr × Nat
  | 0, _, _ => (.lf 0, 0)
  | k + 1, p, w => match S p with
    | some b => (.lf b, 0)
    | none =>
      let v := if w.length = 0 then nxt ln p else w
      let g := if w.length = 0 then 1 else 0
      let a := walk S ln k (p.set (v.headD 0) 48) v.tail
      let b := walk S ln k (p.set (v.headD 0) 49) v.tail
      (.nd (v.headD 0) a.1 b.1, g + max a.2 b.2)
/-- what waits: unknown places, each once -/
def Wai (p : Pat) (w : List Nat) : Prop := w.Nodup ∧ ∀ i ∈ w, i ∈ opn p
section
variable {f : Pat → Int} {n : Nat}
theorem Wai.tail {p : Pat} {i c : Nat} {w : List Nat} (hc : c ≠ 45) (h : Wai p (i :: w)) : Wai (p.set i c) w := by
  obtain ⟨h1, h2⟩ := h
  obtain ⟨n1, n2⟩ := List.nodup_cons.mp h1
  refine ⟨n2, fun j hj => ?_⟩
  have hi := mem_opn.mp (h2 i List.mem_cons_self)
  obtain ⟨a, b⟩ := mem_opn.mp (h2 j (List.mem_cons_of_mem _ hj))
  refine mem_opn.mpr ⟨by rw [List.length_set]; exact a, ?_⟩
  rw [gt_ne hi.1 (fun e : i = j => n1 (e ▸ hj))]
  exact b
theorem wai_nxt (ln : List Pat) (p : Pat) : Wai p (nxt ln p) := ⟨List.Pairwise.filter _ (nodup_opn p), fun i hi => (List.mem_filter.mp hi).1⟩
/-- the next round reads something -/
theorem nxt_ne (hf : Bi f) {a : Int} (ha : a = 0 ∨ a = 1) {p : Pat} (hp : p ∈ pats n) (hn : st f n p = none) : nxt (lea f n a) p ≠ [] := by
  obtain ⟨c, e, hc, hs, hag, _⟩ := chs_lea hf ha hp hn
  intro hz
  have : st f n p = some a := st_wider hf hp hc (fun x hx i hi => ?_) hs
  · rw [hn] at this; cases this
  · have hi' : i < p.length := by rw [len_pats hp, ← len_pats hc]; exact hi
    by_cases k : gt c i = 45
    · exact .inl k
    · right
      by_cases o : gt p i = 45
      · have : i ∈ nxt (lea f n a) p := List.mem_filter.mpr ⟨mem_opn.mpr ⟨hi', o⟩, by rw [e]; exact bne_iff_ne.mpr k⟩
        rw [hz] at this; cases this
      · have e1 := ((hag i hi).resolve_left k).resolve_left o
        exact e1.trans ((hx i hi').resolve_left o)
theorem nxt_len (hf : Bi f) {a : Int} (ha : a = 0 ∨ a = 1) {p : Pat} (hp : p ∈ pats n) (hn : st f n p = none) {k : Nat} (hk : Cok f n a k) : (nxt (lea f n a) p).length ≤ k := by
  obtain ⟨c, e, hc, hs, hag, hle⟩ := chs_lea hf ha hp hn
  refine Nat.le_trans ?_ (hle k hk)
  refine nodup_le (wai_nxt _ p).1 fun i hi => ?_
  obtain ⟨h1, h2⟩ := List.mem_filter.mp hi
  rw [e] at h2
  exact mem_kno.mpr ⟨by rw [len_pats hc, ← len_pats hp]; exact (mem_opn.mp h1).1, bne_iff_ne.mp h2⟩
/-- one turn of the walk, where nothing is settled yet -/
theorem walk_step (hf : Bi f) {a : Int} (ha : a = 0 ∨ a = 1) {k : Nat} {p : Pat} {w : List Nat} (hp : p ∈ pats n) (hn : st f n p = none) (hw : Wai p w) :
    ∃ (i : Nat) (v : List Nat), (if w.length = 0 then nxt (lea f n a) p else w) = i :: v ∧ Wai p (i :: v) ∧
      walk (st f n) (lea f n a) (k + 1) p w = (.nd i (walk (st f n) (lea f n a) k (p.set i 48) v).1 (walk (st f n) (lea f n a) k (p.set i 49) v).1,
        (if w.length = 0 then 1 else 0) + max (walk (st f n) (lea f n a) k (p.set i 48) v).2 (walk (st f n) (lea f n a) k (p.set i 49) v).2) := by
  have hv : Wai p (if w.length = 0 then nxt (lea f n a) p else w) := by
    split
    · exact wai_nxt _ p
    · exact hw
  cases e : (if w.length = 0 then nxt (lea f n a) p else w) with
  | nil =>
    split at e
    · exact absurd e (nxt_ne hf ha hp hn)
    · rename_i q; rw [e] at q; exact absurd rfl q
  | cons i v =>
    refine ⟨i, v, rfl, by rw [← e]; exact hv, ?_⟩
    show (match st f n p with
      | some b => (Tr.lf b, 0)
      | none => _) = _
    rw [hn]
    simp only [e, List.headD_cons, List.tail_cons]
theorem walk_leaf {k : Nat} {ln : List Pat} {p : Pat} {w : List Nat} {b : Int} (h : st f n p = some b) : walk (st f n) ln (k + 1) p w = (.lf b, 0) := by
  show (match st f n p with
      | some b => (Tr.lf b, 0)
      | none => _) = _
  rw [h]
/-- the tree is right -/
theorem walk_wf (hf : Bi f) {a : Int} (ha : a = 0 ∨ a = 1) : ∀ {k : Nat} {p : Pat} {w : List Nat}, p ∈ pats n → Wai p w → (opn p).length < k → Wf f n p (walk (st f n) (lea f n a) k p w).1
  | 0, _, _, _, _, h => absurd h (Nat.not_lt_zero _)
  | k + 1, p, w, hp, hw, hk => by
    cases e : st f n p with
    | some b => rw [walk_leaf e]; exact e
    | none =>
      obtain ⟨i, v, _, hv, ew⟩ := walk_step (k := k) hf ha hp e hw
      rw [ew]
      have hi := hv.2 i List.mem_cons_self
      have o1 := opn_set (c := 48) (by decide) hi
      have o2 := opn_set (c := 49) (by decide) hi
      exact ⟨hi, e, walk_wf hf ha (set_pats hp (by simp)) (hv.tail (by decide)) (by omega), walk_wf hf ha (set_pats hp (by simp)) (hv.tail (by decide)) (by omega)⟩
/-- no way is longer than the rounds times the settling number -/
theorem walk_len (hf : Bi f) {a : Int} (ha : a = 0 ∨ a = 1) {c : Nat} (hc : Cok f n a c) : ∀ {k : Nat} {p : Pat} {w : List Nat}, p ∈ pats n → Wai p w → (opn p).length < k →
    ∀ x, (pth (walk (st f n) (lea f n a) k p w).1 x).1.length ≤ w.length + (walk (st f n) (lea f n a) k p w).2 * c
  | 0, _, _, _, _, h, _ => absurd h (Nat.not_lt_zero _)
  | k + 1, p, w, hp, hw, hk, x => by
    cases e : st f n p with
    | some b => rw [walk_leaf e]; exact Nat.zero_le _
    | none =>
      obtain ⟨i, v, ev, hv, ew⟩ := walk_step (k := k) hf ha hp e hw
      have hi := hv.2 i List.mem_cons_self
      have o1 := opn_set (c := 48) (by decide) hi
      have o2 := opn_set (c := 49) (by decide) hi
      have i1 := walk_len hf ha hc (k := k) (p := p.set i 48) (w := v) (set_pats hp (by simp)) (hv.tail (by decide)) (by omega) x
      have i2 := walk_len hf ha hc (k := k) (p := p.set i 49) (w := v) (set_pats hp (by simp)) (hv.tail (by decide)) (by omega) x
      rw [ew]
      generalize walk (st f n) (lea f n a) k (p.set i 48) v = A at *
      generalize walk (st f n) (lea f n a) k (p.set i 49) v = B at *
      have m1 : A.2 * c ≤ max A.2 B.2 * c := Nat.mul_le_mul_right _ (Nat.le_max_left _ _)
      have m2 : B.2 * c ≤ max A.2 B.2 * c := Nat.mul_le_mul_right _ (Nat.le_max_right _ _)
      have hlen : v.length + 1 + max A.2 B.2 * c ≤ w.length + ((if w.length = 0 then 1 else 0) + max A.2 B.2) * c := by
        rw [Nat.add_mul]
        split
        · rename_i q
          rw [if_pos q] at ev
          have := nxt_len hf ha hp e hc
          rw [ev, List.length_cons] at this
          omega
        · rename_i q
          rw [if_neg q] at ev
          rw [ev, List.length_cons]
          omega
      show (if gt x i = 49 then (i :: (pth B.1 x).1, (pth B.1 x).2) else (i :: (pth A.1 x).1, (pth A.1 x).2)).1.length ≤ w.length + ((if w.length = 0 then 1 else 0) + max A.2 B.2) * c
      split
      · show (pth B.1 x).1.length + 1 ≤ _; omega
      · show (pth A.1 x).1.length + 1 ≤ _; omega
/-- so many rounds, so many disjoint sensitive blocks at one input with the other answer -/
theorem walk_blocks (hf : Bi f) {a : Int} (ha : a = 0 ∨ a = 1) : ∀ {k : Nat} {p : Pat} {w : List Nat}, p ∈ pats n → Wai p w → (opn p).length < k → 0 < (walk (st f n) (lea f n a) k p w).2 →
    ∃ x ∈ ins n, Fit x p ∧ f x ≠ a ∧ ∃ Bs, Apart f n x Bs ∧ Bs.length = (walk (st f n) (lea f n a) k p w).2 ∧ ∀ B ∈ Bs, ∀ i ∈ B, i ∈ opn p ∧ i ∉ w
  | 0, _, _, _, _, h, _ => absurd h (Nat.not_lt_zero _)
  | k + 1, p, w, hp, hw, hk, hr => by
    cases e : st f n p with
    | some b => rw [walk_leaf e] at hr; exact absurd hr (Nat.lt_irrefl _)
    | none =>
      obtain ⟨i, v, ev, hv, ew⟩ := walk_step (k := k) hf ha hp e hw
      have hi := hv.2 i List.mem_cons_self
      obtain ⟨hi1, hi2⟩ := mem_opn.mp hi
      have hl := len_pats hp
      have o1 := opn_set (c := 48) (by decide) hi
      have o2 := opn_set (c := 49) (by decide) hi
      -- what the deeper walks give, for p
      have sub : ∀ c, c = 48 ∨ c = 49 → 0 < (walk (st f n) (lea f n a) k (p.set i c) v).2 →
          ∃ x ∈ ins n, Fit x p ∧ f x ≠ a ∧ ∃ Bs, Apart f n x Bs ∧ Bs.length = (walk (st f n) (lea f n a) k (p.set i c) v).2 ∧ ∀ B ∈ Bs, ∀ j ∈ B, j ∈ opn p ∧ j ∉ i :: v := fun c hc h0 => by
        have hc45 : c ≠ 45 := by omega
        have hlt : (opn (p.set i c)).length < k := by
          rcases hc with rfl | rfl <;> omega
        obtain ⟨x, hx, hxp, hfx, Bs, hA, hB, hin⟩ := walk_blocks hf ha (set_pats hp (by omega)) (hv.tail hc45) hlt h0
        refine ⟨x, hx, Fit.of_set hl (hl ▸ hi1) hi2 hxp, hfx, Bs, hA, hB, fun B hB j hj => ?_⟩
        obtain ⟨q1, q2⟩ := hin B hB j hj
        obtain ⟨r1, r2⟩ := mem_opn.mp q1
        rw [List.length_set] at r1
        rw [gt_set hi1] at r2
        by_cases z : i = j
        · rw [if_pos z] at r2; exact absurd r2 hc45
        · rw [if_neg z] at r2
          exact ⟨mem_opn.mpr ⟨r1, r2⟩, fun m => (List.mem_cons.mp m).elim (fun q => z q.symm) q2⟩
      have deep : 0 < max (walk (st f n) (lea f n a) k (p.set i 48) v).2 (walk (st f n) (lea f n a) k (p.set i 49) v).2 →
          ∃ x ∈ ins n, Fit x p ∧ f x ≠ a ∧ ∃ Bs, Apart f n x Bs ∧ Bs.length = max (walk (st f n) (lea f n a) k (p.set i 48) v).2 (walk (st f n) (lea f n a) k (p.set i 49) v).2 ∧ ∀ B ∈ Bs, ∀ j ∈ B, j ∈ opn p ∧ j ∉ i :: v := fun h0 => by
        by_cases hm : (walk (st f n) (lea f n a) k (p.set i 48) v).2 ≤ (walk (st f n) (lea f n a) k (p.set i 49) v).2
        · rw [Nat.max_eq_right hm] at h0 ⊢
          exact sub 49 (.inr rfl) h0
        · rw [Nat.max_eq_left (by omega)] at h0 ⊢
          exact sub 48 (.inl rfl) h0
      rw [ew] at hr ⊢
      by_cases hw0 : w.length = 0
      · rw [if_pos hw0] at ev
        simp only [if_pos hw0]
        have hwn : w = [] := List.length_eq_zero_iff.mp hw0
        obtain ⟨c, ec, hc, hs, hag, _⟩ := chs_lea hf ha hp e
        -- the block of x against the chosen pattern lies in what this round reads
        have inV : ∀ x, Fit x p → ∀ j ∈ (kno c).filter (fun i => gt x i != gt c i), j ∈ i :: v := fun x hx j hj => by
          obtain ⟨j1, j2⟩ := List.mem_filter.mp hj
          obtain ⟨j3, j4⟩ := mem_kno.mp j1
          have j5 := bne_iff_ne.mp j2
          have jp : j < p.length := by rw [hl, ← len_pats hc]; exact j3
          have o : gt p j = 45 := by
            apply Classical.byContradiction
            intro o
            have e1 := ((hag j j3).resolve_left j4).resolve_left o
            exact j5 (((hx j jp).resolve_left o).symm.trans e1.symm)
          rw [← ev]
          exact List.mem_filter.mpr ⟨mem_opn.mpr ⟨jp, o⟩, by rw [ec]; exact bne_iff_ne.mpr j4⟩
        by_cases h0 : 0 < max (walk (st f n) (lea f n a) k (p.set i 48) v).2 (walk (st f n) (lea f n a) k (p.set i 49) v).2
        · obtain ⟨x, hx, hxp, hfx, Bs, hA, hB, hin⟩ := deep h0
          obtain ⟨b1, b2⟩ := dif_sens hf hx hc hs hfx
          refine ⟨x, hx, hxp, hfx, ((kno c).filter fun i => gt x i != gt c i) :: Bs, ⟨?_, ?_, ?_⟩, by rw [List.length_cons, hB]; exact Nat.add_comm _ _, ?_⟩
          · intro B m
            rcases List.mem_cons.mp m with rfl | m
            · exact b1
            · exact hA.blk B m
          · intro B m
            rcases List.mem_cons.mp m with rfl | m
            · exact b2
            · exact hA.sens B m
          · exact List.pairwise_cons.mpr ⟨fun C hC j hj hjC => (hin C hC j hjC).2 (inV x hxp j hj), hA.dis⟩
          · intro B m j hj
            rcases List.mem_cons.mp m with rfl | m
            · exact ⟨hv.2 j (inV x hxp j hj), by rw [hwn]; exact List.not_mem_nil⟩
            · exact ⟨(hin B m j hj).1, by rw [hwn]; exact List.not_mem_nil⟩
        · have hz : max (walk (st f n) (lea f n a) k (p.set i 48) v).2 (walk (st f n) (lea f n a) k (p.set i 49) v).2 = 0 := Nat.eq_zero_of_not_pos h0
          obtain ⟨x, hx, hxp, hfx⟩ := st_open hf e (bit_neg ha)
          have hne : f x ≠ a := ne_neg hfx
          obtain ⟨b1, b2⟩ := dif_sens hf hx hc hs hne
          refine ⟨x, hx, hxp, hne, [(kno c).filter fun i => gt x i != gt c i], ⟨?_, ?_, List.pairwise_singleton _ _⟩, by rw [List.length_singleton, hz], ?_⟩
          · intro B m; rw [List.mem_singleton.mp m]; exact b1
          · intro B m; rw [List.mem_singleton.mp m]; exact b2
          · intro B m j hj
            rw [List.mem_singleton.mp m] at hj
            exact ⟨hv.2 j (inV x hxp j hj), by rw [hwn]; exact List.not_mem_nil⟩
      · rw [if_neg hw0] at ev
        simp only [if_neg hw0, Nat.zero_add] at hr ⊢
        obtain ⟨x, hx, hxp, hfx, Bs, hA, hB, hin⟩ := deep hr
        exact ⟨x, hx, hxp, hfx, Bs, hA, hB, fun B m j hj => ⟨(hin B m j hj).1, by rw [ev]; exact (hin B m j hj).2⟩⟩
end
end Lk

set_option Elab.async false
set_option linter.all false
set_option maxRecDepth 100000
set_option maxHeartbeats 4000000
/-! LkR: rules of our own over the layer: enumerate(text), zip(list, text), text * int, sorted of any length, index of an int, a dict held still for good. -/
namespace Lk
open PySem PySem.Spec PyProof.Rows L2

/-! ### enumerate(text) -/
def ItES (z : Str) : It :=
  ⟨fun i _ => i < z.cps.size, fun i H v H' => ∃ T c, v = .ref T ∧ H T = none ∧ z.cps[i]? = some c ∧ H' = upd H T (.tup [.int (i : Nat), .str ⟨#[c]⟩]), fun i _ => z.cps.size ≤ i⟩
theorem turn_enumS {P : Program} {w : World} {K : PySem.W.Frag} {elts : List Expr} {kk : Nat} {tpos : Pos} (z : Str) (t : Tok) (e it : Addr) :
    Turn P w K (.Tuple elts kk tpos) (ItES z) [e, it] e (fun i h => (∃ old, IsEnum h e it ((i : Nat) : Int) old) ∧ h.IsStrIter it (strIterType z) z t i ∧ e ≠ it ∧ i ≤ z.cps.size) where
  mem := by simp
  obj := fun i h st b hb => by
    obtain ⟨⟨old, he⟩, ⟨o, ho, hc, hd⟩, _⟩ := st
    have e' : b = e ∨ b = it := by simpa using hb
    rcases e' with z | z
    · rw [z]; exact ⟨_, he, fun v q => nomatch q⟩
    · rw [z]; exact ⟨o, ho, fun v q => by rw [hd] at q; cases q⟩
  keep := fun i h h' st k => let ⟨⟨old, he⟩, ⟨o, ho, r⟩, hne⟩ := st; ⟨⟨old, k e (by simp) _ he⟩, ⟨o, k it (by simp) o ho, r⟩, hne⟩
  item := by
    intro X hP hw hK hc i pins s σ H E I hf st hg
    subst hP hw hK
    obtain ⟨⟨old, he⟩, hit, hne, hle⟩ := st
    have hel : e < s.heap.objs.size := Heap.lt_size he
    have hil : it < s.heap.objs.size := by obtain ⟨_, q, _⟩ := hit; exact Heap.lt_size q
    have D := Draws.text (prog := X.prog) (w := X.w) (A := X.A.in1) (I.ok.hd hc) it z t
    refine wpAny_pyNext_enum_itemD D he hit hg hne (by simpa using hne) fun u h' tk hu ho hit' hT hsz hk => ?_
    obtain ⟨c, tu, hcz, eu⟩ := hu
    refine ⟨_, rfl, wpAny_letOwnedTupleGo_enum (s := { s with heap := h', toks := tk + 1 }) ho fun h'' he' sb => ?_⟩
    have hT2 : h''.get? s.heap.objs.size = some { cls := .type "tuple", data := .seq #[.int i tk, u] } := (sb.2 _ (Nat.ne_of_gt hel)).trans hT
    have new : ObjOk X.prog X.w (upd H s.heap.objs.size (.tup [.int (i : Nat), .str ⟨#[c]⟩])) h'' s.heap.objs.size (.tup [.int (i : Nat), .str ⟨#[c]⟩]) :=
      ⟨by show 2 ≤ sizeLine; decide, [.int i tk, u], .cons ⟨_, rfl⟩ (.cons (by rw [eu]; exact ⟨_, rfl⟩) .nil), ⟨_, hT2, rfl, _, rfl⟩⟩
    have I1 : Inv X pins σ (upd H s.heap.objs.size (.tup [.int (i : Nat), .str ⟨#[c]⟩])) { s with heap := h'', toks := tk + 1 } :=
      I.turnedNew (ch := [e, it]) (fun b ob hb q => (sb.2 b (fun z => hb (by simp [z]))).trans (hk b ob (fun z => hb (by simp [z])) (fun z => hb (by simp [z])) q)) hf (Nat.le_refl _) new
    refine ⟨.ref s.heap.objs.size, _, I1, rfl, ⟨_, c, rfl, I.hok.fresh (Nat.le_refl _), hcz, rfl⟩, ⟨⟨u, ?_⟩, ?_, hne, hg⟩, fun b hb => ?_⟩
    · have e1 : ((i + 1 : Nat) : Int) = (i : Int) + 1 := by omega
      rw [e1]; exact he'
    · obtain ⟨o, ho2, r⟩ := hit'
      exact ⟨o, (sb.2 it (Ne.symm hne)).trans ho2, r⟩
    · have hb' : b < s.heap.objs.size := by
        have e' : b = e ∨ b = it := by simpa using hb
        rcases e' with z | z
        · rw [z]; exact hel
        · rw [z]; exact hil
      rw [upd_ne (Nat.ne_of_lt hb')]
      exact (hf b hb).1
  done := by
    intro X hP hw hK hc i pins s σ H E I hf st hg
    subst hP hw hK
    obtain ⟨⟨old, he⟩, hit, hne, hle⟩ := st
    obtain ⟨f0, f1, f2, f3, f4, f5⟩ := hf it (by simp)
    have ei : i = z.cps.size := Nat.le_antisymm hle hg
    subst ei
    have D := Draws.text (prog := X.prog) (w := X.w) (A := X.A.in1) (I.ok.hd hc) it z t
    exact wpAny_pyNext_enum_endD D he hit fun h' eb => ⟨rfl, I.turned (t' := s.toks) (fun b o hb q => eb b o hb q) f0 f1 f3 f4 f5⟩
  self := fun A i s Q E st h => let ⟨⟨_, he⟩, _⟩ := st; wpAny_pyIter_enum he h
def iEnumS (ta : TA) : TI := fun σ H R => ta σ H fun vs H1 => ∃ z, vs = [.str z] ∧ R (ItES z) H1
theorem pi_enumS {X : Cx} {e : Expr} {ta : TA} {p pos tpos : Pos} {elts : List Expr} {kk : Nat} (hg : Gl X "enumerate") (hm : X.mg "enumerate" = none) (ha : PA X [e] ta) (hs : starEach [e] X.env = [(false, eval e X.env)] := by rfl) :
    PI X (.Tuple elts kk tpos) (.Call (.Name "enumerate" p) [e] [] pos) (iEnumS ta) := by
  refine ⟨fun pins s σ H R I h => ?_⟩
  refine Call_ (ld_blt I hg hm boot_enumerate (PyProof.Rows.callWith_type1 (thn (ha.run pos pins s σ H _ I h) fun us s1 ⟨vs, H1, I1, r1, q1⟩ => ?_) hs rfl))
  obtain ⟨z, ex, q⟩ := q1
  subst ex
  cases r1 with
  | cons r rr =>
    cases rr
    obtain ⟨t, rfl⟩ := r
    refine call_enumerate_str fun h' he hit hsz hk => wpAny_pyIter_enum he ?_
    have I2 : Inv X pins σ H1 { s1 with heap := h' } := I1.kept (t' := s1.toks) hk
    refine ⟨s1.heap.objs.size + 1, [s1.heap.objs.size + 1, s1.heap.objs.size], _, _, H1, rfl, I2, turn_enumS z t (s1.heap.objs.size + 1) s1.heap.objs.size, ⟨⟨.none, he⟩, hit, Nat.succ_ne_self _, Nat.zero_le _⟩, fun b hb => ?_, q⟩
    have e' : b = s1.heap.objs.size + 1 ∨ b = s1.heap.objs.size := by simpa using hb
    have hle : s1.heap.objs.size ≤ b := by
      rcases e' with z | z
      · rw [z]; exact Nat.le_add_right _ _
      · rw [z]; exact Nat.le_refl _
    exact I1.fpOk hle (I1.hok.fresh hle)
theorem walk_enumS {z : Str} : Walk (ItES z) z.cps.size (fun _ => True) (YPair (fun i => some (.int (i : Nat))) (fun i => z.cps[i]?.map fun c => .str ⟨#[c]⟩)) := by
  refine ⟨fun i _ hi _ => hi, fun _ _ => Nat.le_refl _, fun i H v H' _ _ y => ?_⟩
  obtain ⟨T, c, h1, h2, h3, h4⟩ := y
  exact ⟨T, .int (i : Nat), .str ⟨#[c]⟩, h1, h2, h4, rfl, by show Option.map _ z.cps[i]? = _; rw [h3]; rfl⟩

/-! ### zip(list, text) -/
def ItZS (K : PySem.W.Frag) (a : Addr) (z : Str) : It :=
  ⟨fun i H => ∃ (xs : List V) (x : V), SqL K H a xs ∧ xs[i]? = some x ∧ i < z.cps.size,
    fun i H v H' => ∃ T x c, v = .ref T ∧ H T = none ∧ H' = upd H T (.tup [x, .str ⟨#[c]⟩]) ∧ (∀ xs, SqL K H a xs → xs[i]? = some x) ∧ z.cps[i]? = some c,
    fun i H => ∃ xs : List V, SqL K H a xs ∧ (i = xs.length ∨ i = z.cps.size) ∧ i ≤ xs.length ∧ i ≤ z.cps.size⟩
theorem list_ne_iter {h : Heap} {a i1 l : Addr} {i : Nat} {items : Array Value} (h1 : h.IsListIter i1 l i) (h2 : h.IsList a items) : a ≠ i1 := fun q => by
  obtain ⟨o1, e1, c1, _⟩ := h1
  obtain ⟨o2, e2, c2, _⟩ := h2
  rw [q, e1] at e2
  have e := Option.some.inj e2
  rw [← e, c1] at c2
  injection c2 with c2
  exact absurd c2 (by decide)
theorem turn_zipS {P : Program} {w : World} {K : PySem.W.Frag} {elts : List Expr} {kk : Nat} {tpos : Pos} {a zz TI TO i1 i2 : Addr} {z : Str} {t : Tok} (S : ZipSep2 zz TI TO i1 i2 [i1, a] [i2]) :
    Turn P w K (.Tuple elts kk tpos) (ItZS K a z) [zz, TI, TO, i1, i2] zz (fun i h => IsZip h zz TI TO .none ∧ IsTupOf2 h TI (.ref i1) (.ref i2) ∧ (∃ x y, IsTupOf2 h TO x y) ∧ h.IsListIter i1 a i ∧ h.IsStrIter i2 (strIterType z) z t i) where
  mem := by simp
  obj := fun i h st c hc => by
    obtain ⟨hz, hTI, ⟨x, y, hTO⟩, ⟨o1, e1, _, d1⟩, ⟨o2, e2, _, d2⟩⟩ := st
    have e' : c = zz ∨ c = TI ∨ c = TO ∨ c = i1 ∨ c = i2 := by simpa using hc
    rcases e' with q | q | q | q | q
    · rw [q]; exact ⟨_, hz, fun v q => nomatch q⟩
    · rw [q]; exact ⟨_, hTI, fun v q => nomatch q⟩
    · rw [q]; exact ⟨_, hTO, fun v q => nomatch q⟩
    · rw [q]; exact ⟨o1, e1, fun v q => by rw [d1] at q; cases q⟩
    · rw [q]; exact ⟨o2, e2, fun v q => by rw [d2] at q; cases q⟩
  keep := fun i h h' st k => by
    obtain ⟨hz, hTI, ⟨x, y, hTO⟩, h1, ⟨o, ho, r⟩⟩ := st
    exact ⟨k zz (by simp) _ hz, k TI (by simp) _ hTI, ⟨x, y, k TO (by simp) _ hTO⟩, h1.at fun o q => k i1 (by simp) o q, ⟨o, k i2 (by simp) o ho, r⟩⟩
  item := by
    intro X hP hw hK hc i pins s σ H E I hf st hg
    subst hP hw hK
    obtain ⟨hz, hTI, ⟨x0, y0, hTO⟩, h1, h2⟩ := st
    obtain ⟨xs, x, hqx, hx, hi⟩ := hg
    obtain ⟨its, rv, p, _⟩ := I.list hqx
    obtain ⟨u, hu, ru⟩ := rv.get hx
    have hzl : zz < s.heap.objs.size := Heap.lt_size hz
    have hai : a ≠ i1 := list_ne_iter h1 p.isList
    have D1 := Draws.list (prog := X.prog) (w := X.w) (A := X.A.in1) (I.ok.hd hc) i1 a hai its.toArray
    have D2 := Draws.text (prog := X.prog) (w := X.w) (A := X.A.in1) (I.ok.hd hc) i2 z t
    have hul : i < its.toArray.size := by
      rw [List.size_toArray]
      exact (List.getElem?_eq_some_iff.mp hu).1
    refine wpAny_pyNext_zipD2_item S D1 D2 hz hTI hTO ⟨h1, p.isList⟩ h2 hul hi fun x1 x2 h' tk P1 P2 z' TO' h1' h2' hT hsz hk => ?_
    obtain ⟨c, tu, hcz, eu⟩ := P2
    have ex1 : x1 = u := by
      have q : its.toArray[i]? = some x1 := P1
      have q2 : its.toArray[i]? = some u := by simpa using hu
      rw [q] at q2
      exact Option.some.inj q2
    subst ex1
    refine ⟨_, rfl, wpAny_letOwnedTupleGo_zip (s := { s with heap := h', toks := tk }) z' fun h'' z'' sb => ?_⟩
    have hT2 : h''.get? s.heap.objs.size = some { cls := .type "tuple", data := .seq #[x1, x2] } := (sb.2 _ (Nat.ne_of_gt hzl)).trans hT
    have new : ObjOk X.prog X.w (upd H s.heap.objs.size (.tup [x, .str ⟨#[c]⟩])) h'' s.heap.objs.size (.tup [x, .str ⟨#[c]⟩]) :=
      ⟨by show 2 ≤ sizeLine; decide, [x1, x2], .cons ru (.cons (by rw [eu]; exact ⟨_, rfl⟩) .nil), ⟨_, hT2, rfl, _, rfl⟩⟩
    have I1 : Inv X pins σ (upd H s.heap.objs.size (.tup [x, .str ⟨#[c]⟩])) { s with heap := h'', toks := tk } :=
      I.turnedNew (ch := [zz, TI, TO, i1, i2]) (fun c o hb q => (sb.2 c (fun q' => hb (by simp [q']))).trans (hk c o (fun q' => hb (by simp [q'])) (fun q' => hb (by simp [q'])) (fun q' => hb (by simp [q'])) (fun q' => hb (by simp [q'])) q)) hf (Nat.le_refl _) new
    refine ⟨.ref s.heap.objs.size, _, I1, rfl, ⟨_, x, c, rfl, I.hok.fresh (Nat.le_refl _), rfl, fun l hl => by rw [I.list_inj hl hqx]; exact hx, hcz⟩, ⟨z'', ?_, ⟨x1, x2, ?_⟩, ?_, ?_⟩, fun c hcm => ?_⟩
    · exact (sb.2 _ S.TIz).trans (hk _ _ S.TIz S.TITO S.TIi1 S.TIi2 hTI)
    · exact (sb.2 _ S.TOz).trans TO'
    · exact h1'.1.at fun o q => (sb.2 _ (Ne.symm S.zi1)).trans q
    · obtain ⟨o, ho, r⟩ := h2'
      exact ⟨o, (sb.2 _ (Ne.symm S.zi2)).trans ho, r⟩
    · have hlt : c < s.heap.objs.size := by
        have e' : c = zz ∨ c = TI ∨ c = TO ∨ c = i1 ∨ c = i2 := by simpa using hcm
        rcases e' with q | q | q | q | q
        · rw [q]; exact hzl
        · rw [q]; exact Heap.lt_size hTI
        · rw [q]; exact Heap.lt_size hTO
        · rw [q]; obtain ⟨_, e1, _⟩ := h1; exact Heap.lt_size e1
        · rw [q]; obtain ⟨_, e2, _⟩ := h2; exact Heap.lt_size e2
      rw [upd_ne (Nat.ne_of_lt hlt)]
      exact (hf c hcm).1
  done := by
    intro X hP hw hK hc i pins s σ H E I hf st hg
    subst hP hw hK
    obtain ⟨hz, hTI, ⟨x0, y0, hTO⟩, h1, h2⟩ := st
    obtain ⟨xs, hqx, hend, hle1, hle2⟩ := hg
    obtain ⟨its, rv, p, _⟩ := I.list hqx
    have l1 := rv.length
    have hai : a ≠ i1 := list_ne_iter h1 p.isList
    have D1 := Draws.list (prog := X.prog) (w := X.w) (A := X.A.in1) (I.ok.hd hc) i1 a hai its.toArray
    have D2 := Draws.text (prog := X.prog) (w := X.w) (A := X.A.in1) (I.ok.hd hc) i2 z t
    have hs : its.toArray.size = xs.length := by rw [List.size_toArray, l1]
    exact wpAny_pyNext_zipD2_end S D1 D2 hz hTI hTO ⟨h1, p.isList⟩ h2 (by rw [hs]; exact hle1) hle2 (by rw [hs]; exact hend) fun h' tk hk => ⟨rfl, I.turnedL (ch := [zz, TI, TO, i1, i2]) (fun c o hb q =>
      hk c o (fun q' => hb (by simp [q'])) (fun q' => hb (by simp [q'])) (fun q' => hb (by simp [q'])) (fun q' => hb (by simp [q'])) q) hf⟩
  self := fun A i s Q E st h => wpAny_pyIter_zip st.1 h
def iZipS (K : PySem.W.Frag) (ta : TA) : TI := fun σ H R => ta σ H fun vs H1 => ∃ a z xs, vs = [.ref a, .str z] ∧ SqL K H1 a xs ∧ R (ItZS K a z) H1
theorem pi_zipS {X : Cx} {e e2 : Expr} {ta : TA} {p pos tpos : Pos} {elts : List Expr} {kk : Nat} (hg : Gl X "zip") (hm : X.mg "zip" = none) (ha : PA X [e, e2] ta)
    (hs : starEach [e, e2] X.env = (false, eval e X.env) :: starEach [e2] X.env := by rfl) (hpl : (backTo pos (starEach [e2] X.env)).any (·.1) = false := by rfl) :
    PI X (.Tuple elts kk tpos) (.Call (.Name "zip" p) [e, e2] [] pos) (iZipS X.K ta) := by
  refine ⟨fun pins s σ H R I h => ?_⟩
  refine Call_ (ld_blt I hg hm PyProof.Rows.boot_zip (PyProof.Rows.callWith_type1 (thn (ha.run pos pins s σ H _ I h) fun us s1 ⟨vs, H1, I1, r1, q1⟩ => ?_) hs hpl))
  obtain ⟨a, z, xs, ex, hqx, q⟩ := q1
  subst ex
  cases r1 with
  | cons r rr =>
    cases rr with
    | cons r' rr =>
      cases rr
      cases r
      obtain ⟨t, rfl⟩ := r'
      obtain ⟨its, rv, p1, _⟩ := I1.list hqx
      have la : a < s1.heap.objs.size := p1.lt
      refine zip_begins2 (begins_list a its.toArray) (begins_text z t) p1.isList trivial fun h' hz hTI hTO h1 h2 hsz hk => wpAny_pyIter_zip hz ?_
      have I2 : Inv X pins σ H1 { s1 with heap := h' } := I1.kept (t' := s1.toks) hk
      have S : ZipSep2 (s1.heap.objs.size + 4) (s1.heap.objs.size + 2) (s1.heap.objs.size + 3) s1.heap.objs.size (s1.heap.objs.size + 1) [s1.heap.objs.size, a] [s1.heap.objs.size + 1] :=
        zip_sep2 (fp1 := [a]) (fp2 := []) (fun b hb => by rw [List.mem_singleton.mp hb]; exact la) (fun b hb => nomatch hb)
      refine ⟨s1.heap.objs.size + 4, [s1.heap.objs.size + 4, s1.heap.objs.size + 2, s1.heap.objs.size + 3, s1.heap.objs.size, s1.heap.objs.size + 1], _, _, H1, rfl, I2, turn_zipS (t := t) S, ⟨hz, hTI, ⟨_, _, hTO⟩, ⟨_, h1, rfl, rfl⟩, ⟨_, h2, rfl, rfl⟩⟩, fun c hcm => ?_, q⟩
      have e' : c = s1.heap.objs.size + 4 ∨ c = s1.heap.objs.size + 2 ∨ c = s1.heap.objs.size + 3 ∨ c = s1.heap.objs.size ∨ c = s1.heap.objs.size + 1 := by simpa using hcm
      have hle : s1.heap.objs.size ≤ c := by
        rcases e' with z | z | z | z | z
        · rw [z]; exact Nat.le_add_right _ _
        · rw [z]; exact Nat.le_add_right _ _
        · rw [z]; exact Nat.le_add_right _ _
        · rw [z]; exact Nat.le_refl _
        · rw [z]; exact Nat.le_add_right _ _
      exact I1.fpOk hle (I1.hok.fresh hle)
theorem walk_zipS {K : PySem.W.Frag} {a : Addr} {z : Str} {xs : List V} (hl : xs.length = z.cps.size) : Walk (ItZS K a z) xs.length (fun H => SqL K H a xs) (YPair (fun i => xs[i]?) (fun i => z.cps[i]?.map fun c => .str ⟨#[c]⟩)) := by
  refine ⟨fun i _ hi q => ⟨xs, xs[i], q, by simp [hi], by omega⟩, fun _ q => ⟨xs, q, .inl rfl, Nat.le_refl _, by omega⟩, fun i H v H' hi q y => ?_⟩
  obtain ⟨T, x, c, h1, h2, h3, h4, h5⟩ := y
  exact ⟨T, x, .str ⟨#[c]⟩, h1, h2, h3, h4 xs q, by show Option.map _ z.cps[i]? = _; rw [h5]; rfl⟩

/-! ### text * int -/
def rMulS : R2 := fun x y H Q => ∃ z n, x = .str z ∧ y = .int n ∧ MulOk z n ∧ Q (.str (Txt.mul z n)) H
theorem op_mulS {X : Cx} : OpR X (binaryOp .Mult) rMulS := by
  intro pins s σ H x y u v Q I rx ry h
  obtain ⟨z, n, rfl, rfl, ok, q⟩ := h
  obtain ⟨t, rfl⟩ := rx
  obtain ⟨t2, rfl⟩ := ry
  exact SB.mul ok fun t' k => ⟨.str (Txt.mul z n), H, I.tok _, ⟨_, rfl⟩, q⟩

/-! ### t.index(i), xs.index(i), an int that is there -/
def rIdxT (K : PySem.W.Frag) : V → List V → Hp → VK → Prop := fun x xs H Q => ∃ (p : Addr) (ns : List Int) (k : Int), x = .ref p ∧ xs = [.int k] ∧ SqT K H p (ns.map V.int) ∧ k ∈ ns ∧ Q (.int (ns.idxOf k : Nat)) H
theorem mt_tup_indexI {X : Cx} : MtR X "tuple.index" (rIdxT X.K) := by
  intro pins s σ H x xs v us Q I rx rs h
  obtain ⟨p, ns, k, rfl, rfl, hq, hk, q⟩ := h
  cases rx
  obtain ⟨u, rfl, t, rfl⟩ := vals1 rs
  obtain ⟨its, r, pl, hz⟩ := I.tuple hq
  exact SeqAt.tuple_index_ints pl r.ints hk ⟨.int (ns.idxOf k : Nat), H, I.tok _, ⟨_, rfl⟩, q⟩

/-! ### sorted of any length -/
theorem each_of {α β γ : Type} {R : α → β → Prop} {S : α → γ → Prop} {g : γ → β} : ∀ {us : List α} {bs : List γ}, Paired (fun (b : β) u => R u b) (bs.map g) us → (∀ u b, b ∈ bs → R u (g b) → S u b) → PySem.W.EachIs S us bs
  | us, [], h, _ => by cases h; exact .nil
  | us, b :: bs, h, k => by
    rw [List.map_cons] at h
    cases h with
    | cons r t => exact .cons (k _ _ List.mem_cons_self r) (each_of t fun u c hc => k u c (List.mem_cons_of_mem _ hc))
theorem vals_each {γ : Type} {g : γ → V} : ∀ {out : List Value} {bs : List γ}, PySem.W.EachIs (fun u b => RelV (g b) u) out bs → Vals (bs.map g) out
  | _, _, .nil => .nil
  | _, _, .cons r t => .cons r (vals_each t)
/-- items: tuples of ints (of any lengths, not empty); the answer: the same items in another order -/
def rSortTup (K : PySem.W.Frag) : List V → Hp → VK → Prop := fun vs H Q => ∃ (a : Addr) (bs : List (Addr × List Int)), vs = [.ref a] ∧ SqL K H a (bs.map fun b => .ref b.1) ∧ bs.length ≤ 1000000 ∧
  (∀ b ∈ bs, SqT K H b.1 (b.2.map V.int) ∧ b.2 ≠ []) ∧ ∀ (ys : List (Addr × List Int)) (p : Addr), ys.Perm bs → H p = none → Q (.ref p) (upd H p (.lst (ys.map fun b => .ref b.1)))
theorem dp_ints {K : PySem.W.Frag} {H : Hp} : ∀ ns : List Int, DpAll K H (ns.map V.int) (ns.map PyData.int)
  | [] => .nil
  | n :: ns => .cons (.int n) (dp_ints ns)
theorem depthAll_ints (ns : List Int) : PyData.depth (.tuple (ns.map PyData.int)) ≤ 1 := by
  have := PySem.W.depth_ints ns
  simp [PyData.depth, this]
theorem cr_sortedTup {X : Cx} (hu : X.A.units + 64 < cLine) : CallR X (.builtin "sorted") (rSortTup X.K) := by
  intro pins s σ H vs us Q I r h
  obtain ⟨a, bs, rfl, hs, hlen, hb, q⟩ := h
  obtain ⟨its, rv, hl, _⟩ := I.list hs
  rw [Vals.ref1 r]
  have hz : bs.length ≤ sizeLine := Nat.le_trans hlen (by decide)
  have rv' : Paired (fun (v : V) u => RelV v u) (bs.map fun b => V.ref b.1) its := rv
  have e1 : PySem.W.EachIs (fun u (b : Addr × List Int) => RelV (V.ref b.1) u) its bs := each_of (R := fun u v => RelV v u) rv' fun u b _ z => z
  have e2 : PySem.W.EachIs (fun u (b : Addr × List Int) => ∃ as, Reads s.heap u (.tuple (b.2.map PyData.int)) as) its bs := each_of (R := fun u v => RelV v u) rv' fun u b hm z =>
    Dp.reads I (.tuple (b.2.map PyData.int)) (.ref b.1) u (.tup (hb b hm).1 (dp_ints b.2)) z
  refine PySem.W.sorted_data (enc := fun b : Addr × List Int => .tuple (b.2.map PyData.int)) (R := fun u b => RelV (V.ref b.1) u) hl.isList e1 e2 ?_ ?_ hz (fun b hm => ?_) fun out ho eo => ?_
  · intro d hd d' hd'
    obtain ⟨b, _, rfl⟩ := List.mem_map.mp hd
    obtain ⟨b', _, rfl⟩ := List.mem_map.mp hd'
    have := PySem.W.alike_ints b.2 b'.2
    simpa [PySem.W.alike] using this
  · refine .inl fun d hd => ?_
    obtain ⟨b, hm, rfl⟩ := List.mem_map.mp hd
    cases e : b.2 with
    | nil => exact absurd e (hb b hm).2
    | cons n ns => exact ⟨_, _, rfl⟩
  · have := depthAll_ints b.2
    show X.A.units + 2 + PyData.depth (.tuple (b.2.map PyData.int)) < cLine
    omega
  · obtain ⟨ep, he'⟩ := PyProof.Rows.sortedAll_at s.heap its out.toArray
    have hp : (bs.mergeSort (PySem.W.dataLe false fun b : Addr × List Int => .tuple (b.2.map PyData.int))).Perm bs := List.mergeSort_perm _ _
    have hlen : ((bs.mergeSort (PySem.W.dataLe false fun b : Addr × List Int => .tuple (b.2.map PyData.int))).map fun b => V.ref b.1).length ≤ sizeLine := by rw [List.length_map, hp.length_eq]; exact hz
    exact ⟨.ref _, upd H (s.heap.objs.size + 1) (.lst _), I.laid (t' := s.toks) (fun _ _ => PyProof.Rows.sortedAll_old) (Nat.le_succ _) ⟨hlen, out, ep, vals_each eo, he'⟩, rfl, q _ _ hp (I.hok.fresh (Nat.le_succ _))⟩

/-- sorted(d) of a dict whose keys are all texts, any number -/
def rSortD : List V → Hp → VK → Prop := fun xs H Q => ∃ (a : Addr) (kvs : List (Key × V)) (ks : List Str), xs = [.ref a] ∧ Rd H a (.dK kvs) ∧ kvs.map (·.1) = ks.map Sum.inr ∧ ks.length ≤ 1000000 ∧
  ∀ (ys : List Str) (p : Addr), ys.Perm ks → ys.Pairwise (fun x y : Str => x.cps.toList ≤ y.cps.toList) → H p = none → Q (.ref p) (upd H p (.lst (ys.map V.str)))
theorem str_total : PySem.W.TotalLe (fun x y : Str => decide (x.cps.toList ≤ y.cps.toList)) where
  trans := fun a b c h1 h2 => by
    rw [decide_eq_true_iff] at h1 h2 ⊢
    exact List.le_trans h1 h2
  total := fun a b => by
    rw [decide_eq_true_iff, decide_eq_true_iff]
    exact List.le_total _ _
theorem call_sortedDA {X : Cx} (hcalm : X.calm = true) (hu : X.A.units + 64 < cLine) : CallR X (.builtin "sorted") rSortD := by
  intro pins s σ H xs us Q I r q
  obtain ⟨a, kvs, ks, ex, hd, hks, h64, q⟩ := q
  subst ex
  obtain ⟨u, eu, rx⟩ := vals1 r
  subst eu
  cases rx
  obtain ⟨z, lo, vs, rel, dd⟩ := dk_rd I.hok hd
  obtain ⟨ep, hat⟩ := dd.dictAt
  have hkeys : vs.map (·.1) = ks.map Sum.inr := rel.keys.symm.trans hks
  have hl : vs.length = ks.length := by
    have e := congrArg List.length hkeys
    rw [List.length_map, List.length_map] at e
    exact e
  have h16 : vs.length ≤ sizeLine := by rw [hl]; exact Nat.le_trans h64 (by decide)
  refine Calls.call_function_entry PyProof.Rows.kind_sorted PyProof.Rows.plain_sorted PyProof.Rows.entry_sorted (PyProof.Rows.args_sorted1 _) ?_
  unfold Builtin.«sorted»
  refine wpAny_bind (m := checkCount "sorted" 1 1 _) (wpAny_pure ?_)
  refine wpAny_bind (PySem.W.kdu_collect (A := X.A.in1) (PySem.W.kdl_dict (knd := mixKind X.prog X.w) (kvs := vs) (ep := ep) lo) (I.ok.hd hcalm) hat h16 fun h' tk acc hk hacc => ?_)
  have hal : acc.toList.length = ks.length := by rw [Array.length_toList, hacc.1, hl]
  have hS : StrsAre acc.toList ks := strs_at hal fun j v e => by
    obtain ⟨k, x, e1, e2⟩ := hacc.2 j v (by rw [← Array.getElem?_toList]; exact e)
    have e3 : (vs.map (·.1))[j]? = some k := by rw [List.getElem?_map, e1]; all_goals rfl
    rw [hkeys, List.getElem?_map] at e3
    cases e4 : ks[j]? with
    | none => rw [e4] at e3; cases e3
    | some y =>
      rw [e4] at e3
      have e5 : Sum.inr y = k := Option.some.inj e3
      subst e5
      obtain ⟨t, ev⟩ := Value.isStrOf_shape (x := y) (v := v) e2
      exact ⟨y, t, rfl, ev⟩
  have I1 : Inv X pins σ H { s with heap := h', toks := tk } := I.kept hk
  refine wpAny_bind (wpAny_newList ?_ (by rw [hal]; exact Nat.le_trans h64 (by decide)))
  have hoL : (h'.push (seqObj "list" acc.toList.toArray 0)).get? h'.objs.size = some (seqObj "list" acc.toList.toArray 0) := Heap.get?_push_size _ rfl
  show wpAny _ _ _ _ _ { s with heap := h'.push (seqObj "list" acc.toList.toArray 0), toks := tk }
  have vS : Vals (ks.map V.str) acc.toList := vals_of_strs hS
  have vS' : Paired (fun (v : V) u => RelV v u) (ks.map V.str) acc.toList := vS
  have e1 : PySem.W.EachIs (fun u (k : Str) => RelV (V.str k) u) acc.toList ks := each_of (R := fun u v => RelV v u) vS' fun u b _ z => z
  have e2 : PySem.W.EachIs (fun u (k : Str) => ∃ as, Reads (h'.push (seqObj "list" acc.toList.toArray 0)) u (.str k) as ∧ h'.objs.size ∉ as) acc.toList ks := each_of (R := fun u v => RelV v u) vS' fun u b _ z => by
    obtain ⟨t, rfl⟩ := z
    exact ⟨[], Reads.str b t, List.not_mem_nil⟩
  refine wpAny_bind (wpAny_holding (PySem.W.list_sort_data (s := { s with heap := h'.push (seqObj "list" acc.toList.toArray 0), toks := tk }) (enc := fun k : Str => .str k) (R := fun u (k : Str) => RelV (V.str k) u) hoL e1 e2 ?_ ?_ (Nat.le_trans h64 (by decide)) (fun b hm => ?_) fun out ho eo => ?_))
  · intro d hd d' hd'
    obtain ⟨b, _, rfl⟩ := List.mem_map.mp hd
    obtain ⟨b', _, rfl⟩ := List.mem_map.mp hd'
    simp [PySem.W.alike]
  · exact PySem.W.Sortable.others fun b => ⟨by simp, fun xs => by simp⟩
  · show X.A.in1.units + 1 + PyData.depth (.str b) < cLine
    have e : X.A.in1.units = X.A.units + 1 := rfl
    rw [e]
    simp only [PyData.depth]
    omega
  · obtain ⟨e', he'⟩ := PyProof.Rows.sortedHeap_at (vs := acc.toList) (out := out.toArray) hoL
    have ele : PySem.W.dataLe false (fun k : Str => PyData.str k) = fun x y : Str => decide (x.cps.toList ≤ y.cps.toList) := PySem.W.dataLe_str fun k => k
    rw [ele] at eo
    have hp : (ks.mergeSort fun x y : Str => decide (x.cps.toList ≤ y.cps.toList)).Perm ks := List.mergeSort_perm _ _
    have hsd : (ks.mergeSort fun x y : Str => decide (x.cps.toList ≤ y.cps.toList)).Pairwise (fun x y : Str => x.cps.toList ≤ y.cps.toList) :=
      (PySem.W.sort_pairwise str_total ks).imp fun z => of_decide_eq_true z
    have hlen : ((ks.mergeSort fun x y : Str => decide (x.cps.toList ≤ y.cps.toList)).map V.str).length ≤ sizeLine := by
      rw [List.length_map, hp.length_eq]
      exact Nat.le_trans h64 (by decide)
    refine wpAny_pure ⟨_, rfl, .ref h'.objs.size, upd H h'.objs.size (.lst _), I1.laid (t' := tk) (fun b u e => ?_) (Nat.le_refl _)
      (show ObjOk X.prog X.w _ _ _ (.lst _) from ⟨hlen, out, e', vals_each eo, he'⟩), rfl, q _ _ hp hsd (I1.hok.fresh (Nat.le_refl _))⟩
    have hb : b < h'.objs.size := Heap.lt_size e
    rw [PyProof.Rows.sortedHeap_old (Nat.ne_of_lt hb) (by rw [size_push']; exact Nat.lt_succ_of_lt hb)]
    exact Heap.get?_push_of_some _ e

/-! ### a dict (a list, a set) held still for good -/
def tFrz (te : TE) : TE := fun σ H Q => te σ H fun x H1 => ∃ d u, x = .ref d ∧ H1 d = some u ∧ Mut (some u) ∧ ∀ od, Q x (upd H1 d (.frz od u))
theorem pe_frz {X : Cx} {e : Expr} {te : TE} (he : PE X e te) : PE X e (tFrz te) := by
  refine ⟨fun pins s σ H Q I h => ?_⟩
  refine thn (he.run pins s σ H _ I h) fun u s1 ⟨x, H1, I1, r1, d, o, e, hd, mu, q⟩ => ?_
  obtain ⟨od, I2⟩ := I1.lock hd mu
  exact ⟨x, _, I2, r1, q od⟩
end Lk

set_option Elab.async false
set_option linter.all false
set_option maxRecDepth 100000
set_option maxHeartbeats 4000000
/-! LkV: texts as lists of signs; heaps that grow; comprehensions that make a list; the facts of the module; a def by its name. -/
namespace Lk
open PySem PySem.Spec PyProof.Rows L2

/-! ### texts -/
def tx (p : List Nat) : Str := ⟨p.toArray⟩
abbrev vt (p : List Nat) : V := .str (tx p)
theorem tx_cps (p : List Nat) : (tx p).cps.toList = p := rfl
theorem tx_len (p : List Nat) : (tx p).length = p.length := List.size_toArray
theorem tx_inj {p q : List Nat} (h : tx p = tx q) : p = q := by
  have := congrArg (fun z : Str => z.cps.toList) h
  exact this
theorem tx_eta (z : Str) : tx z.cps.toList = z := rfl
theorem ext_tx {x y : Str} (h : x.cps.toList = y.cps.toList) : x = y := by
  obtain ⟨a⟩ := x
  obtain ⟨b⟩ := y
  have : a = b := Array.toList_inj.mp h
  rw [this]
theorem tx_app (p q : List Nat) : tx p ++ tx q = tx (p ++ q) := by
  apply ext_tx
  show ((tx p).cps ++ (tx q).cps).toList = p ++ q
  rw [Array.toList_append]; rfl
theorem tx_cut (p : List Nat) (lo hi : Option Int) : cutS (tx p) lo hi = tx ((p.drop (HT.sIx p.length 0 lo)).take (HT.sIx p.length p.length hi - HT.sIx p.length 0 lo)) := by
  unfold cutS
  rw [tx_len]; rfl
theorem tx_cut_to (p : List Nat) {i : Nat} (h : i ≤ p.length) : cutS (tx p) none (some (i : Int)) = tx (p.take i) := by
  rw [tx_cut, HT.sIx_none, HT.sIx_nat, List.drop_zero, Nat.sub_zero, Nat.min_eq_left h]
theorem tx_cut_from (p : List Nat) {i : Nat} (h : i ≤ p.length) : cutS (tx p) (some (i : Int)) none = tx (p.drop i) := by
  rw [tx_cut, HT.sIx_none, HT.sIx_nat, Nat.min_eq_left h]
  congr 1
  rw [List.take_of_length_le]
  rw [List.length_drop]; exact Nat.le_refl _
theorem t0 : ("0" : Str) = tx [48] := by decide +kernel
theorem t1 : ("1" : Str) = tx [49] := by decide +kernel
theorem tm : ("-" : Str) = tx [45] := by decide +kernel
theorem te : ("" : Str) = tx [] := by decide +kernel
theorem t01 : ("01" : Str) = tx [48, 49] := by decide +kernel
theorem t10 : ("10" : Str) = tx [49, 48] := by decide +kernel
theorem tm01 : ("-01" : Str) = tx [45, 48, 49] := by decide +kernel
theorem sg_tx (c : Nat) : (⟨#[c]⟩ : Str) = tx [c] := rfl
theorem cps_get (p : List Nat) (i : Nat) : (tx p).cps[i]? = p[i]? := by
  show p.toArray[i]? = p[i]?
  simp
theorem atI_gt {p : Pat} {i : Nat} (h : i < p.length) : atI (tx p).cps.toList ((i : Nat) : Int) = some (gt p i) := atI_nat (gt_get h)
theorem len6 {p : List Nat} {n : Nat} (h : p.length ≤ n) (hn : n ≤ 1000 := by decide) : (tx p).length ≤ sizeLine := by
  rw [tx_len]; exact Nat.le_trans h (Nat.le_of_lt (small1000 hn))
theorem fits_small {n : Nat} (h : n ≤ 1000000) : n ≤ sizeLine := Nat.le_trans h (by decide)
theorem lt_small {n : Nat} (h : n ≤ 1000000) : n < sizeLine := Nat.lt_of_le_of_lt h (by decide)
theorem int0 : PySem.intText? (tx [48]) = some 0 := by decide +kernel
theorem int1 : PySem.intText? (tx [49]) = some 1 := by decide +kernel
theorem cnt_filter (c : Nat) (p : List Nat) : PyProof.Rows.cnt c p = ((p.filter fun d => d == c).length : Nat) := by
  induction p with
  | nil => rfl
  | cons d p ih =>
    rw [PyProof.Rows.cnt_cons, ih, List.filter_cons]
    by_cases h : d = c
    · rw [if_pos h, if_pos (by simpa using h), List.length_cons]; omega
    · rw [if_neg h, if_neg (by simpa using h)]; omega
theorem dec_v {p q : List Nat} : decide (vt p = vt q) = decide (p = q) := by
  by_cases h : p = q
  · rw [h]; simp
  · rw [decide_eq_false h, decide_eq_false]
    intro e
    exact h (tx_inj (V.str.inj e))
theorem dec_i {i j : Int} : decide (V.int i = V.int j) = decide (i = j) := by
  by_cases h : i = j
  · rw [h]; simp
  · rw [decide_eq_false h, decide_eq_false]
    intro e
    exact h (V.int.inj e)
theorem dec_1 {c d : Nat} : decide (V.str (⟨#[c]⟩ : Str) = vt [d]) = decide (c = d) := by
  rw [sg_tx, dec_v]
  simp

/-! ### heaps that grow -/
theorem snew {H H1 : Hp} (s : Same H H1) {p : Addr} (h : H1 p = none) (o : HO) : Same H (upd H1 p o) := fun b u q => by
  rw [upd_ne (ne_of_none (s b u q) h)]; exact s b u q
theorem same_new {H : Hp} {p : Addr} (h : H p = none) (o : HO) : Same H (upd H p o) := snew (Same.refl H) h o
/-- d, new since H, changes -/
theorem schg {H H1 : Hp} (s : Same H H1) {d : Addr} (h : H d = none) (o : HO) : Same H (upd H1 d o) := fun b u q => by
  rw [upd_ne (fun e => by rw [e, h] at q; cases q)]; exact s b u q
theorem ssqt {K : PySem.W.Frag} {H H' : Hp} {a : Addr} {xs : List V} (e : Same H H') (h : SqT K H a xs) : SqT K H' a xs := by
  rcases h with (h | ⟨o, h⟩) | h
  · exact .inl (.inl (e _ _ h))
  · exact .inl (.inr ⟨o, e _ _ h⟩)
  · exact .inr h
theorem srd {H H' : Hp} {a : Addr} {u : HO} (e : Same H H') (h : Rd H a u) : Rd H' a u := by
  rcases h with h | ⟨o, h⟩
  · exact .inl (e _ _ h)
  · exact .inr ⟨o, e _ _ h⟩
/-- all but d as it was -/
def SameBut (d : Addr) (H H' : Hp) : Prop := ∀ b o, b ≠ d → H b = some o → H' b = some o
theorem SameBut.refl (d : Addr) (H : Hp) : SameBut d H H := fun _ _ _ h => h
theorem SameBut.trans {d : Addr} {H H1 H2 : Hp} (a : SameBut d H H1) (b : SameBut d H1 H2) : SameBut d H H2 := fun c o n h => b c o n (a c o n h)
theorem sbut {d : Addr} {H H' : Hp} (a : Same H H') : SameBut d H H' := fun c o _ h => a c o h
theorem SameBut.upd (d : Addr) (H : Hp) (o : HO) : SameBut d H (upd H d o) := fun b u n h => by rw [upd_ne n]; exact h
theorem SameBut.same {d : Addr} {H0 H H' : Hp} (a : Same H0 H) (b : SameBut d H H') (h : H0 d = none) : Same H0 H' := fun c o q => b c o (ne_of_none q h) (a c o q)
theorem SameBut.seq {K : PySem.W.Frag} {d : Addr} {H H' : Hp} {a : Addr} {xs : List V} (e : SameBut d H H') (n : a ≠ d) (h : SqL K H a xs) : SqL K H' a xs := by
  rcases h with (h | ⟨o, h⟩) | h
  · exact .inl (.inl (e _ _ n h))
  · exact .inl (.inr ⟨o, e _ _ n h⟩)
  · exact .inr h
theorem sbutTrans {d : Addr} {H H1 H2 : Hp} (a : Same H H1) (b : SameBut d H1 H2) : SameBut d H H2 := (sbut a).trans b
/-- gives v back; what stood stands -/
def RetS (H : Hp) (Q : VK) (v : V) : Prop := ∀ H', Same H H' → Q v H'
/-- gives a new object back -/
def RetN (H : Hp) (Q : VK) (o : HO) : Prop := ∀ r H', Same H H' → H r = none → H' r = some o → Q (.ref r) H'
theorem RetN.mk {H H1 : Hp} {Q : VK} {o : HO} (h : RetN H Q o) (s : Same H H1) {p : Addr} (hp : H1 p = none) : Q (.ref p) (upd H1 p o) := h p _ (snew s hp o) (s.free hp) upd_same

theorem yes {σ : L2.St} {H : Hp} {A B : Hp → Prop} (h : A H) : tYes σ H fun b H3 => if b = true then A H3 else B H3 := iteT (A := A H) (B := B H) h
/-! ### comprehensions that make a list, dicts by comprehension -/
section
variable {J : It} {n : Nat} {G : Hp → Prop} {Y : Nat → Hp → V → Hp → Prop}
theorem lc_new (w : Walk J n G Y) {g : TG} {tt : TT} {te : TE} {vs : List Nat} {σ : L2.St} {H1 : Hp} {D : Addr} {Qd : Hp → Prop} (hD : H1 D = none) (acc : Nat → List V) (a0 : acc 0 = []) (hl : ∀ i, i < n → (acc i).length ≤ 1000000)
    (hG : ∀ H, Same H1 H → G H)
    (hs : ∀ i x H H' (K1 : V → Hp → Prop) (K0 : Hp → Prop), i < n → Same H1 H → Y i H x H' → (∀ y H4, Same H H4 → acc (i + 1) = acc i ++ [y] → K1 y H4) → (∀ H3, Same H H3 → acc (i + 1) = acc i → K0 H3) →
      g x (wipe σ vs) H' fun σ2 H2 => wipe σ2 vs = wipe σ vs ∧ tt σ2 H2 fun b H3 => if b = true then te σ2 H3 K1 else K0 H3)
    (hd : ∀ H, Same H1 H → H D = some (.lst (acc n)) → Qd H) :
    ∃ W : Nat → Nat → Hp → Prop, (∃ m, W 0 m (upd H1 D (.lst []))) ∧ ∀ i m H, W i m H →
      (J.stop i H ∧ Qd H) ∨ (J.go i H ∧ ∃ Nx : Hp → Prop, (∀ H', Nx H' → ∃ m', m' < m ∧ W (i + 1) m' H') ∧ ∀ x H', J.yld i H x H' → g x (wipe σ vs) H' fun σ2 H2 => wipe σ2 vs = wipe σ vs ∧ tt σ2 H2 fun b H3 =>
        if b = true then te σ2 H3 fun y H4 => ∃ acc, H4 D = some (.lst acc) ∧ acc.length < sizeLine ∧ Nx (upd H4 D (.lst (acc ++ [y]))) else Nx H3) :=
  lc_it w (fun i H => Same H1 H ∧ H D = some (.lst (acc i))) ⟨same_new hD _, by rw [upd_same, a0]⟩ (fun i H _ p => hG H p.1)
    (fun i x H H' hi p y => hs i x H H' _ _ hi p.1 y
      (fun y H4 s4 e => ⟨acc i, s4 _ _ p.2, lt_small (hl i hi), schg (p.1.trans s4) hD _, by rw [upd_same, e]⟩)
      (fun H3 s3 e => ⟨p.1.trans s3, by rw [e]; exact s3 _ _ p.2⟩))
    fun H p => hd H p.1 p.2
/-- the same where the element's making changes b, which stands below the list -/
theorem lc_but (w : Walk J n G Y) {g : TG} {tt : TT} {te : TE} {vs : List Nat} {σ : L2.St} {H1 : Hp} {D : Addr} {Qd : Hp → Prop} (hD : H1 D = none) (Pv : Nat → List V → Hp → Prop) (h0 : Pv 0 [] (upd H1 D (.lst [])))
    (hG : ∀ i l H, i ≤ n → Pv i l H → H D = some (.lst l) → G H) (hl : ∀ i l H, i < n → Pv i l H → l.length ≤ 1000000)
    (hs : ∀ i l x H H' (K1 : V → Hp → Prop) (K0 : Hp → Prop), i < n → Pv i l H → H D = some (.lst l) → Y i H x H' → (∀ y H4, H4 D = some (.lst l) → Pv (i + 1) (l ++ [y]) (upd H4 D (.lst (l ++ [y]))) → K1 y H4) → (∀ H3, H3 D = some (.lst l) → Pv (i + 1) l H3 → K0 H3) →
      g x (wipe σ vs) H' fun σ2 H2 => wipe σ2 vs = wipe σ vs ∧ tt σ2 H2 fun b H3 => if b = true then te σ2 H3 K1 else K0 H3)
    (hd : ∀ l H, Pv n l H → H D = some (.lst l) → Qd H) :
    ∃ W : Nat → Nat → Hp → Prop, (∃ m, W 0 m (upd H1 D (.lst []))) ∧ ∀ i m H, W i m H →
      (J.stop i H ∧ Qd H) ∨ (J.go i H ∧ ∃ Nx : Hp → Prop, (∀ H', Nx H' → ∃ m', m' < m ∧ W (i + 1) m' H') ∧ ∀ x H', J.yld i H x H' → g x (wipe σ vs) H' fun σ2 H2 => wipe σ2 vs = wipe σ vs ∧ tt σ2 H2 fun b H3 =>
        if b = true then te σ2 H3 fun y H4 => ∃ acc, H4 D = some (.lst acc) ∧ acc.length < sizeLine ∧ Nx (upd H4 D (.lst (acc ++ [y]))) else Nx H3) :=
  lc_it w (fun i H => ∃ l, Pv i l H ∧ H D = some (.lst l)) ⟨[], h0, upd_same⟩ (fun i H hi ⟨l, p, q⟩ => hG i l H hi p q)
    (fun i x H H' hi ⟨l, p, q⟩ y => hs i l x H H' _ _ hi p q y
      (fun y H4 s4 e => ⟨l, s4, lt_small (hl i l H hi p), l ++ [y], e, upd_same⟩)
      (fun H3 s3 e => ⟨l, e, s3⟩))
    fun H ⟨l, p, q⟩ => hd l H p q
/-- two clauses: the outer one, the inner one -/
theorem lc2_out (w : Walk J n G Y) {g : TG} {tt : TT} {vs : List Nat} {σ : L2.St} {H0 : Hp} {Qd : Hp → Prop} {inner : L2.St → Hp → (Hp → Prop) → Prop} (Pv : Nat → Hp → Prop) (h0 : Pv 0 H0) (hG : ∀ i H, i ≤ n → Pv i H → G H)
    (hs : ∀ i x H H', i < n → Pv i H → Y i H x H' → g x (wipe σ vs) H' fun σ2 H2 => wipe σ2 vs = wipe σ vs ∧ tt σ2 H2 fun b H3 => if b = true then inner σ2 H3 (Pv (i + 1)) else Pv (i + 1) H3) (hd : ∀ H, Pv n H → Qd H) :
    ∃ W : Nat → Nat → Hp → Prop, (∃ m, W 0 m H0) ∧ ∀ i m H, W i m H →
      (J.stop i H ∧ Qd H) ∨ (J.go i H ∧ ∃ Nx : Hp → Prop, (∀ H', Nx H' → ∃ m', m' < m ∧ W (i + 1) m' H') ∧ ∀ x H', J.yld i H x H' → g x (wipe σ vs) H' fun σ2 H2 => wipe σ2 vs = wipe σ vs ∧ tt σ2 H2 fun b H3 =>
        if b = true then inner σ2 H3 Nx else Nx H3) := by
  refine ⟨fun i m H => m = n - i ∧ i ≤ n ∧ Pv i H, ⟨n, by simp, Nat.zero_le _, h0⟩, ?_⟩
  rintro i m H ⟨rfl, hi, p⟩
  have q := hG i H hi p
  by_cases hlt : i < n
  · exact .inr ⟨w.goes i H hlt q, Pv (i + 1), fun H' p' => ⟨n - (i + 1), by omega, rfl, hlt, p'⟩, fun x H' y => hs i x H H' hlt p (w.yields i H x H' hlt q y)⟩
  · have e : i = n := by omega
    subst e
    exact .inl ⟨w.stops H q, hd H p⟩
theorem lc2_in (w : Walk J n G Y) {g : TG} {tt : TT} {te : TE} {vs : List Nat} {σ : L2.St} {H0 : Hp} {D : Addr} {Nx : Hp → Prop} (Pv : Nat → Hp → Prop) (h0 : Pv 0 H0) (hG : ∀ i H, i ≤ n → Pv i H → G H)
    (hs : ∀ i x H H', i < n → Pv i H → Y i H x H' → g x (wipe σ vs) H' fun σ2 H2 => wipe σ2 vs = wipe σ vs ∧ tt σ2 H2 fun b H3 =>
      if b = true then te σ2 H3 fun y H4 => ∃ acc, H4 D = some (.lst acc) ∧ acc.length < sizeLine ∧ Pv (i + 1) (upd H4 D (.lst (acc ++ [y]))) else Pv (i + 1) H3) (hd : ∀ H, Pv n H → Nx H) :
    ∃ W : Nat → Nat → Hp → Prop, (∃ m, W 0 m H0) ∧ ∀ i m H, W i m H →
      (J.stop i H ∧ Nx H) ∨ (J.go i H ∧ ∃ Nx1 : Hp → Prop, (∀ H', Nx1 H' → ∃ m', m' < m ∧ W (i + 1) m' H') ∧ ∀ x H', J.yld i H x H' → g x (wipe σ vs) H' fun σ2 H2 => wipe σ2 vs = wipe σ vs ∧ tt σ2 H2 fun b H3 =>
        if b = true then te σ2 H3 fun y H4 => ∃ acc, H4 D = some (.lst acc) ∧ acc.length < sizeLine ∧ Nx1 (upd H4 D (.lst (acc ++ [y]))) else Nx1 H3) := by
  refine ⟨fun i m H => m = n - i ∧ i ≤ n ∧ Pv i H, ⟨n, by simp, Nat.zero_le _, h0⟩, ?_⟩
  rintro i m H ⟨rfl, hi, p⟩
  have q := hG i H hi p
  by_cases hlt : i < n
  · exact .inr ⟨w.goes i H hlt q, Pv (i + 1), fun H' p' => ⟨n - (i + 1), by omega, rfl, hlt, p'⟩, fun x H' y => hs i x H H' hlt p (w.yields i H x H' hlt q y)⟩
  · have e : i = n := by omega
    subst e
    exact .inl ⟨w.stops H q, hd H p⟩
theorem dc_it (w : Walk J n G Y) {g : TG} {tt : TT} {tk tv : TE} {vs : List Nat} {σ : L2.St} {H1 : Hp} {D : Addr} {Qd : Hp → Prop} (Pv : Nat → Hp → Prop) (h0 : Pv 0 (upd H1 D (.dK []))) (hG : ∀ i H, i ≤ n → Pv i H → G H)
    (hs : ∀ i x H H', i < n → Pv i H → Y i H x H' → g x (wipe σ vs) H' fun σ2 H2 => wipe σ2 vs = wipe σ vs ∧ tt σ2 H2 fun b H3 =>
      if b = true then tk σ2 H3 fun y H4 => tv σ2 H4 fun z H5 => ∃ kvs k, y = kV k ∧ H5 D = some (.dK kvs) ∧ kvs.length < sizeLine ∧ Pv (i + 1) (upd H5 D (.dK (putK kvs k z))) else Pv (i + 1) H3) (hd : ∀ H, Pv n H → Qd H) :
    ∃ W : Nat → Nat → Hp → Prop, (∃ m, W 0 m (upd H1 D (.dK []))) ∧ ∀ i m H, W i m H →
      (J.stop i H ∧ Qd H) ∨ (J.go i H ∧ ∃ Nx : Hp → Prop, (∀ H', Nx H' → ∃ m', m' < m ∧ W (i + 1) m' H') ∧ ∀ x H', J.yld i H x H' → g x (wipe σ vs) H' fun σ2 H2 => wipe σ2 vs = wipe σ vs ∧ tt σ2 H2 fun b H3 =>
        if b = true then tk σ2 H3 fun y H4 => tv σ2 H4 fun z H5 => ∃ kvs k, y = kV k ∧ H5 D = some (.dK kvs) ∧ kvs.length < sizeLine ∧ Nx (upd H5 D (.dK (putK kvs k z))) else Nx H3) := by
  refine ⟨fun i m H => m = n - i ∧ i ≤ n ∧ Pv i H, ⟨n, by simp, Nat.zero_le _, h0⟩, ?_⟩
  rintro i m H ⟨rfl, hi, p⟩
  have q := hG i H hi p
  by_cases hlt : i < n
  · refine .inr ⟨w.goes i H hlt q, Pv (i + 1), fun H' p' => ⟨n - (i + 1), by omega, rfl, hlt, p'⟩, fun x H' y => hs i x H H' hlt p (w.yields i H x H' hlt q y)⟩
  · have e : i = n := by omega
    subst e
    exact .inl ⟨w.stops H q, hd H p⟩
theorem dc_new (w : Walk J n G Y) {g : TG} {tt : TT} {tk tv : TE} {vs : List Nat} {σ : L2.St} {H1 : Hp} {D : Addr} {Qd : Hp → Prop} (hD : H1 D = none) (acc : Nat → List (Key × V)) (a0 : acc 0 = []) (hl : ∀ i, i < n → (acc i).length ≤ 1000000)
    (hG : ∀ H, Same H1 H → G H)
    (hs : ∀ i x H H' (K1 : V → V → Hp → Prop) (K0 : Hp → Prop), i < n → Same H1 H → Y i H x H' → (∀ k z H5, Same H H5 → acc (i + 1) = putK (acc i) k z → K1 (kV k) z H5) → (∀ H3, Same H H3 → acc (i + 1) = acc i → K0 H3) →
      g x (wipe σ vs) H' fun σ2 H2 => wipe σ2 vs = wipe σ vs ∧ tt σ2 H2 fun b H3 => if b = true then tk σ2 H3 fun y H4 => tv σ2 H4 fun z H5 => K1 y z H5 else K0 H3)
    (hd : ∀ H, Same H1 H → H D = some (.dK (acc n)) → Qd H) :
    ∃ W : Nat → Nat → Hp → Prop, (∃ m, W 0 m (upd H1 D (.dK []))) ∧ ∀ i m H, W i m H →
      (J.stop i H ∧ Qd H) ∨ (J.go i H ∧ ∃ Nx : Hp → Prop, (∀ H', Nx H' → ∃ m', m' < m ∧ W (i + 1) m' H') ∧ ∀ x H', J.yld i H x H' → g x (wipe σ vs) H' fun σ2 H2 => wipe σ2 vs = wipe σ vs ∧ tt σ2 H2 fun b H3 =>
        if b = true then tk σ2 H3 fun y H4 => tv σ2 H4 fun z H5 => ∃ kvs k, y = kV k ∧ H5 D = some (.dK kvs) ∧ kvs.length < sizeLine ∧ Nx (upd H5 D (.dK (putK kvs k z))) else Nx H3) :=
  dc_it w (fun i H => Same H1 H ∧ H D = some (.dK (acc i))) ⟨same_new hD _, by rw [upd_same, a0]⟩ (fun i H _ p => hG H p.1)
    (fun i x H H' hi p y => hs i x H H' (fun y z H5 => ∃ kvs k, y = kV k ∧ H5 D = some (.dK kvs) ∧ kvs.length < sizeLine ∧ (Same H1 (upd H5 D (.dK (putK kvs k z))) ∧ (upd H5 D (.dK (putK kvs k z))) D = some (.dK (acc (i + 1))))) _ hi p.1 y
      (fun k z H5 s5 e => ⟨acc i, k, rfl, s5 _ _ p.2, lt_small (hl i hi), schg (p.1.trans s5) hD _, by rw [upd_same, e]⟩)
      (fun H3 s3 e => ⟨p.1.trans s3, by rw [e]; exact s3 _ _ p.2⟩))
    fun H p => hd H p.1 p.2
end

/-! ### dicts whose keys are texts -/
def kt (p : List Nat) : Key := .inr (tx p)
theorem kt_inj {p q : List Nat} (h : kt p = kt q) : p = q := tx_inj (Sum.inr.inj h)
theorem kV_kt (p : List Nat) : kV (kt p) = vt p := rfl
theorem valV_map {h : Pat → V} (q : Pat) : ∀ l : List Pat, valV (l.map fun p => (kt p, h p)) (kt q) = if q ∈ l then some (h q) else none
  | [] => by rw [if_neg List.not_mem_nil]; exact valV_nil
  | p :: l => by
    rw [List.map_cons]
    by_cases e : p = q
    · subst e
      rw [valV_pos (p := (kt p, h p)) rfl, if_pos List.mem_cons_self]
    · rw [valV_neg (p := (kt p, h p)) (fun z => e (kt_inj z)), valV_map q l]
      by_cases m : q ∈ l
      · rw [if_pos m, if_pos (List.mem_cons_of_mem _ m)]
      · rw [if_neg m, if_neg (fun z => (List.mem_cons.mp z).elim (fun k => e k.symm) m)]
theorem valV_fm {g : Pat → Option Int} (q : Pat) : ∀ l : List Pat, valV (l.filterMap fun p => (g p).map fun b => (kt p, V.int b)) (kt q) = if q ∈ l then (g q).map V.int else none
  | [] => by rw [if_neg List.not_mem_nil]; exact valV_nil
  | p :: l => by
    have ih := valV_fm (g := g) q l
    rw [List.filterMap_cons]
    by_cases e : p = q
    · subst e
      rw [if_pos List.mem_cons_self]
      cases c : g p with
      | none =>
        simp only [c, Option.map_none]
        rw [ih, c]
        simp
      | some b =>
        simp only [c, Option.map_some]
        rw [valV_pos (p := (kt p, V.int b)) rfl]
    · have m2 : (q ∈ p :: l) ↔ q ∈ l := ⟨fun z => (List.mem_cons.mp z).elim (fun k => absurd k.symm e) id, List.mem_cons_of_mem _⟩
      cases c : g p with
      | none =>
        simp only [c, Option.map_none]
        rw [ih]
        simp only [m2]
      | some b =>
        simp only [c, Option.map_some]
        rw [valV_neg (p := (kt p, V.int b)) (fun z => e (kt_inj z)), ih]
        simp only [m2]

/-! ### the module's facts; a def by its name -/
structure TX (K : PySem.W.Frag) (mg : Str → Option Value) : Prop where
  f_isinstance : mg "isinstance" = none
  f_len : mg "len" = none
  f_all : mg "all" = none
  f_any : mg "any" = none
  f_range : mg "range" = none
  f_enumerate : mg "enumerate" = none
  f_sorted : mg "sorted" = none
  f_max : mg "max" = none
  f_min : mg "min" = none
  f_abs : mg "abs" = none
  f_int : mg "int" = none
  f_str : mg "str" = none
  f_bool : mg "bool" = none
  f_list : mg "list" = none
  f_tuple : mg "tuple" = none
  f_dict : mg "dict" = none
  f_zip : mg "zip" = none
  cMOST : ∃ u, mg "MOST" = some u ∧ RelV (.int 6) u
  cBITS : ∃ u, mg "BITS" = some u ∧ RelV (vt [48, 49]) u
  cSIGNS : ∃ u, mg "SIGNS" = some u ∧ RelV (vt [45, 48, 49]) u
  cSIZES : ∃ u, mg "SIZES" = some u ∧ RelV (.ref (He.ga K "SIZES")) u
  sizes : ∀ H, SqT K H (He.ga K "SIZES") ([1, 2, 4, 8, 16, 32, 64].map V.int)
  tyS : ∃ o, K.lookup (He.ga K "SIZES") = some o ∧ o.cls = .type "tuple" ∧ o.dict = none
  cl : Cls K (He.ga K "Question")
  mgQ : mg "Question" = some (.ref (He.ga K "Question"))
  mkQ : Mk K (He.ga K "Question") (He.ma K (He.ga K "Question") "__init__")
  n1 : NoAttr K (He.ga K "Question") "kept_table"
  n2 : NoAttr K (He.ga K "Question") "kept_many"
  n3 : NoAttr K (He.ga K "Question") "answer_of"
  n4 : NoAttr K (He.ga K "Question") "yes"
  prop : PropOf K (He.ga K "Question") "many" (propAt K (He.ga K "Question") "many") (getterAt K (He.ga K "Question") "many")
  callO : StX.CallO K (He.ga K "Question") (He.ma K (He.ga K "Question") "__call__")
/-- the def st stands by its name x -/
def DF (K : PySem.W.Frag) (mg : Str → Option Value) (x : Str) (st : Stmt) : Prop := ∃ (f : Addr) (fd : FuncData), FunD K x x (defArgs st) (defBody st) (defScope st) [] [] f fd ∧ mg x = some (.ref f)
/-- a def that may be called by its name, at level k, with the promise sp -/
structure Cal (P : Program) (w : World) (K : PySem.W.Frag) (mg : Str → Option Value) (base : Heap) (k : Nat) (x : Str) (sp : Sp) : Prop where
  ex : ∃ (f : Addr) (fd : FuncData) (ps : List Str), FnOk P w K mg base CX0 k f fd ps sp ∧ mg x = some (.ref f) ∧ PySem.W.keepIn K (.ref f) = true ∧ Binds K fd ps []
section
variable {X : Cx} {k j : Nat} {x : Str} {sp : Sp} {E : XK} {t : TA} {e : Expr} {es : List Expr} {p pos : Pos} {v : V}
theorem pe_c (c : Cal X.prog X.w X.K X.mg X.base k x sp) (hr : Room j X.A) (hk : k ≤ j) (hg : Gl X x) (ha : PA X (e :: es) t)
    (hdb : (x == ("__debug__" : Str)) = false := by decide) (he : starEach (e :: es) X.env = (false, eval e X.env) :: starEach es X.env := by rfl) (hpl : (backTo pos (starEach es X.env)).any (·.1) = false := by rfl) :
    PE X (.Call (.Name x p) (e :: es) [] pos) (tCall sp [] E0 t) := by
  obtain ⟨f, fd, ps, F, hm, kp, b⟩ := c.ex
  exact pe_call F (hr.mono hk) hg hm kp b .nil pass0 ha hdb he hpl
theorem pe_tyv {n : String} (hg : Gl X x) (hm : X.mg x = none) (hv : bootBuiltins x = some (.type n)) (hn : x ≠ "__name__" := by decide) (hd : (x == ("__debug__" : Str)) = false := by decide) : PE X (.Name x pos) (tC (.ty n)) :=
  pe_bltn hg hm hv rfl hn hd
theorem pe_gc (hg : Gl X x) (h : ∃ u, X.mg x = some u ∧ RelV v u) (hd : (x == ("__debug__" : Str)) = false := by decide) : PE X (.Name x pos) (tC v) := by
  obtain ⟨u, hm, r⟩ := h
  exact pe_glob hg hm r hd
end
section
variable {P : Program} {w : World} {K : PySem.W.Frag} {mg : Str → Option Value} {base : Heap}
theorem mkCal {x : Str} {st : Stmt} {N ps : List Str} {k : Nat} {sp : Sp} (D : DF K mg x st) (S : FnScope N ps (defScope st))
    (hb : ∀ (kV doc pm : Value) (an : Option Addr) (cdv ct : Value) (us : List Value), us.length = ps.length → bindArgs (PySem.W.fnOf x x (defArgs st) (defBody st) (defScope st) .none kV doc pm an cdv ct) ⟨us, []⟩ = pure (ps.zip us))
    (len : ∀ vs H Q E, sp vs H Q E → vs.length = ps.length)
    (body : ∀ (f : Addr) (cdv : Value) (A : Around) (outer : List Env) (s : Shared) (H : Hp) (vs : List V) (Q : VK) (E : XK), Room k (A.deeper (envOfC x (defScope st) s.heap.objs.size f cdv)) → sp vs H Q E →
      ∃ t, PSs (cxOf CX0 P w K mg base N x (defScope st) f cdv A outer s H E).nox (defBody st) t ∧ t { nx := fun _ H' => Q .non H', rt := Q } (start N vs) H) : Cal P w K mg base (k + 1) x sp := by
  obtain ⟨f, fd, F, hm⟩ := D
  refine ⟨f, fd, ps, F.ok S len (fun cdv A outer s H vs Q E hr hs => ?_), hm, F.kp, F.bindsN hb⟩
  obtain ⟨t, h, q⟩ := body f cdv A outer s H vs Q E hr hs
  exact ⟨t, h.nox, q⟩
end
end Lk

set_option Elab.async false
set_option linter.all false
set_option maxRecDepth 100000
set_option maxHeartbeats 4000000
/-! LkW1: the defs of the patterns' module. -/
namespace Lk
open PySem PySem.Spec PyProof.Rows L2
section
variable {P : Program} {w : World} {K : PySem.W.Frag} {mg : Str → Option Value} {base : Heap}
/-! ### is_integer -/
def spIsInteger : Sp := fun vs H Q _ => ∃ v lo hi : Int, vs = [.int v, .int lo, .int hi] ∧ Q (.bl (decide (lo ≤ v ∧ v ≤ hi))) H
theorem sc_is_integer : FnScope ["value", "low", "high"] ["value", "low", "high"] (defScope s_is_integer) := ⟨rfl, rfl, rfl, by decide +kernel, rfl, by decide +kernel, by decide +kernel⟩
theorem ok_is_integer (T : TX K mg) (D : DF K mg "is_integer" s_is_integer) : Cal P w K mg base 1 "is_integer" spIsInteger := by
  refine mkCal D sc_is_integer (fun _ _ _ _ _ _ us hl => match us, hl with | [_, _, _], _ => rfl) (fun vs H Q E h => ?_) (fun f cdv A outer s H vs Q E hr h => ?_)
  · obtain ⟨v, lo, hi, rfl, _⟩ := h; rfl
  obtain ⟨v, lo, hi, rfl, q⟩ := h
  refine ⟨_, (pss_one (ps_ret (pe_and (pe_callB call_isi (by rfl) T.f_isinstance (by decide +kernel) (pa_cons (pv 0) (pa_cons (pe_tyv (n := "int") (by rfl) T.f_int (by decide +kernel)) pa_nil))) (pe_and (pe_not (pe_callB call_isi (by rfl) T.f_isinstance (by decide +kernel) (pa_cons (pv 0) (pa_cons (pe_tyv (n := "bool") (by rfl) T.f_bool (by decide +kernel)) pa_nil)))) (pe_one (pe_chain op_le op_le (pv 1) (pv 0) (pv 2))))))), ?_⟩
  refine ⟨_, rfl, _, _, _, _, true, rfl, .ty "int", .base (.int v), kit_ty (by decide +kernel), true, rfl, iteT ?_⟩
  refine ⟨_, rfl, _, _, _, _, false, rfl, .ty "bool", .base (.int v), kit_ty (by decide +kernel), false, rfl, _, rfl, iteT ?_⟩
  refine ⟨_, rfl, _, rfl, _, _, rfl, rfl, _, rfl, ?_⟩
  refine ite2 (fun c => ?_) (fun c => ?_)
  · have c1 : lo ≤ v := of_decide_eq_true c
    refine ⟨_, rfl, _, _, rfl, rfl, ?_⟩
    have e : decide (lo ≤ v ∧ v ≤ hi) = decide (v ≤ hi) := by simp [c1]
    rw [e] at q; exact q
  · have c1 : ¬ lo ≤ v := of_decide_eq_false (Bool.eq_false_iff.mpr c)
    have e : decide (lo ≤ v ∧ v ≤ hi) = false := by simp [c1]
    rw [e] at q; exact q
/-! ### has_signs -/
def spHasSigns : Sp := fun vs H Q _ => ∃ p sg : List Nat, vs = [vt p, vt sg] ∧ p.length ≤ 6 ∧ (∀ c ∈ p, c ∈ sg) ∧ RetS H Q (.bl true)
theorem sc_has_signs : FnScope ["value", "signs", "sign"] ["value", "signs"] (defScope s_has_signs) := ⟨rfl, rfl, rfl, by decide +kernel, rfl, by decide +kernel, by decide +kernel⟩
theorem ok_has_signs (T : TX K mg) (D : DF K mg "has_signs" s_has_signs) : Cal P w K mg base 1 "has_signs" spHasSigns := by
  refine mkCal D sc_has_signs (fun _ _ _ _ _ _ us hl => match us, hl with | [_, _], _ => rfl) (fun vs H Q E h => ?_) (fun f cdv A outer s H vs Q E hr h => ?_)
  · obtain ⟨p, sg, rfl, _⟩ := h; rfl
  obtain ⟨p, sg, rfl, hp, hs, q⟩ := h
  refine ⟨_, (pss_one (ps_ret (pe_and (pe_callB call_isi (by rfl) T.f_isinstance (by decide +kernel) (pa_cons (pv 0) (pa_cons (pe_tyv (n := "str") (by rfl) T.f_str (by decide +kernel)) pa_nil))) (pe_and (pe_cmpR op_le (pe_callB call_len_str (by rfl) T.f_len PySem.boot_len (pa_cons (pv 0) pa_nil)) (pe_gc rfl T.cMOST) (nomark _)) (pe_one (pe_callB (cr_all rfl) (by rfl) T.f_all (by decide +kernel) (pa_cons (pe_lc (own := [("sign", 2)]) rfl sc_has_signs.nd (pi_str (pv 0)) (blkOk_by (own := [("sign", 2)]) (N := ["value", "signs", "sign"]) (sc := defScope s_has_signs) (by decide +kernel)) (fun _ _ _ _ _ => (pg_name (i := 2) sc_has_signs.nd rfl (Or.inl rfl) (Or.inr rfl))) (fun _ _ _ _ _ => pts_nil) (fun _ _ _ _ _ => (pe_cmpR op_in_sign (pv 2) (pv 1) rfl))) pa_nil))))))), ?_⟩
  refine ⟨_, rfl, _, _, _, _, true, rfl, .ty "str", .base (.str _), kit_ty (by decide +kernel), true, rfl, iteT ?_⟩
  refine ⟨_, rfl, _, rfl, len6 hp, _, _, rfl, rfl, _, rfl, ?_⟩
  have e : decide (((tx p).length : Int) ≤ 6) = true := decide_eq_true (by rw [tx_len]; omega)
  rw [e]
  refine iteT ?_
  refine ⟨_, rfl, _, rfl, fun D hD => lc_new walk_str hD (fun i => List.replicate i (.bl true)) rfl (fun i hi => ?_) (fun _ _ => trivial) (fun i x H1 H' K1 K0 hi s1 y k1 k0 => ?_) (fun H1 s1 h1 => ?_)⟩
  · rw [List.length_replicate]
    have : (tx p).cps.size = p.length := tx_len p
    omega
  · obtain ⟨rfl, c, hc, rfl⟩ := y
    refine ⟨rfl, yes ?_⟩
    have hm : c ∈ sg := hs c (by rw [cps_get] at hc; exact List.mem_of_getElem? hc)
    refine ⟨_, rfl, _, rfl, c, tx sg, rfl, rfl, ?_⟩
    rw [tx_cps, decide_eq_true hm]
    exact k1 _ _ (Same.refl _) (List.replicate_succ' ..)
  · refine ⟨D, List.replicate (tx p).cps.size true, rfl, SqL.of (by rw [h1, List.map_replicate]), ?_⟩
    have e2 : (List.replicate (tx p).cps.size true).all id = true := by simp
    rw [e2]
    exact q _ s1
/-! ### is_input, is_pattern -/
def spIsInput (sg : List Nat) : Sp := fun vs H Q _ => ∃ p : List Nat, vs = [vt p] ∧ p.length ≤ 6 ∧ (∀ c ∈ p, c ∈ sg) ∧ RetS H Q (.bl true)
theorem sc_is_input : FnScope ["value"] ["value"] (defScope s_is_input) := ⟨rfl, rfl, rfl, by decide +kernel, rfl, by decide +kernel, by decide +kernel⟩
theorem sc_is_pattern : FnScope ["value"] ["value"] (defScope s_is_pattern) := ⟨rfl, rfl, rfl, by decide +kernel, rfl, by decide +kernel, by decide +kernel⟩
theorem ok_is_input (T : TX K mg) (D : DF K mg "is_input" s_is_input) (C_has_signs : Cal P w K mg base 1 "has_signs" spHasSigns) : Cal P w K mg base 2 "is_input" (spIsInput [48, 49]) := by
  refine mkCal D sc_is_input (fun _ _ _ _ _ _ us hl => match us, hl with | [_], _ => rfl) (fun vs H Q E h => ?_) (fun f cdv A outer s H vs Q E hr h => ?_)
  · obtain ⟨p, rfl, _⟩ := h; rfl
  obtain ⟨p, rfl, hp, hs, q⟩ := h
  exact ⟨_, (pss_one (ps_ret (pe_c C_has_signs (by exact hr) (by decide) (by rfl) (pa_cons (pv 0) (pa_cons (pe_gc rfl T.cBITS) pa_nil))))), _, rfl, p, _, rfl, hp, hs, q⟩
theorem ok_is_pattern (T : TX K mg) (D : DF K mg "is_pattern" s_is_pattern) (C_has_signs : Cal P w K mg base 1 "has_signs" spHasSigns) : Cal P w K mg base 2 "is_pattern" (spIsInput [45, 48, 49]) := by
  refine mkCal D sc_is_pattern (fun _ _ _ _ _ _ us hl => match us, hl with | [_], _ => rfl) (fun vs H Q E h => ?_) (fun f cdv A outer s H vs Q E hr h => ?_)
  · obtain ⟨p, rfl, _⟩ := h; rfl
  obtain ⟨p, rfl, hp, hs, q⟩ := h
  exact ⟨_, (pss_one (ps_ret (pe_c C_has_signs (by exact hr) (by decide) (by rfl) (pa_cons (pv 0) (pa_cons (pe_gc rfl T.cSIGNS) pa_nil))))), _, rfl, p, _, rfl, hp, hs, q⟩
/-! ### need_count, need_pattern, need_input, need_bit -/
def spNeedCount : Sp := fun vs H Q _ => ∃ n : Int, vs = [.int n] ∧ 0 ≤ n ∧ n ≤ 6 ∧ Q .non H
def spNeedBit : Sp := fun vs H Q _ => ∃ n : Int, vs = [.int n] ∧ 0 ≤ n ∧ n ≤ 1 ∧ Q .non H
def spNeedPattern : Sp := fun vs H Q _ => ∃ p : List Nat, vs = [vt p] ∧ p.length ≤ 6 ∧ (∀ c ∈ p, c ∈ [45, 48, 49]) ∧ RetS H Q .non
def spNeedInput : Sp := fun vs H Q _ => ∃ p : List Nat, vs = [vt p, .int (p.length : Nat)] ∧ p.length ≤ 6 ∧ (∀ c ∈ p, c ∈ [48, 49]) ∧ RetS H Q .non
theorem sc_need_count : FnScope ["value"] ["value"] (defScope s_need_count) := ⟨rfl, rfl, rfl, by decide +kernel, rfl, by decide +kernel, by decide +kernel⟩
theorem sc_need_bit : FnScope ["value"] ["value"] (defScope s_need_bit) := ⟨rfl, rfl, rfl, by decide +kernel, rfl, by decide +kernel, by decide +kernel⟩
theorem sc_need_pattern : FnScope ["value"] ["value"] (defScope s_need_pattern) := ⟨rfl, rfl, rfl, by decide +kernel, rfl, by decide +kernel, by decide +kernel⟩
theorem sc_need_input : FnScope ["value", "many"] ["value", "many"] (defScope s_need_input) := ⟨rfl, rfl, rfl, by decide +kernel, rfl, by decide +kernel, by decide +kernel⟩
theorem ok_need_count (T : TX K mg) (D : DF K mg "need_count" s_need_count) (C_is_integer : Cal P w K mg base 1 "is_integer" spIsInteger) : Cal P w K mg base 2 "need_count" spNeedCount := by
  refine mkCal D sc_need_count (fun _ _ _ _ _ _ us hl => match us, hl with | [_], _ => rfl) (fun vs H Q E h => ?_) (fun f cdv A outer s H vs Q E hr h => ?_)
  · obtain ⟨n, rfl, _⟩ := h; rfl
  obtain ⟨n, rfl, h0, h1, q⟩ := h
  refine ⟨_, (pss_one (ps_if (pt_not (pt_val (pe_c C_is_integer (by exact hr) (by decide) (by rfl) (pa_cons (pv 0) (pa_cons pe_int (pa_cons (pe_gc rfl T.cMOST) pa_nil)))))) pss_never pss_nil)), _, rfl, n, 0, 6, rfl, ?_⟩
  rw [decide_eq_true (p := 0 ≤ n ∧ n ≤ 6) ⟨h0, h1⟩]
  exact ⟨true, rfl, iteF q⟩
theorem ok_need_bit (T : TX K mg) (D : DF K mg "need_bit" s_need_bit) (C_is_integer : Cal P w K mg base 1 "is_integer" spIsInteger) : Cal P w K mg base 2 "need_bit" spNeedBit := by
  refine mkCal D sc_need_bit (fun _ _ _ _ _ _ us hl => match us, hl with | [_], _ => rfl) (fun vs H Q E h => ?_) (fun f cdv A outer s H vs Q E hr h => ?_)
  · obtain ⟨n, rfl, _⟩ := h; rfl
  obtain ⟨n, rfl, h0, h1, q⟩ := h
  refine ⟨_, (pss_one (ps_if (pt_not (pt_val (pe_c C_is_integer (by exact hr) (by decide) (by rfl) (pa_cons (pv 0) (pa_cons pe_int (pa_cons pe_int pa_nil)))))) pss_never pss_nil)), _, rfl, n, 0, 1, rfl, ?_⟩
  rw [decide_eq_true (p := 0 ≤ n ∧ n ≤ 1) ⟨h0, h1⟩]
  exact ⟨true, rfl, iteF q⟩
theorem ok_need_pattern (T : TX K mg) (D : DF K mg "need_pattern" s_need_pattern) (C_is_pattern : Cal P w K mg base 2 "is_pattern" (spIsInput [45, 48, 49])) : Cal P w K mg base 3 "need_pattern" spNeedPattern := by
  refine mkCal D sc_need_pattern (fun _ _ _ _ _ _ us hl => match us, hl with | [_], _ => rfl) (fun vs H Q E h => ?_) (fun f cdv A outer s H vs Q E hr h => ?_)
  · obtain ⟨n, rfl, _⟩ := h; rfl
  obtain ⟨p, rfl, hp, hs, q⟩ := h
  refine ⟨_, (pss_one (ps_if (pt_not (pt_val (pe_c C_is_pattern (by exact hr) (by decide) (by rfl) (pa_cons (pv 0) pa_nil)))) pss_never pss_nil)), _, rfl, p, rfl, hp, hs, fun H1 s1 => ?_⟩
  exact ⟨true, rfl, iteF (q _ s1)⟩
theorem ok_need_input (T : TX K mg) (D : DF K mg "need_input" s_need_input) (C_is_input : Cal P w K mg base 2 "is_input" (spIsInput [48, 49])) : Cal P w K mg base 3 "need_input" spNeedInput := by
  refine mkCal D sc_need_input (fun _ _ _ _ _ _ us hl => match us, hl with | [_, _], _ => rfl) (fun vs H Q E h => ?_) (fun f cdv A outer s H vs Q E hr h => ?_)
  · obtain ⟨n, rfl, _⟩ := h; rfl
  obtain ⟨p, rfl, hp, hs, q⟩ := h
  refine ⟨_, (pss_one (ps_if (PW.pt (pw_or (pt_not (pt_val (pe_c C_is_input (by exact hr) (by decide) (by rfl) (pa_cons (pv 0) pa_nil)))) (pw_or1 (pt_cmpR op_ne (pe_callB call_len_str (by rfl) T.f_len PySem.boot_len (pa_cons (pv 0) pa_nil)) (pv 1) (nomark _))))) pss_never pss_nil)), _, rfl, p, rfl, hp, hs, fun H1 s1 => ?_⟩
  refine ⟨true, rfl, iteF ?_⟩
  refine ⟨_, rfl, _, rfl, len6 hp, _, rfl, rfl, _, rfl, ?_⟩
  rw [tx_len, decide_eq_true rfl]
  exact iteF (q _ s1)
/-! ### strings, inputs, patterns -/
def spStrings : Sp := fun vs H Q _ => ∃ (n : Nat) (sg : List Nat), vs = [.int (n : Nat), vt sg] ∧ n ≤ 6 ∧ sg.length ≤ 3 ∧ RetN H Q (.lst ((stg sg n).map vt))
theorem sc_strings : FnScope ["many", "signs", "found", "turn", "text", "sign"] ["many", "signs"] (defScope s_strings) := ⟨rfl, rfl, rfl, by decide +kernel, rfl, by decide +kernel, by decide +kernel⟩
theorem ok_strings (T : TX K mg) (D : DF K mg "strings" s_strings) : Cal P w K mg base 1 "strings" spStrings := by
  refine mkCal D sc_strings (fun _ _ _ _ _ _ us hl => match us, hl with | [_, _], _ => rfl) (fun vs H Q E h => ?_) (fun f cdv A outer s H vs Q E hr h => ?_)
  · obtain ⟨n, sg, rfl, _⟩ := h; rfl
  obtain ⟨n, sg, rfl, hn, hg, q⟩ := h
  refine ⟨_, (pss_cons (ps_set (i := 2) sc_strings.nd rfl (Or.inl rfl) (pe_lst (pa_cons pe_str pa_nil)))
      (pss_cons (ps_for PassesOwn.never rfl (pi_range1 (by rfl) T.f_range (pa_cons (pv 0) pa_nil)) (pg_name (i := 3) sc_strings.nd rfl (Or.inl rfl) (Or.inr rfl)) (pss_one (ps_setLc2 (i := 2) (own := [("text", 4), ("sign", 5)]) (vs1 := [5]) rfl sc_strings.nd rfl rfl (sw_true rfl rfl rfl (by decide +kernel)) (pi_list (pv 2)) (blkOk_by (own := [("text", 4), ("sign", 5)]) (N := ["many", "signs", "found", "turn", "text", "sign"]) (sc := defScope s_strings) (by decide +kernel)) (by decide) (fun _ _ _ _ _ => (pg_name (i := 4) sc_strings.nd rfl (Or.inl rfl) (Or.inr rfl))) (fun _ _ _ _ _ => pts_nil) (fun _ _ _ _ _ => (pi_str (pv 1))) (fun _ _ _ _ _ => (pg_name (i := 5) sc_strings.nd rfl (Or.inl rfl) (Or.inr rfl))) (fun _ _ _ _ _ => pts_nil) (fun _ _ _ _ _ => (pe_op op_add_str (pv 4) (pv 5))))))
      (pss_one (ps_ret (pv 2))))), ?_⟩
  refine ⟨(by show 1 ≤ sizeLine; decide), fun r hr0 => ?_⟩
  refine ⟨_, rfl, _, rfl, by omega, by omega, for_it walk_range (fun i σ H' => ∃ (b : Addr) (v1 v2 v3 : Option V), σ = [some (.int (n : Nat)), some (vt sg), some (.ref b), v1, v2, v3] ∧ Same H H' ∧ H b = none ∧ H' b = some (.lst ((stg sg i).map vt)))
    ⟨r, _, _, _, rfl, same_new hr0 _, hr0, by rw [upd_same, te]; rfl⟩ (fun _ _ _ _ _ => trivial) ?_ ?_⟩
  · rintro i x σ H0 H1 hi ⟨b, v1, v2, v3, rfl, s1, b0, hb⟩ ⟨rfl, rfl⟩
    have hlen : (stg sg i).length ≤ 729 := by
      rw [length_stg]
      have e1 : sg.length ^ i ≤ 3 ^ i := Nat.pow_le_pow_left hg i
      have e2 : 3 ^ i ≤ 3 ^ 6 := Nat.pow_le_pow_right (by decide) (by omega)
      exact Nat.le_trans e1 e2
    have flen : ∀ l : List Pat, (l.flatMap fun t => sg.map fun c => t ++ [c]).length ≤ l.length * 3 := fun l => by
      induction l with
      | nil => exact Nat.zero_le _
      | cons t l ih =>
        rw [List.flatMap_cons, List.length_append, List.length_map, List.length_cons]
        omega
    refine ⟨_, rfl, b, rfl, ⟨_, SqL.of hb⟩, fun D hD => lc2_out walk_list
      (fun j H' => Same H1 H' ∧ H' D = some (.lst ((((stg sg i).take j).flatMap fun t => sg.map fun c => t ++ [c]).map vt))) ⟨same_new hD _, by rw [upd_same]; rfl⟩ (fun j H' _ p => SqL.of (p.1 _ _ hb)) ?_ ?_⟩
    · rintro j y H0 H2 hj ⟨s2, h2⟩ ⟨rfl, hy⟩
      rw [List.getElem?_map] at hy
      obtain ⟨t, ht, rfl⟩ := Option.map_eq_some_iff.mp hy
      have htl : t.length = i := (mem_stg.mp (List.mem_of_getElem? ht)).1
      refine ⟨rfl, yes ?_⟩
      refine ⟨_, rfl, tx sg, rfl, lc2_in walk_str (fun k H' => Same H1 H' ∧ H' D = some (.lst ((((stg sg i).take j).flatMap (fun t => sg.map fun c => t ++ [c]) ++ (sg.take k).map fun c => t ++ [c]).map vt)))
        ⟨s2, by rw [List.take_zero, List.map_nil, List.append_nil]; exact h2⟩ (fun _ _ _ _ => trivial) ?_ ?_⟩
      · rintro k y H0 H3 hk ⟨s3, h3⟩ ⟨rfl, c, hc, rfl⟩
        rw [cps_get] at hc
        refine ⟨rfl, yes ?_⟩
        refine ⟨_, rfl, _, rfl, tx t, tx [c], rfl, rfl, ?_, _, h3, ?_, schg s3 hD _, ?_⟩
        · rw [tx_len, tx_len, htl]; exact fits_small (by have : i ≤ 6 := by omega
                                                         show i + 1 ≤ 1000000; omega)
        · rw [List.length_map, List.length_append, List.length_map, List.length_take]
          have := flen ((stg sg i).take j)
          rw [List.length_take] at this
          exact lt_small (by omega)
        · rw [upd_same, tx_app, List.take_add_one, hc]
          simp
      · rintro H3 ⟨s3, h3⟩
        refine ⟨s3, ?_⟩
        rw [h3]
        have e : (stg sg i).take (j + 1) = (stg sg i).take j ++ [t] := by rw [List.take_add_one, ht]; rfl
        have e2 : sg.take (tx sg).cps.size = sg := List.take_of_length_le (Nat.le_of_eq (tx_len sg).symm)
        rw [e, List.flatMap_append, List.flatMap_cons, List.flatMap_nil, List.append_nil, e2]
    · rintro H2 ⟨s2, h2⟩
      refine ⟨D, _, _, _, rfl, s1.trans s2, s1.free hD, ?_⟩
      rw [h2, List.length_map, List.take_length]; rfl
  · rintro σ H1 ⟨b, v1, v2, v3, rfl, s1, b0, hb⟩
    exact ⟨_, rfl, q b H1 s1 b0 hb⟩
end
end Lk

set_option Elab.async false
set_option linter.all false
set_option maxRecDepth 100000
set_option maxHeartbeats 4000000
/-! LkW2: the defs of the patterns' module, further. -/
namespace Lk
open PySem PySem.Spec PyProof.Rows L2
section
variable {P : Program} {w : World} {K : PySem.W.Frag} {mg : Str → Option Value} {base : Heap}
def spList (n : Nat) (l : List V) : Sp := fun vs H Q _ => vs = [.int (n : Nat)] ∧ RetN H Q (.lst l)
def spInputs : Sp := fun vs H Q _ => ∃ n : Nat, vs = [.int (n : Nat)] ∧ n ≤ 6 ∧ RetN H Q (.lst ((ins n).map vt))
def spPatterns : Sp := fun vs H Q _ => ∃ n : Nat, vs = [.int (n : Nat)] ∧ n ≤ 6 ∧ RetN H Q (.lst ((pats n).map vt))
theorem sc_inputs : FnScope ["many"] ["many"] (defScope s_inputs) := ⟨rfl, rfl, rfl, by decide +kernel, rfl, by decide +kernel, by decide +kernel⟩
theorem sc_patterns : FnScope ["many"] ["many"] (defScope s_patterns) := ⟨rfl, rfl, rfl, by decide +kernel, rfl, by decide +kernel, by decide +kernel⟩
theorem ok_inputs (T : TX K mg) (D : DF K mg "inputs" s_inputs) (C_need_count : Cal P w K mg base 2 "need_count" spNeedCount) (C_strings : Cal P w K mg base 1 "strings" spStrings) : Cal P w K mg base 3 "inputs" spInputs := by
  refine mkCal D sc_inputs (fun _ _ _ _ _ _ us hl => match us, hl with | [_], _ => rfl) (fun vs H Q E h => ?_) (fun f cdv A outer s H vs Q E hr h => ?_)
  · obtain ⟨n, rfl, _⟩ := h; rfl
  obtain ⟨n, rfl, hn, q⟩ := h
  refine ⟨_, (pss_cons (ps_expr (pe_c C_need_count (by exact hr) (by decide) (by rfl) (pa_cons (pv 0) pa_nil)))
      (pss_one (ps_ret (pe_c C_strings (by exact hr) (by decide) (by rfl) (pa_cons (pv 0) (pa_cons (pe_gc rfl T.cBITS) pa_nil)))))), ?_⟩
  exact ⟨_, rfl, n, rfl, by omega, by omega, _, rfl, n, _, rfl, hn, by decide, q⟩
theorem ok_patterns (T : TX K mg) (D : DF K mg "patterns" s_patterns) (C_need_count : Cal P w K mg base 2 "need_count" spNeedCount) (C_strings : Cal P w K mg base 1 "strings" spStrings) : Cal P w K mg base 3 "patterns" spPatterns := by
  refine mkCal D sc_patterns (fun _ _ _ _ _ _ us hl => match us, hl with | [_], _ => rfl) (fun vs H Q E h => ?_) (fun f cdv A outer s H vs Q E hr h => ?_)
  · obtain ⟨n, rfl, _⟩ := h; rfl
  obtain ⟨n, rfl, hn, q⟩ := h
  refine ⟨_, (pss_cons (ps_expr (pe_c C_need_count (by exact hr) (by decide) (by rfl) (pa_cons (pv 0) pa_nil)))
      (pss_one (ps_ret (pe_c C_strings (by exact hr) (by decide) (by rfl) (pa_cons (pv 0) (pa_cons (pe_gc rfl T.cSIGNS) pa_nil)))))), ?_⟩
  exact ⟨_, rfl, n, rfl, by omega, by omega, _, rfl, n, _, rfl, hn, by decide, q⟩
/-! ### known, unknown, size -/
def iv (l : List Nat) : List V := l.map fun i => .int (i : Nat)
theorem iv_ft {l : List Nat} (g : Nat → Bool) {i j : Nat} (hj : l[i]? = some j) : iv ((l.take (i + 1)).filter g) = iv ((l.take i).filter g) ++ (if g j = true then [V.int (j : Nat)] else []) := by
  have e4 : l.take (i + 1) = l.take i ++ [j] := by rw [List.take_add_one, hj]; rfl
  rw [e4, List.filter_append, iv, List.map_append]
  congr 1
  by_cases h : g j = true
  · rw [if_pos h, List.filter_cons_of_pos h]; rfl
  · rw [if_neg h, List.filter_cons_of_neg h]; rfl
theorem iv_len (l : List Nat) : (iv l).length = l.length := List.length_map _
def spKnown : Sp := fun vs H Q _ => ∃ p : Pat, vs = [vt p] ∧ p.length ≤ 6 ∧ (∀ c ∈ p, c ∈ [45, 48, 49]) ∧ RetN H Q (.lst (iv (kno p)))
def spUnknown : Sp := fun vs H Q _ => ∃ p : Pat, vs = [vt p] ∧ p.length ≤ 6 ∧ RetN H Q (.lst (iv (opn p)))
def spSize : Sp := fun vs H Q _ => ∃ p : Pat, vs = [vt p] ∧ p.length ≤ 6 ∧ (∀ c ∈ p, c ∈ [45, 48, 49]) ∧ RetS H Q (.int (siz p : Nat))
theorem sc_known : FnScope ["pattern", "position", "sign"] ["pattern"] (defScope s_known) := ⟨rfl, rfl, rfl, by decide +kernel, rfl, by decide +kernel, by decide +kernel⟩
theorem sc_unknown : FnScope ["pattern", "position", "sign"] ["pattern"] (defScope s_unknown) := ⟨rfl, rfl, rfl, by decide +kernel, rfl, by decide +kernel, by decide +kernel⟩
theorem sc_size : FnScope ["pattern"] ["pattern"] (defScope s_size) := ⟨rfl, rfl, rfl, by decide +kernel, rfl, by decide +kernel, by decide +kernel⟩
theorem filter_range (g : Nat → Bool) (i : Nat) : ((List.range (i + 1)).filter g).map (fun i => V.int (i : Nat)) = ((List.range i).filter g).map (fun i => V.int (i : Nat)) ++ (if g i = true then [V.int (i : Nat)] else []) := by
  rw [List.range_succ, List.filter_append, List.map_append]
  congr 1
  by_cases h : g i = true
  · rw [if_pos h, List.filter_cons_of_pos h]; rfl
  · rw [if_neg h, List.filter_cons_of_neg h]; rfl
theorem filter_le (g : Nat → Bool) (i : Nat) : (((List.range i).filter g).map (fun i => V.int (i : Nat))).length ≤ i := by
  rw [List.length_map]
  exact Nat.le_trans (List.length_filter_le _ _) (by rw [List.length_range]; exact Nat.le_refl _)
theorem ok_unknown (T : TX K mg) (D : DF K mg "unknown" s_unknown) : Cal P w K mg base 1 "unknown" spUnknown := by
  refine mkCal D sc_unknown (fun _ _ _ _ _ _ us hl => match us, hl with | [_], _ => rfl) (fun vs H Q E h => ?_) (fun f cdv A outer s H vs Q E hr h => ?_)
  · obtain ⟨p, rfl, _⟩ := h; rfl
  obtain ⟨p, rfl, hp, q⟩ := h
  refine ⟨_, (pss_one (ps_ret (pe_lc (own := [("position", 1), ("sign", 2)]) (g := gTup K 2 (gCons (gName 1) (gCons (gName 2) gNil))) rfl sc_unknown.nd (pi_enumS (by rfl) T.f_enumerate (pa_cons (pv 0) pa_nil)) (blkOk_by (own := [("position", 1), ("sign", 2)]) (N := ["pattern", "position", "sign"]) (sc := defScope s_unknown) (by decide +kernel)) (fun _ _ _ _ _ => (pg_tup rfl (pgs_cons (pg_name (i := 1) sc_unknown.nd rfl (Or.inl rfl) (Or.inr rfl)) (pgs_cons (pg_name (i := 2) sc_unknown.nd rfl (Or.inl rfl) (Or.inr rfl)) pgs_nil)))) (fun _ _ _ _ _ => (pts_one (pt_cmpR op_eq (pv 2) pe_str (nomark _)))) (fun _ _ _ _ _ => (pv 1))))), ?_⟩
  refine ⟨_, rfl, tx p, rfl, fun D hD => lc_new walk_enumS hD (fun i => ((List.range i).filter fun i => gt p i == 45).map fun i => .int (i : Nat)) rfl (fun i hi => ?_) (fun _ _ => trivial) (fun i x H0 H' K1 K0 hi s1 y k1 k0 => ?_) (fun H1 s1 h1 => ?_)⟩
  · have hi' : i < (tx p).length := hi
    rw [tx_len] at hi'
    exact Nat.le_trans (filter_le _ _) (by omega)
  · obtain ⟨T, a, b, rfl, hT, rfl, e1, e2⟩ := y
    cases e1
    dsimp only at e2
    rw [cps_get] at e2
    have hi' : i < p.length := by rw [← tx_len]; exact hi
    rw [gt_get hi'] at e2
    cases e2
    refine ⟨T, _, rfl, SqT.of upd_same, rfl, _, _, rfl, _, _, rfl, rfl, rfl, ?_⟩
    refine ⟨_, rfl, rfl, _, rfl, ?_⟩
    have e : decide (V.str (⟨#[gt p i]⟩ : Str) = V.str "-") = (gt p i == 45) := by rw [tm, dec_1]; rfl
    rw [e]
    refine ite2 (fun h => ?_) (fun h => ?_)
    · refine ⟨_, rfl, k1 _ _ (same_new hT _) ?_⟩
      rw [filter_range, if_pos h]
    · refine k0 _ (same_new hT _) ?_
      rw [filter_range, if_neg h, List.append_nil]
  · refine q D _ s1 hD ?_
    rw [h1]
    show some (HO.lst (((List.range (tx p).length).filter _).map _)) = _
    rw [tx_len]; rfl
theorem ok_known (T : TX K mg) (D : DF K mg "known" s_known) (C_need_pattern : Cal P w K mg base 3 "need_pattern" spNeedPattern) : Cal P w K mg base 4 "known" spKnown := by
  refine mkCal D sc_known (fun _ _ _ _ _ _ us hl => match us, hl with | [_], _ => rfl) (fun vs H Q E h => ?_) (fun f cdv A outer s H vs Q E hr h => ?_)
  · obtain ⟨p, rfl, _⟩ := h; rfl
  obtain ⟨p, rfl, hp, hs, q⟩ := h
  refine ⟨_, (pss_cons (ps_expr (pe_c C_need_pattern (by exact hr) (by decide) (by rfl) (pa_cons (pv 0) pa_nil)))
      (pss_one (ps_ret (pe_lc (own := [("position", 1), ("sign", 2)]) (g := gTup K 2 (gCons (gName 1) (gCons (gName 2) gNil))) rfl sc_known.nd (pi_enumS (by rfl) T.f_enumerate (pa_cons (pv 0) pa_nil)) (blkOk_by (own := [("position", 1), ("sign", 2)]) (N := ["pattern", "position", "sign"]) (sc := defScope s_known) (by decide +kernel)) (fun _ _ _ _ _ => (pg_tup rfl (pgs_cons (pg_name (i := 1) sc_known.nd rfl (Or.inl rfl) (Or.inr rfl)) (pgs_cons (pg_name (i := 2) sc_known.nd rfl (Or.inl rfl) (Or.inr rfl)) pgs_nil)))) (fun _ _ _ _ _ => (pts_one (pt_cmpR op_ne (pv 2) pe_str (nomark _)))) (fun _ _ _ _ _ => (pv 1)))))), ?_⟩
  refine ⟨_, rfl, p, rfl, hp, hs, fun H2 s2 => ?_⟩
  refine ⟨_, rfl, tx p, rfl, fun D hD => lc_new walk_enumS hD (fun i => ((List.range i).filter fun i => gt p i != 45).map fun i => .int (i : Nat)) rfl (fun i hi => ?_) (fun _ _ => trivial) (fun i x H0 H' K1 K0 hi s1 y k1 k0 => ?_) (fun H1 s1 h1 => ?_)⟩
  · have hi' : i < (tx p).length := hi
    rw [tx_len] at hi'
    exact Nat.le_trans (filter_le _ _) (by omega)
  · obtain ⟨T, a, b, rfl, hT, rfl, e1, e2⟩ := y
    cases e1
    dsimp only at e2
    rw [cps_get] at e2
    have hi' : i < p.length := by rw [← tx_len]; exact hi
    rw [gt_get hi'] at e2
    cases e2
    refine ⟨T, _, rfl, SqT.of upd_same, rfl, _, _, rfl, _, _, rfl, rfl, rfl, ?_⟩
    refine ⟨_, rfl, rfl, _, rfl, ?_⟩
    have e : (!decide (V.str (⟨#[gt p i]⟩ : Str) = V.str "-")) = (gt p i != 45) := by rw [tm, dec_1]; rfl
    rw [e]
    refine ite2 (fun h => ?_) (fun h => ?_)
    · refine ⟨_, rfl, k1 _ _ (same_new hT _) ?_⟩
      rw [filter_range, if_pos h]
    · refine k0 _ (same_new hT _) ?_
      rw [filter_range, if_neg h, List.append_nil]
  · refine q D _ (s2.trans s1) (s2.free hD) ?_
    rw [h1]
    show some (HO.lst (((List.range (tx p).length).filter _).map _)) = _
    rw [tx_len]; rfl
theorem ok_size (T : TX K mg) (D : DF K mg "size" s_size) (C_known : Cal P w K mg base 4 "known" spKnown) : Cal P w K mg base 5 "size" spSize := by
  refine mkCal D sc_size (fun _ _ _ _ _ _ us hl => match us, hl with | [_], _ => rfl) (fun vs H Q E h => ?_) (fun f cdv A outer s H vs Q E hr h => ?_)
  · obtain ⟨p, rfl, _⟩ := h; rfl
  obtain ⟨p, rfl, hp, hs, q⟩ := h
  refine ⟨_, (pss_one (ps_ret (pe_callB call_len_seq (by rfl) T.f_len PySem.boot_len (pa_cons (pe_c C_known (by exact hr) (by decide) (by rfl) (pa_cons (pv 0) pa_nil)) pa_nil)))), ?_⟩
  refine ⟨_, rfl, p, rfl, hp, hs, fun r H1 s1 _ h1 => ⟨_, _, rfl, .inl (SqL.of h1), ?_⟩⟩
  have e : (iv (kno p)).length = siz p := List.length_map _
  rw [e]
  exact q _ s1
/-! ### need_two, differ, put -/
def spNeedTwo : Sp := fun vs H Q _ => ∃ p q : Pat, vs = [vt p, vt q] ∧ p.length = q.length ∧ p.length ≤ 6 ∧ (∀ c ∈ p, c ∈ [45, 48, 49]) ∧ (∀ c ∈ q, c ∈ [45, 48, 49]) ∧ RetS H Q .non
def spDiffer : Sp := fun vs H Q _ => ∃ p q : Pat, vs = [vt p, vt q] ∧ p.length = q.length ∧ p.length ≤ 6 ∧ (∀ c ∈ p, c ∈ [45, 48, 49]) ∧ (∀ c ∈ q, c ∈ [45, 48, 49]) ∧ RetN H Q (.lst (iv (dif p q)))
def spPut : Sp := fun vs H Q _ => ∃ (p : Pat) (i c : Nat), vs = [vt p, .int (i : Nat), vt [c]] ∧ p.length ≤ 6 ∧ i < p.length ∧ Q (vt (p.set i c)) H
theorem sc_need_two : FnScope ["first", "second"] ["first", "second"] (defScope s_need_two) := ⟨rfl, rfl, rfl, by decide +kernel, rfl, by decide +kernel, by decide +kernel⟩
theorem sc_differ : FnScope ["first", "second", "both", "position"] ["first", "second"] (defScope s_differ) := ⟨rfl, rfl, rfl, by decide +kernel, rfl, by decide +kernel, by decide +kernel⟩
theorem sc_put : FnScope ["pattern", "position", "sign"] ["pattern", "position", "sign"] (defScope s_put) := ⟨rfl, rfl, rfl, by decide +kernel, rfl, by decide +kernel, by decide +kernel⟩
theorem ok_put (T : TX K mg) (D : DF K mg "put" s_put) : Cal P w K mg base 1 "put" spPut := by
  refine mkCal D sc_put (fun _ _ _ _ _ _ us hl => match us, hl with | [_, _, _], _ => rfl) (fun vs H Q E h => ?_) (fun f cdv A outer s H vs Q E hr h => ?_)
  · obtain ⟨p, i, c, rfl, _⟩ := h; rfl
  obtain ⟨p, i, c, rfl, hp, hi, q⟩ := h
  refine ⟨_, (pss_one (ps_ret (pe_op op_add_str (pe_op op_add_str (pe_slice sl_str (pv 0) po_none (po_some (pv 1))) (pv 2)) (pe_slice sl_str (pv 0) (po_some (pe_op op_add (pv 1) pe_int)) po_none)))), ?_⟩
  refine ⟨_, rfl, _, rfl, _, rfl, tx p, rfl, len6 hp, _, rfl, _, _, rfl, rfl, ?_, ?_⟩
  · rw [tx_cut_to p (Nat.le_of_lt hi), tx_len, tx_len, List.length_take]; exact fits_small (by show _ + 1 ≤ _; omega)
  refine ⟨_, rfl, _, rfl, _, _, rfl, rfl, _, rfl, tx p, rfl, len6 hp, _, _, rfl, rfl, ?_, ?_⟩
  · rw [show ((i : Nat) : Int) + 1 = ((i + 1 : Nat) : Int) by omega, tx_cut_from p hi, tx_cut_to p (Nat.le_of_lt hi), tx_app, tx_len, tx_len, List.length_append, List.length_take, List.length_drop]
    exact fits_small (by show _ + 1 + _ ≤ _; omega)
  · rw [show ((i : Nat) : Int) + 1 = ((i + 1 : Nat) : Int) by omega, tx_cut_from p hi, tx_cut_to p (Nat.le_of_lt hi), tx_app, tx_app, List.append_assoc]
    have e : p.take i ++ ([c] ++ p.drop (i + 1)) = p.set i c := set_eq hi
    rw [e]
    exact q
theorem ok_need_two (T : TX K mg) (D : DF K mg "need_two" s_need_two) (C_need_pattern : Cal P w K mg base 3 "need_pattern" spNeedPattern) : Cal P w K mg base 4 "need_two" spNeedTwo := by
  refine mkCal D sc_need_two (fun _ _ _ _ _ _ us hl => match us, hl with | [_, _], _ => rfl) (fun vs H Q E h => ?_) (fun f cdv A outer s H vs Q E hr h => ?_)
  · obtain ⟨p, i, rfl, _⟩ := h; rfl
  obtain ⟨p, r, rfl, hl, hp, h1, h2, q⟩ := h
  refine ⟨_, (pss_cons (ps_expr (pe_c C_need_pattern (by exact hr) (by decide) (by rfl) (pa_cons (pv 0) pa_nil)))
      (pss_cons (ps_expr (pe_c C_need_pattern (by exact hr) (by decide) (by rfl) (pa_cons (pv 1) pa_nil)))
      (pss_one (ps_if (pt_cmpR op_ne (pe_callB call_len_str (by rfl) T.f_len PySem.boot_len (pa_cons (pv 0) pa_nil)) (pe_callB call_len_str (by rfl) T.f_len PySem.boot_len (pa_cons (pv 1) pa_nil)) (nomark _)) pss_never pss_nil)))), ?_⟩
  refine ⟨_, rfl, p, rfl, hp, h1, fun H1 s1 => ⟨_, rfl, r, rfl, hl ▸ hp, h2, fun H2 s2 => ?_⟩⟩
  refine ⟨_, rfl, _, rfl, len6 hp, _, rfl, _, rfl, len6 (hl ▸ hp), rfl, _, rfl, ?_⟩
  rw [tx_len, tx_len, hl, decide_eq_true rfl]
  exact iteF (q _ (s1.trans s2))
theorem ok_differ (T : TX K mg) (D : DF K mg "differ" s_differ) (C_need_two : Cal P w K mg base 4 "need_two" spNeedTwo) (C_known : Cal P w K mg base 4 "known" spKnown) : Cal P w K mg base 5 "differ" spDiffer := by
  refine mkCal D sc_differ (fun _ _ _ _ _ _ us hl => match us, hl with | [_, _], _ => rfl) (fun vs H Q E h => ?_) (fun f cdv A outer s H vs Q E hr h => ?_)
  · obtain ⟨p, i, rfl, _⟩ := h; rfl
  obtain ⟨p, r, rfl, hl, hp, h1, h2, q⟩ := h
  refine ⟨_, (pss_cons (ps_expr (pe_c C_need_two (by exact hr) (by decide) (by rfl) (pa_cons (pv 0) (pa_cons (pv 1) pa_nil))))
      (pss_cons (ps_setLc (i := 2) (own := [("position", 3)]) rfl sc_differ.nd rfl rfl (sw_true rfl rfl rfl (by decide +kernel)) (pi_list (pe_c C_known (by exact hr) (by decide) (by rfl) (pa_cons (pv 0) pa_nil))) (blkOk_by (own := [("position", 3)]) (N := ["first", "second", "both", "position"]) (sc := defScope s_differ) (by decide +kernel)) (fun _ _ _ _ _ => (pg_name (i := 3) sc_differ.nd rfl (Or.inl rfl) (Or.inr rfl))) (fun _ _ _ _ _ => (pts_one (pt_cmpR op_ne (pe_ix ix_str (pv 1) (pv 3) (by intro _ _; rfl)) pe_str (nomark _)))) (fun _ _ _ _ _ => (pv 3)))
      (pss_one (ps_ret (pe_lc (own := [("position", 3)]) rfl sc_differ.nd (pi_list (pv 2)) (blkOk_by (own := [("position", 3)]) (N := ["first", "second", "both", "position"]) (sc := defScope s_differ) (by decide +kernel)) (fun _ _ _ _ _ => (pg_name (i := 3) sc_differ.nd rfl (Or.inl rfl) (Or.inr rfl))) (fun _ _ _ _ _ => (pts_one (pt_cmpR op_ne (pe_ix ix_str (pv 0) (pv 3) (by intro _ _; rfl)) (pe_ix ix_str (pv 1) (pv 3) (by intro _ _; rfl)) (nomark _)))) (fun _ _ _ _ _ => (pv 3))))))), ?_⟩
  refine ⟨_, rfl, _, rfl, p, r, rfl, hl, hp, h1, h2, fun H1 s1 => ?_⟩
  refine ⟨_, rfl, p, rfl, hp, h1, fun a H2 s2 _ ha => ⟨a, rfl, ⟨_, SqL.of ha⟩, fun D hD => lc_new walk_list hD (fun i => iv (((kno p).take i).filter fun i => gt r i != 45)) rfl (fun i hi => ?_) (fun H' s' => SqL.of (s' _ _ ha)) (fun i x H0 H' K1 K0 hi s3 y k1 k0 => ?_) (fun H3 s3 h3 => ?_)⟩⟩
  · refine Nat.le_trans (Nat.le_of_eq (List.length_map _)) (Nat.le_trans (List.length_filter_le _ _) ?_)
    rw [List.length_take]
    have : (kno p).length ≤ p.length := siz_le p
    omega
  · obtain ⟨rfl, e⟩ := y
    rw [iv, List.getElem?_map] at e
    obtain ⟨j, hj, rfl⟩ := Option.map_eq_some_iff.mp e
    obtain ⟨jl, _⟩ := mem_kno.mp (List.mem_of_getElem? hj)
    refine ⟨rfl, ?_⟩
    refine ⟨_, rfl, _, rfl, tx r, _, gt r j, rfl, rfl, len6 (hl ▸ hp), atI_gt (hl ▸ jl), rfl, _, rfl, ?_⟩
    have e3 : (!decide (V.str (⟨#[gt r j]⟩ : Str) = V.str "-")) = (gt r j != 45) := by rw [tm, dec_1]; rfl
    rw [e3]
    refine ite2 (fun h => ?_) (fun h => ?_)
    · refine ⟨_, rfl, k1 _ _ (Same.refl _) ?_⟩
      rw [iv_ft _ hj, if_pos h]
    · refine k0 _ (Same.refl _) ?_
      rw [iv_ft _ hj, if_neg h, List.append_nil]
  · have e5 : H3 D = some (.lst (iv ((kno p).filter fun i => gt r i != 45))) := by
      rw [h3, iv_len, List.take_length]
    refine ⟨_, rfl, D, rfl, ⟨_, SqL.of e5⟩, fun D2 hD2 => lc_new walk_list hD2 (fun i => iv ((((kno p).filter fun i => gt r i != 45).take i).filter fun i => gt p i != gt r i)) rfl (fun i hi => ?_) (fun H' s' => SqL.of (s' _ _ e5)) (fun i x H0 H' K1 K0 hi s3 y k1 k0 => ?_) (fun H4 s4 h4 => ?_)⟩
    · refine Nat.le_trans (Nat.le_of_eq (List.length_map _)) (Nat.le_trans (List.length_filter_le _ _) ?_)
      rw [List.length_take]
      have : ((kno p).filter fun i => gt r i != 45).length ≤ (kno p).length := List.length_filter_le _ _
      have : (kno p).length ≤ p.length := siz_le p
      omega
    · obtain ⟨rfl, e⟩ := y
      rw [iv, List.getElem?_map] at e
      obtain ⟨j, hj, rfl⟩ := Option.map_eq_some_iff.mp e
      obtain ⟨jl, _⟩ := mem_kno.mp (List.mem_filter.mp (List.mem_of_getElem? hj)).1
      refine ⟨rfl, ?_⟩
      refine ⟨_, rfl, _, rfl, tx p, _, gt p j, rfl, rfl, len6 hp, atI_gt jl, _, rfl, _, rfl, tx r, _, gt r j, rfl, rfl, len6 (hl ▸ hp), atI_gt (hl ▸ jl), rfl, _, rfl, ?_⟩
      have e3 : (!decide (V.str (⟨#[gt p j]⟩ : Str) = V.str (⟨#[gt r j]⟩ : Str))) = (gt p j != gt r j) := by
        rw [sg_tx (gt r j), dec_1]; rfl
      rw [e3]
      refine ite2 (fun h => ?_) (fun h => ?_)
      · refine ⟨_, rfl, k1 _ _ (Same.refl _) ?_⟩
        rw [iv_ft _ hj, if_pos h]
      · refine k0 _ (Same.refl _) ?_
        rw [iv_ft _ hj, if_neg h, List.append_nil]
    · have s := s1.trans (s2.trans (s3.trans s4))
      refine q D2 _ s ((s1.trans (s2.trans s3)).free hD2) ?_
      rw [h4, iv_len, List.take_length]; rfl
end
end Lk

set_option Elab.async false
set_option linter.all false
set_option maxRecDepth 100000
set_option maxHeartbeats 4000000
/-! LkW3: the class Question: made, its number of positions, its call. -/
namespace Lk
open PySem PySem.Spec PyProof.Rows L2
/-! ### what a question holds -/
/-- the answers that a table gives -/
def wf (n : Nat) (tb : List Nat) (x : Pat) : Int := if tb.getD ((ins n).idxOf x) 0 = 49 then 1 else 0
theorem wf_bi (n : Nat) (tb : List Nat) : Bi (wf n tb) := fun x => by
  unfold wf
  split
  · exact .inr rfl
  · exact .inl rfl
theorem idxOf_get {α : Type} [BEq α] [LawfulBEq α] : ∀ {l : List α} {i : Nat} {x : α}, l.Nodup → l[i]? = some x → l.idxOf x = i
  | [], i, x, _, h => by simp at h
  | a :: l, 0, x, _, h => by
    have e : a = x := Option.some.inj h
    rw [e, List.idxOf_cons_self]
  | a :: l, i + 1, x, hn, h => by
    obtain ⟨n1, n2⟩ := List.nodup_cons.mp hn
    have h' : l[i]? = some x := h
    have hne : ¬ a = x := fun e => n1 (e ▸ List.mem_of_getElem? h')
    rw [List.idxOf_cons, idxOf_get n2 h']
    have : (a == x) = false := by simpa using hne
    rw [this]; rfl
theorem wf_at {n : Nat} {tb : List Nat} {i c : Nat} {x : Pat} (h : (ins n)[i]? = some x) (hc : tb[i]? = some c) : wf n tb x = if c = 49 then 1 else 0 := by
  unfold wf
  rw [idxOf_get (nodup_ins n) h, List.getD_eq_getElem?_getD, hc]; rfl
/-- the dict of the answers -/
def wor (f : Pat → Int) (n : Nat) : List (Key × V) := (ins n).map fun x => (kt x, .int (f x))
def qf (tb : List Nat) (n : Nat) (d l : Addr) : List (Str × V) := [("kept_table", vt tb), ("kept_many", .int (n : Nat)), ("answer_of", .ref d), ("yes", .ref l)]
abbrev Qc (K : PySem.W.Frag) : Addr := He.ga K "Question"
def QAt (K : PySem.W.Frag) (H : Hp) (q : Addr) (f : Pat → Int) (n : Nat) : Prop := ∃ (dx d l : Addr) (tb : List Nat), H q = some (.ins (Qc K) dx (qf tb n d l)) ∧ Rd H d (.dK (wor f n))
theorem QAt.same {K : PySem.W.Frag} {H H' : Hp} {q : Addr} {f : Pat → Int} {n : Nat} (h : QAt K H q f n) (s : Same H H') : QAt K H' q f n := by
  obtain ⟨dx, d, l, tb, h1, h2⟩ := h
  exact ⟨dx, d, l, tb, s _ _ h1, srd s h2⟩
/-- a list changes -/
theorem QAt.lst {K : PySem.W.Frag} {H H' : Hp} {q b : Addr} {f : Pat → Int} {n : Nat} {l : List V} (h : QAt K H q f n) (s : SameBut b H H') (hb : H b = some (.lst l)) : QAt K H' q f n := by
  obtain ⟨dx, d, l2, tb, h1, h2⟩ := h
  refine ⟨dx, d, l2, tb, s _ _ (fun e => by rw [e, hb] at h1; cases h1) h1, ?_⟩
  have hne : d ≠ b := fun e => by
    rw [e] at h2
    rcases h2 with h2 | ⟨o, h2⟩ <;> rw [hb] at h2 <;> cases h2
  rcases h2 with h2 | ⟨o, h2⟩
  · exact .inl (s _ _ hne h2)
  · exact .inr ⟨o, s _ _ hne h2⟩
/-- a dict with the same answers is locked -/
theorem QAt.lock {K : PySem.W.Frag} {H H' : Hp} {q e : Addr} {f : Pat → Int} {n : Nat} {kvs : List (Key × V)} (h : QAt K H q f n) (s : SameBut e H H') (he : H e = some (.dK kvs)) (rd : Rd H' e (.dK (wor f n))) : QAt K H' q f n := by
  obtain ⟨dx, d, l2, tb, h1, h2⟩ := h
  refine ⟨dx, d, l2, tb, s _ _ (fun z => by rw [z, he] at h1; cases h1) h1, ?_⟩
  by_cases c : d = e
  · rw [c]; exact rd
  · rcases h2 with h2 | ⟨o, h2⟩
    · exact .inl (s _ _ c h2)
    · exact .inr ⟨o, s _ _ c h2⟩
theorem lk2 (tb : List Nat) (n : Nat) (d l : Addr) : (qf tb n d l).lookup ("kept_many" : Str) = some (.int (n : Nat)) := by
  unfold qf
  simp only [List.lookup]
  have e : (("kept_many" : Str) == ("kept_table" : Str)) = false := by decide +kernel
  rw [e]
  simp
theorem lk3 (tb : List Nat) (n : Nat) (d l : Addr) : (qf tb n d l).lookup ("answer_of" : Str) = some (.ref d) := by
  unfold qf
  simp only [List.lookup]
  have e : (("answer_of" : Str) == ("kept_table" : Str)) = false := by decide +kernel
  have e2 : (("answer_of" : Str) == ("kept_many" : Str)) = false := by decide +kernel
  rw [e, e2]
  simp
/-! ### promises -/
def spQCall (K : PySem.W.Frag) : Sp := fun vs H Q _ => ∃ (q : Addr) (x : Pat) (f : Pat → Int) (n : Nat), vs = [.ref q, vt x] ∧ QAt K H q f n ∧ n ≤ 6 ∧ x ∈ ins n ∧ RetS H Q (.int (f x))
def spQInit (K : PySem.W.Frag) : Sp := fun vs H Q _ => ∃ (q dx : Addr) (tb : List Nat) (n : Nat), vs = [.ref q, vt tb] ∧ H q = some (.ins (Qc K) dx []) ∧ n ≤ 6 ∧ tb.length = 2 ^ n ∧ (∀ c ∈ tb, c ∈ [48, 49]) ∧
  ∀ H', SameBut q H H' → QAt K H' q (wf n tb) n → Q .non H'
structure BX (P : Program) (w : World) (K : PySem.W.Frag) (mg : Str → Option Value) (base : Heap) : Prop where
  getM : ∃ fd, FnOk P w K mg base CX0 1 (getterAt K (Qc K) "many") fd ["self"] (getSp (Qc K) "kept_many") ∧ Binds K fd ["self"] []
  call : FnR P w K mg base CX0 4 (He.ma K (Qc K) "__call__") (spQCall K)
  init : ∃ fd, FnOk P w K mg base CX0 4 (He.ma K (Qc K) "__init__") fd ["self", "table"] (spQInit K) ∧ Binds K fd ["self", "table"] []
section
variable {X : Cx} {j : Nat} {ta tf : TE} {t : TA} {e fe : Expr} {es : List Expr} {p pos : Pos}
theorem pe_imp {t t' : TE} (h : PE X e t) (i : ∀ σ H Q, t' σ H Q → t σ H Q) : PE X e t' := ⟨fun pins s σ H Q I q => h.run pins s σ H Q I (i σ H Q q)⟩
/-- e.many -/
def tMany (K : PySem.W.Frag) (ta : TE) : TE := fun σ H Q => ta σ H fun x H1 => ∃ (q : Addr) (f : Pat → Int) (n : Nat), x = .ref q ∧ QAt K H1 q f n ∧ Q (.int (n : Nat)) H1
theorem pe_many (T : TX X.K X.mg) (B : BX X.prog X.w X.K X.mg X.base) (hr : Room j X.A) (hk : 2 ≤ j) (i : Nat) {x : Str} (hN : X.N[i]? = some x) (hv : Vis X.env.scope x) (hd : (x == ("__debug__" : Str)) = false := by decide) (hcd : (x == ("__classdict__" : Str)) = false := by decide)
    (hab : attributeBase (.Name x p) "many" X.env (eval (.Name x p) X.env) = eval (.Name x p) X.env := by rfl) : PE X (.Attribute (.Name x p) "many" pos) (tMany X.K (tVar i)) := by
  obtain ⟨fd, F, hb⟩ := B.getM
  refine pe_imp (pe_prop (pe_var hN hv hd hcd) T.cl T.prop F (hr.mono hk) hb .nil pass0 hab) fun σ H Q h => ?_
  obtain ⟨v, e, q, f, n, rfl, ⟨dx, d, l, tb, h1, h2⟩, k⟩ := h
  exact ⟨_, e, q, dx, _, rfl, h1, q, dx, _, _, rfl, h1, lk2 _ _ _ _, k⟩
/-- q(x) -/
def tCallQ (X : Cx) (tf : TE) (t : TA) : TE := StX.tCallO X (Qc X.K) (spQCall X.K) E0 tf t
theorem pe_callQ (T : TX X.K X.mg) (B : BX X.prog X.w X.K X.mg X.base) (hr : Room j X.A) (hk : 4 ≤ j) (hf : PE X fe tf) (ha : PA X (e :: es) t)
    (ht : eval (.Call fe (e :: es) [] pos) X.env = (do callWith pos (← eval fe X.env) [] (backTo pos (starEach (e :: es) X.env)) (backToKw pos (keywordEach [] X.env))) := by rfl)
    (he : starEach (e :: es) X.env = (false, eval e X.env) :: starEach es X.env := by rfl) (hpl : (backTo pos (starEach es X.env)).any (·.1) = false := by rfl) : PE X (.Call fe (e :: es) [] pos) (tCallQ X tf t) :=
  StX.pe_callO hf T.callO B.call (hr.mono hk) pass0 ha ht he hpl
/-- Question(tb) -/
def tMakeQ (K : PySem.W.Frag) (t : TA) : TE := fun σ H Q => t σ H fun vs H1 => ∃ (tb : List Nat) (n : Nat), vs = [vt tb] ∧ n ≤ 6 ∧ tb.length = 2 ^ n ∧ (∀ c ∈ tb, c ∈ [48, 49]) ∧ ∀ q H', Same H1 H' → H1 q = none → QAt K H' q (wf n tb) n → Q (.ref q) H'
theorem pe_makeQ (T : TX X.K X.mg) (B : BX X.prog X.w X.K X.mg X.base) (hr : Room j X.A) (hk : 5 ≤ j) (hg : Gl X "Question") (i : Nat) {x : Str} {p2 : Pos} (hN : X.N[i]? = some x) (hv : Vis X.env.scope x) (hd : (x == ("__debug__" : Str)) = false := by decide) (hcd : (x == ("__classdict__" : Str)) = false := by decide)
    (he : starEach [.Name x p2] X.env = (false, eval (.Name x p2) X.env) :: starEach [] X.env := by rfl) (hpl : (backTo pos (starEach [] X.env)).any (·.1) = false := by rfl) :
    PE X (.Call (.Name "Question" p) [.Name x p2] [] pos) (tMakeQ X.K (tCons (tVar i) tNil)) := by
  obtain ⟨fd, F, hb⟩ := B.init
  refine pe_imp (pe_make T.mkQ F (hr.mono hk) hg T.mgQ hb .nil pass0 (pa_cons (pe_var hN hv hd hcd) pa_nil) (by decide) he hpl) fun σ H Q h => ?_
  obtain ⟨v, ev, tb, n, etb, hn, hl, hb, k⟩ := h
  have evt : v = vt tb := by injection etb
  subst evt
  refine ⟨_, ev, fun q dx nq nd ne => ⟨q, dx, tb, n, rfl, upd_same, hn, hl, hb, fun H' s hq => ⟨rfl, k q H' (fun b o z => ?_) nq hq⟩⟩⟩
  refine s b o (ne_of_none z nq) ?_
  rw [upd_ne (ne_of_none z nq), upd_ne (ne_of_none z nd)]
  exact z
end
section
variable {P : Program} {w : World} {K : PySem.W.Frag} {mg : Str → Option Value} {base : Heap}
theorem mkFn {x qual : Str} {st : Stmt} {N ps : List Str} {k : Nat} {sp : Sp} {f : Addr} {fd : FuncData} (F : FunD K x qual (defArgs st) (defBody st) (defScope st) [] [] f fd) (S : FnScope N ps (defScope st))
    (len : ∀ vs H Q E, sp vs H Q E → vs.length = ps.length)
    (body : ∀ (cdv : Value) (A : Around) (outer : List Env) (s : Shared) (H : Hp) (vs : List V) (Q : VK) (E : XK), Room k (A.deeper (envOfC qual (defScope st) s.heap.objs.size f cdv)) → sp vs H Q E →
      ∃ t, PSs (cxOf CX0 P w K mg base N qual (defScope st) f cdv A outer s H E).nox (defBody st) t ∧ t { nx := fun _ H' => Q .non H', rt := Q } (start N vs) H) : FnOk P w K mg base CX0 (k + 1) f fd ps sp := by
  refine F.ok S len (fun cdv A outer s H vs Q E hr hs => ?_)
  obtain ⟨t, h, q⟩ := body cdv A outer s H vs Q E hr hs
  exact ⟨t, h.nox, q⟩
/-! ### is_table -/
def spIsTable : Sp := fun vs H Q _ => ∃ (tb : List Nat) (n : Nat), vs = [vt tb] ∧ n ≤ 6 ∧ tb.length = 2 ^ n ∧ (∀ c ∈ tb, c ∈ [48, 49]) ∧ RetS H Q (.bl true)
theorem sc_is_table : FnScope ["value", "sign"] ["value"] (defScope s_is_table) := ⟨rfl, rfl, rfl, by decide +kernel, rfl, by decide +kernel, by decide +kernel⟩
theorem ok_is_table (T : TX K mg) (D : DF K mg "is_table" s_is_table) : Cal P w K mg base 1 "is_table" spIsTable := by
  refine mkCal D sc_is_table (fun _ _ _ _ _ _ us hl => match us, hl with | [_], _ => rfl) (fun vs H Q E h => ?_) (fun f cdv A outer s H vs Q E hr h => ?_)
  · obtain ⟨p, n, rfl, _⟩ := h; rfl
  obtain ⟨tb, n, rfl, hn, hl, hs, q⟩ := h
  have hl64 : tb.length ≤ 64 := by
    rw [hl]
    exact Nat.pow_le_pow_right (n := 2) (by decide) hn
  refine ⟨_, (pss_one (ps_ret (pe_and (pe_callB call_isi (by rfl) T.f_isinstance (by decide +kernel) (pa_cons (pv 0) (pa_cons (pe_tyv (n := "str") (by rfl) T.f_str (by decide +kernel)) pa_nil))) (pe_and (pe_cmpR op_in_seq (pe_callB call_len_str (by rfl) T.f_len PySem.boot_len (pa_cons (pv 0) pa_nil)) (pe_gc rfl T.cSIZES) (by with_unfolding_all rfl)) (pe_one (pe_callB (cr_all rfl) (by rfl) T.f_all (by decide +kernel) (pa_cons (pe_lc (own := [("sign", 1)]) rfl sc_is_table.nd (pi_str (pv 0)) (blkOk_by (own := [("sign", 1)]) (N := ["value", "sign"]) (sc := defScope s_is_table) (by decide +kernel)) (fun _ _ _ _ _ => (pg_name (i := 1) sc_is_table.nd rfl (Or.inl rfl) (Or.inr rfl))) (fun _ _ _ _ _ => pts_nil) (fun _ _ _ _ _ => (pe_cmpR op_in_sign (pv 1) (pe_gc rfl T.cBITS) rfl))) pa_nil))))))), ?_⟩
  refine ⟨_, rfl, _, _, _, _, true, rfl, .ty "str", .base (.str _), kit_ty (by decide +kernel), true, rfl, iteT ?_⟩
  refine ⟨_, rfl, _, rfl, len6 hl64, _, _, rfl, .inr (T.sizes _), rfl, rfl, ?_⟩
  have e : (if false = true then !inV (V.int ((tx tb).length : Nat)) ([1, 2, 4, 8, 16, 32, 64].map V.int) else inV (V.int ((tx tb).length : Nat)) ([1, 2, 4, 8, 16, 32, 64].map V.int)) = true := by
    rw [if_neg Bool.false_ne_true, tx_len, hl]
    have hc : n = 0 ∨ n = 1 ∨ n = 2 ∨ n = 3 ∨ n = 4 ∨ n = 5 ∨ n = 6 := by omega
    rcases hc with h | h | h | h | h | h | h <;> subst h <;> decide +kernel
  rw [e]
  refine ⟨true, rfl, iteT ?_⟩
  refine ⟨_, rfl, _, rfl, fun D hD => lc_new walk_str hD (fun i => List.replicate i (.bl true)) rfl (fun i hi => ?_) (fun _ _ => trivial) (fun i x H1 H' K1 K0 hi s1 y k1 k0 => ?_) (fun H1 s1 h1 => ?_)⟩
  · rw [List.length_replicate]
    have : (tx tb).cps.size = tb.length := tx_len tb
    omega
  · obtain ⟨rfl, c, hc, rfl⟩ := y
    refine ⟨rfl, yes ?_⟩
    have hm : c ∈ [48, 49] := hs c (by rw [cps_get] at hc; exact List.mem_of_getElem? hc)
    refine ⟨_, rfl, c, tx [48, 49], rfl, rfl, ?_⟩
    rw [tx_cps, decide_eq_true hm]
    exact k1 _ _ (Same.refl _) (List.replicate_succ' ..)
  · refine ⟨D, List.replicate (tx tb).cps.size true, rfl, SqL.of (by rw [h1, List.map_replicate]), ?_⟩
    have e2 : (List.replicate (tx tb).cps.size true).all id = true := by simp
    rw [e2]
    exact q _ s1
/-! ### __call__ -/
theorem sc_Q__call : FnScope ["self", "text"] ["self", "text"] (defScope s_Qcall) := ⟨rfl, rfl, rfl, by decide +kernel, rfl, by decide +kernel, by decide +kernel⟩
theorem ok_Qcall (T : TX K mg) {f : Addr} {fd : FuncData} (F : FunD K "__call__" "Question.__call__" (defArgs s_Qcall) (defBody s_Qcall) (defScope s_Qcall) [] [] f fd) (C_need_input : Cal P w K mg base 3 "need_input" spNeedInput) : FnOk P w K mg base CX0 4 f fd ["self", "text"] (spQCall K) := by
  refine mkFn F sc_Q__call (fun vs H Q E h => ?_) (fun cdv A outer s H vs Q E hr h => ?_)
  · obtain ⟨q, x, f, n, rfl, _⟩ := h; rfl
  obtain ⟨q, x, f, n, rfl, hq, hn, hx, k⟩ := h
  obtain ⟨dx, d, l, tb, h1, h2⟩ := id hq
  have hxl := len_ins hx
  have hxs : ∀ c ∈ x, c ∈ [48, 49] := (mem_stg.mp hx).2
  refine ⟨_, (pss_cons (ps_expr (pe_c C_need_input (by exact hr) (by decide) (by rfl) (pa_cons (pv 1) (pa_cons (pe_fld (pv 0) (by rfl)) pa_nil))))
      (pss_one (ps_ret (pe_dget (by exact hu_of hr) (pe_fld (pv 0) (by rfl)) (pv 1) (by intro _ _; rfl))))), ?_⟩
  refine ⟨_, rfl, _, rfl, q, _, dx, _, _, rfl, h1, T.cl, T.n2, lk2 _ _ _ _, x, by rw [hxl]; rfl, by omega, hxs, fun H1 s1 => ?_⟩
  refine ⟨_, rfl, q, _, dx, _, _, rfl, s1 _ _ h1, T.cl, T.n3, lk3 _ _ _ _, _, rfl, d, _, rfl, .inl ⟨_, kt x, srd s1 h2, rfl, ?_⟩, k _ s1⟩
  rw [wor, valV_map, if_pos hx]
end
end Lk

set_option Elab.async false
set_option linter.all false
set_option maxRecDepth 100000
set_option maxHeartbeats 4000000
/-! LkW4: a question is made. -/
namespace Lk
open PySem PySem.Spec PyProof.Rows L2
abbrev nmT : Str := "kept_table"
abbrev nmM : Str := "kept_many"
abbrev nmA : Str := "answer_of"
abbrev nmY : Str := "yes"
/-! ### rules whose reading names the frame, for use in a comprehension -/
section
variable {X : Cx} {K : PySem.W.Frag} {e a : Expr} {ta : TE} {f : Str} {pos p : Pos}
theorem pe_fldK (he : PE X e ta) (hb : attributeBase e f X.env (eval e X.env) = eval e X.env) (hK : X.K = K := by rfl) : PE X (.Attribute e f pos) (tFld K ta f) := hK ▸ pe_fld he hb
theorem ix_listK (hK : X.K = K := by rfl) : IxR X (rIxL K) := hK ▸ ix_list
theorem ix_tupK (hK : X.K = K := by rfl) : IxR X (rIxT K) := hK ▸ ix_tup
theorem ix_seqK (hK : X.K = K := by rfl) : IxR X (rIx K) := hK ▸ ix_seq
theorem op_in_seqK (hK : X.K = K := by rfl) : OpR X (compareOp .In) (rIn K false) := hK ▸ op_in_seq
theorem op_notIn_seqK (hK : X.K = K := by rfl) : OpR X (compareOp .NotIn) (rIn K true) := hK ▸ op_notIn_seq
theorem call_len_seqK (hK : X.K = K := by rfl) : CallR X (.builtin "len") (fun xs H Q => ∃ p ys, xs = [.ref p] ∧ (SqL K H p ys ∨ SqT K H p ys) ∧ Q (.int ys.length) H) := hK ▸ call_len_seq
theorem pe_tupleOfK (hg : Gl X "tuple") (hm : X.mg "tuple" = none) (ha : PE X a ta) (na : starEach [a] X.env = (false, eval a X.env) :: starEach [] X.env := by rfl) (hK : X.K = K := by rfl) :
    PE X (.Call (.Name "tuple" p) [a] [] pos) (tThen ta (kTup K)) := hK ▸ pe_tupleOf hg hm ha na
end
theorem putF0 (v : V) : putF nmT v [] = [(nmT, v)] := rfl
theorem putF1 (a v : V) : putF nmM v [(nmT, a)] = [(nmT, a), (nmM, v)] := by
  unfold putF
  rw [if_neg (by decide +kernel)]; rfl
theorem putF2 (a b v : V) : putF nmA v [(nmT, a), (nmM, b)] = [(nmT, a), (nmM, b), (nmA, v)] := by
  unfold putF
  rw [if_neg (by decide +kernel)]
  unfold putF
  rw [if_neg (by decide +kernel)]; rfl
theorem putF3 (a b c v : V) : putF nmY v [(nmT, a), (nmM, b), (nmA, c)] = [(nmT, a), (nmM, b), (nmA, c), (nmY, v)] := by
  unfold putF
  rw [if_neg (by decide +kernel)]
  unfold putF
  rw [if_neg (by decide +kernel)]
  unfold putF
  rw [if_neg (by decide +kernel)]; rfl
theorem lkA (a b : V) : [(("kept_table" : Str), a), ("kept_many", b)].lookup ("kept_many" : Str) = some b := by
  simp only [List.lookup]
  have e : (("kept_many" : Str) == ("kept_table" : Str)) = false := by decide +kernel
  rw [e]; simp
theorem lkB (a b c : V) : [(("kept_table" : Str), a), ("kept_many", b), ("answer_of", c)].lookup ("kept_many" : Str) = some b := by
  simp only [List.lookup]
  have e : (("kept_many" : Str) == ("kept_table" : Str)) = false := by decide +kernel
  rw [e]; simp
theorem lkC (a b c : V) : [(("kept_table" : Str), a), ("kept_many", b), ("answer_of", c)].lookup ("answer_of" : Str) = some c := by
  simp only [List.lookup]
  have e : (("answer_of" : Str) == ("kept_table" : Str)) = false := by decide +kernel
  have e2 : (("answer_of" : Str) == ("kept_many" : Str)) = false := by decide +kernel
  rw [e, e2]; simp
theorem putK_snoc {h : Pat → V} {l : List Pat} {p : Pat} {v : V} (hp : p ∉ l) : putK (l.map fun p => (kt p, h p)) (kt p) v = (l.map fun p => (kt p, h p)) ++ [(kt p, v)] :=
  putK_new v (by rw [valV_map, if_neg hp])
theorem sizes_at {n : Nat} (h : n ≤ 6) : ((2 ^ n : Nat) : Int) ∈ ([1, 2, 4, 8, 16, 32, 64] : List Int) ∧ ([1, 2, 4, 8, 16, 32, 64] : List Int).idxOf ((2 ^ n : Nat) : Int) = n := by
  have hc : n = 0 ∨ n = 1 ∨ n = 2 ∨ n = 3 ∨ n = 4 ∨ n = 5 ∨ n = 6 := by omega
  rcases hc with h | h | h | h | h | h | h <;> subst h <;> decide +kernel
theorem idxOf_nd {α : Type} {l : List α} (hn : l.Nodup) {i j : Nat} {x : α} (h : l[i]? = some x) (h2 : l[j]? = some x) : i = j := by
  classical
  rw [← idxOf_get hn h, idxOf_get hn h2]
/-- a place of a list without doubles is not among the earlier ones -/
theorem fresh_at {α : Type} {l : List α} (hn : l.Nodup) {i : Nat} {x : α} (h : l[i]? = some x) : x ∉ l.take i := by
  intro m
  obtain ⟨j, hj, e⟩ := List.mem_iff_getElem.mp m
  rw [List.length_take] at hj
  have e2 : l[j]? = some x := by
    rw [List.getElem_take] at e
    rw [List.getElem?_eq_getElem (by omega), e]
  obtain ⟨hi, e3⟩ := List.getElem?_eq_some_iff.mp h
  obtain ⟨hj2, e4⟩ := List.getElem?_eq_some_iff.mp e2
  have e5 := idxOf_nd hn h e2
  omega
theorem fil_snoc {α β : Type} (g : α → Bool) (h : α → β) {l : List α} {i : Nat} {x : α} (hx : l[i]? = some x) : ((l.take (i + 1)).filter g).map h = ((l.take i).filter g).map h ++ (if g x = true then [h x] else []) := by
  have e : l.take (i + 1) = l.take i ++ [x] := by rw [List.take_add_one, hx]; rfl
  rw [e, List.filter_append, List.map_append]
  congr 1
  by_cases k : g x = true
  · rw [if_pos k, List.filter_cons_of_pos k]; rfl
  · rw [if_neg k, List.filter_cons_of_neg k]; rfl
theorem take_snoc {α : Type} {l : List α} {i : Nat} {x : α} (h : l[i]? = some x) : l.take (i + 1) = l.take i ++ [x] := by
  rw [List.take_add_one, h]; rfl
section
variable {P : Program} {w : World} {K : PySem.W.Frag} {mg : Str → Option Value} {base : Heap}
theorem sc_Q__init : FnScope ["self", "table", "text", "sign"] ["self", "table"] (defScope s_Qinit) := ⟨rfl, rfl, rfl, by decide +kernel, rfl, by decide +kernel, by decide +kernel⟩
theorem ok_Qinit (T : TX K mg) {f : Addr} {fd : FuncData} (F : FunD K "__init__" "Question.__init__" (defArgs s_Qinit) (defBody s_Qinit) (defScope s_Qinit) [] [] f fd) (C_is_table : Cal P w K mg base 1 "is_table" spIsTable) (C_inputs : Cal P w K mg base 3 "inputs" spInputs) : FnOk P w K mg base CX0 4 f fd ["self", "table"] (spQInit K) := by
  refine mkFn F sc_Q__init (fun vs H Q E h => ?_) (fun cdv A outer s H vs Q E hr h => ?_)
  · obtain ⟨q, dx, tb, n, rfl, _⟩ := h; rfl
  obtain ⟨q, dx, tb, n, rfl, hq, hn, hl, hs, k⟩ := h
  have hn64 : 2 ^ n ≤ 64 := Nat.pow_le_pow_right (n := 2) (by decide) hn
  obtain ⟨z1, z2⟩ := sizes_at hn
  refine ⟨_, (pss_cons (ps_if (pt_not (pt_val (pe_c C_is_table (by exact hr) (by decide) (by rfl) (pa_cons (pv 1) pa_nil)))) pss_never pss_nil)
      (pss_cons (ps_fld (pv 0) (pv 1) rfl)
      (pss_cons (ps_fld (pv 0) (pe_bm PySem.F.plainAttrs_tuple PySem.F.slot_tuple_index PySem.F.type_tuple_index mt_tup_indexI (pe_gc rfl T.cSIZES) (pa_cons (pe_callB call_len_str (by rfl) T.f_len PySem.boot_len (pa_cons (pv 1) pa_nil)) pa_nil)) rfl)
      (pss_cons (ps_fld (pv 0) (pe_dc (own := [("text", 2), ("sign", 3)]) (g := gTup K 2 (gCons (gName 2) (gCons (gName 3) gNil))) rfl sc_Q__init.nd (pi_zipS (by rfl) T.f_zip (pa_cons (pe_c C_inputs (by exact hr) (by decide) (by rfl) (pa_cons (pe_fld (pv 0) (by rfl)) pa_nil)) (pa_cons (pv 1) pa_nil))) (blkOk_by (own := [("text", 2), ("sign", 3)]) (N := ["self", "table", "text", "sign"]) (sc := defScope s_Qinit) (by decide +kernel)) (fun _ _ _ _ _ => (pg_tup rfl (pgs_cons (pg_name (i := 2) sc_Q__init.nd rfl (Or.inl rfl) (Or.inr rfl)) (pgs_cons (pg_name (i := 3) sc_Q__init.nd rfl (Or.inl rfl) (Or.inr rfl)) pgs_nil)))) (fun _ _ _ _ _ => pts_nil) (fun _ _ _ _ _ => (pv 2)) (fun _ _ _ _ _ => (pe_callTy call_int_str (by rfl) T.f_int (by decide +kernel) (pa_cons (pv 3) pa_nil)))) rfl)
      (pss_one (ps_fld (pv 0) (pe_lc (own := [("text", 2)]) rfl sc_Q__init.nd (pi_list (pe_c C_inputs (by exact hr) (by decide) (by rfl) (pa_cons (pe_fld (pv 0) (by rfl)) pa_nil))) (blkOk_by (own := [("text", 2)]) (N := ["self", "table", "text", "sign"]) (sc := defScope s_Qinit) (by decide +kernel)) (fun _ _ _ _ _ => (pg_name (i := 2) sc_Q__init.nd rfl (Or.inl rfl) (Or.inr rfl))) (fun _ _ _ _ _ => (pts_one (pt_cmpR op_eq (pe_dget (by exact hu_of hr) (pe_fldK (K := K) (pv 0) (by rfl)) (pv 2) (by intro _ _; rfl)) pe_int (nomark _)))) (fun _ _ _ _ _ => (pv 2))) rfl)))))), ?_⟩
  refine ⟨_, rfl, tb, n, rfl, hn, hl, hs, fun H1 s1 => ?_⟩
  refine ⟨true, rfl, iteF ?_⟩
  refine ⟨_, rfl, _, rfl, q, _, dx, [], rfl, s1 _ _ hq, T.cl, T.n1, by decide, ?_⟩
  rw [putF0]
  have tyS : tyV K "tuple" (V.ref (He.ga K "SIZES")) (upd H1 q (.ins (Qc K) dx [(nmT, vt tb)])) := by
    exact .inr (.inl ⟨rfl, T.tyS⟩)
  refine ⟨tyS, _, rfl, _, rfl, len6 (n := 64) (by omega), _, _, _, rfl, rfl, T.sizes _, ?_, _, rfl, q, _, dx, _, rfl, upd_same, T.cl, T.n2, by show 1 < 1000; decide, ?_⟩
  · rw [tx_len, hl]; exact z1
  rw [tx_len, hl, z2, putF1]
  -- answer_of
  refine ⟨_, rfl, q, _, dx, _, _, rfl, upd_same, T.cl, T.n2, lkA _ _, n, rfl, hn, fun r H3 s3 r0 hr3 => ?_⟩
  have hinl : (ins n).length = 2 ^ n := length_ins n
  have hq3 := s3 _ _ upd_same
  refine ⟨_, rfl, r, tx tb, _, rfl, SqL.of hr3, fun D hD => dc_new (walk_zipS (by rw [List.length_map, hinl]; exact hl.symm.trans (tx_len tb).symm)) hD (fun i => wor (wf n tb) n |>.take i) rfl (fun i hi => ?_) (fun H' s' => SqL.of (s' _ _ hr3)) (fun i x H0 H' K1 K0 hi s4 y k1 k0 => ?_) (fun H4 s4 h4 => ?_)⟩
  · rw [List.length_take, wor, List.length_map, hinl]; omega
  · obtain ⟨T0, a, b, rfl, hT, rfl, e1, e2⟩ := y
    dsimp only at e1 e2
    rw [List.getElem?_map] at e1
    obtain ⟨x, hx, rfl⟩ := Option.map_eq_some_iff.mp e1
    rw [cps_get] at e2
    obtain ⟨c, hc, rfl⟩ := Option.map_eq_some_iff.mp e2
    refine ⟨T0, _, rfl, SqT.of upd_same, rfl, _, _, rfl, _, _, rfl, rfl, rfl, yes ?_⟩
    have hcm : c = 48 ∨ c = 49 := by simpa using hs c (List.mem_of_getElem? hc)
    have key : ∀ v : Int, v = wf n tb x → K1 (kV (kt x)) (.int v) (upd H0 T0 (.tup [vt x, .str ⟨#[c]⟩])) := fun v hv => by
      refine k1 _ _ _ (same_new hT _) ?_
      have e : (wor (wf n tb) n)[i]? = some (kt x, .int (wf n tb x)) := by rw [wor, List.getElem?_map, hx]; rfl
      rw [take_snoc e, hv]
      have e3 : (wor (wf n tb) n).take i = ((ins n).take i).map fun x => (kt x, V.int (wf n tb x)) := List.map_take.symm
      rw [e3]
      exact (putK_snoc (fresh_at (nodup_ins n) hx)).symm
    rcases hcm with rfl | rfl
    · exact ⟨_, rfl, _, rfl, tx [48], 0, rfl, int0, by decide, key 0 (by rw [wf_at hx hc]; rfl)⟩
    · exact ⟨_, rfl, _, rfl, tx [49], 1, rfl, int1, by decide, key 1 (by rw [wf_at hx hc]; rfl)⟩
  rw [List.take_of_length_le (by rw [List.length_map, wor, List.length_map]; exact Nat.le_refl _)] at h4
  have hq4 := s4 _ _ hq3
  refine ⟨_, rfl, q, _, dx, _, rfl, hq4, T.cl, T.n3, by show 2 < 1000; decide, ?_⟩
  rw [putF2]
  have hqD : D ≠ q := fun e => by rw [e, hq3] at hD; cases hD
  -- yes
  refine ⟨_, rfl, q, _, dx, _, _, rfl, upd_same, T.cl, T.n2, lkB _ _ _, n, rfl, hn, fun r5 H5 s5 r50 hr5 => ?_⟩
  have hq5 := s5 _ _ upd_same
  have hd5 : H5 D = some (.dK (wor (wf n tb) n)) := s5 _ _ (by rw [upd_ne hqD]; exact h4)
  refine ⟨r5, rfl, ⟨_, SqL.of hr5⟩, fun D6 hD6 => lc_new walk_list hD6 (fun i => ((ins n).take i |>.filter fun x => decide (wf n tb x = 1)).map vt) rfl (fun i hi => ?_) (fun H' s' => SqL.of (s' _ _ hr5)) (fun i x H0 H' K1 K0 hi s6 y k1 k0 => ?_) (fun H6 s6 h6 => ?_)⟩
  · rw [List.length_map]
    refine Nat.le_trans (List.length_filter_le _ _) ?_
    rw [List.length_take, hinl]; omega
  · obtain ⟨rfl, e⟩ := y
    rw [List.getElem?_map] at e
    obtain ⟨x, hx, rfl⟩ := Option.map_eq_some_iff.mp e
    refine ⟨rfl, ?_⟩
    refine ⟨_, rfl, q, _, dx, _, _, rfl, s6 _ _ hq5, T.cl, T.n3, lkC _ _ _, _, rfl, D, .int (wf n tb x), rfl, .inl ⟨_, kt x, .inl (s6 _ _ hd5), rfl, ?_⟩, rfl, _, rfl, ?_⟩
    · rw [wor, valV_map, if_pos (List.mem_of_getElem? hx)]
    rw [dec_i]
    refine ite2 (fun h => ?_) (fun h => ?_)
    · refine ⟨_, rfl, k1 _ _ (Same.refl _) ?_⟩
      rw [fil_snoc _ _ hx, if_pos h]
    · refine k0 _ (Same.refl _) ?_
      rw [fil_snoc _ _ hx, if_neg h, List.append_nil]
  have hq6 := s6 _ _ hq5
  refine ⟨_, rfl, q, _, dx, _, rfl, hq6, T.cl, T.n4, by show 3 < 1000; decide, ?_⟩
  rw [putF3]
  refine k _ ?_ ⟨dx, D, D6, tb, upd_same, .inl (by rw [upd_ne hqD]; exact s6 _ _ hd5)⟩
  have b1 : SameBut q H (upd (upd H1 q (.ins (Qc K) dx [(nmT, vt tb)])) q (.ins (Qc K) dx [(nmT, vt tb), (nmM, .int (n : Nat))])) := (sbut s1).trans ((SameBut.upd _ _ _).trans (SameBut.upd _ _ _))
  have b2 := ((b1.trans (sbut s3)).trans (sbut s4)).trans (SameBut.upd q _ (.ins (Qc K) dx [(nmT, vt tb), (nmM, .int (n : Nat)), (nmA, .ref D)]))
  exact ((b2.trans (sbut s5)).trans (sbut s6)).trans (SameBut.upd _ _ _)
theorem mkBX (T : TX K mg) {fi fm fc : FuncData} (Fi : FunD K "__init__" "Question.__init__" (defArgs s_Qinit) (defBody s_Qinit) (defScope s_Qinit) [] [] (He.ma K (Qc K) "__init__") fi)
    (Fm : FunD K "many" "Question.many" (defArgs s_Qmany) (defBody s_Qmany) (defScope s_Qmany) [] [] (getterAt K (Qc K) "many") fm)
    (Fc : FunD K "__call__" "Question.__call__" (defArgs s_Qcall) (defBody s_Qcall) (defScope s_Qcall) [] [] (He.ma K (Qc K) "__call__") fc)
    (C_is_table : Cal P w K mg base 1 "is_table" spIsTable) (C_inputs : Cal P w K mg base 3 "inputs" spInputs) (C_need_input : Cal P w K mg base 3 "need_input" spNeedInput) : BX P w K mg base := by
  refine ⟨⟨fm, ?_, Fm.bindsN (fun _ _ _ _ _ _ us hl => match us, hl with | [_], _ => rfl)⟩, ?_, fi, ok_Qinit T Fi C_is_table C_inputs, Fi.bindsN (fun _ _ _ _ _ _ us hl => match us, hl with | [_, _], _ => rfl)⟩
  · refine mkFn (N := ["self"]) Fm ⟨rfl, rfl, rfl, by decide +kernel, rfl, by decide +kernel, by decide +kernel⟩ (fun vs H Q E h => ?_) (fun cdv A outer s H vs Q E hr h => ?_)
    · obtain ⟨q, dx, fs, v, rfl, _⟩ := h; rfl
    obtain ⟨q, dx, fs, v, rfl, h1, h2, k⟩ := h
    refine ⟨_, (pss_one (ps_ret (pe_fld (pe_var (i := 0) rfl (Or.inl rfl)) rfl))), ?_⟩
    exact ⟨_, rfl, q, _, dx, _, _, rfl, h1, T.cl, T.n2, h2, k⟩
  · exact FnR.imp ((ok_Qcall T Fc C_need_input).raw (Fc.bindsN (fun _ _ _ _ _ _ us hl => match us, hl with | [_, _], _ => rfl)) .nil) fun vs H Q E h => by rw [List.append_nil]; exact h
end
end Lk

set_option Elab.async false
set_option linter.all false
set_option maxRecDepth 100000
set_option maxHeartbeats 4000000
/-! LkW5: the settling patterns. -/
namespace Lk
open PySem PySem.Spec PyProof.Rows L2
section
variable (f : Pat → Int) (n : Nat)
def stk (l : List Pat) : List (Key × V) := (l.filter fun p => (st f n p).isSome).map fun p => (kt p, .int ((st f n p).getD 0))
/-- the dict of the settling patterns -/
def setd : List (Key × V) := stk f n (pats n)
end
section
variable {f : Pat → Int} {n : Nat}
theorem val_stk {q : Pat} {l : List Pat} (m : q ∈ l) : valV (stk f n l) (kt q) = (st f n q).map V.int := by
  unfold stk
  rw [valV_map]
  cases e : st f n q with
  | none => rw [if_neg (fun h => by have := (List.mem_filter.mp h).2; rw [e] at this; cases this)]; rfl
  | some b => rw [if_pos (List.mem_filter.mpr ⟨m, by rw [e]; rfl⟩)]; rfl
theorem stk_snoc {l : List Pat} {i : Nat} {p : Pat} (h : l[i]? = some p) : stk f n (l.take (i + 1)) = stk f n (l.take i) ++ (if (st f n p).isSome = true then [(kt p, .int ((st f n p).getD 0))] else []) :=
  fil_snoc _ _ h
theorem stk_put {l : List Pat} (hn : l.Nodup) {i : Nat} {p : Pat} (h : l[i]? = some p) {b : Int} (e : st f n p = some b) : putK (stk f n (l.take i)) (kt p) (.int b) = stk f n (l.take (i + 1)) := by
  rw [stk_snoc h, e]
  refine putK_snoc fun m => fresh_at hn h (List.mem_filter.mp m).1
theorem stk_len (l : List Pat) : (stk f n l).length ≤ l.length := by
  rw [stk, List.length_map]
  exact List.length_filter_le _ _
theorem stk_keys (l : List Pat) : (stk f n l).map (·.1) = ((l.filter fun p => (st f n p).isSome).map tx).map Sum.inr := by
  rw [stk, List.map_map, List.map_map]; rfl
end
theorem sorted_eq {g : Pat → Bool} {n : Nat} {ys : List Str} (h : ys.Perm (((pats n).reverse.filter g).map tx)) (hp : ys.Pairwise fun x y : Str => x.cps.toList ≤ y.cps.toList) : ys = ((pats n).filter g).map tx := by
  refine List.Perm.eq_of_pairwise (le := fun x y : Str => x.cps.toList ≤ y.cps.toList) (fun a b _ _ h1 h2 => ext_tx (List.le_antisymm h1 h2)) hp ?_ ?_
  · rw [List.pairwise_map]
    exact List.Pairwise.imp (fun q => List.le_of_lt q) (List.Pairwise.filter _ (sorted_pats n))
  · refine h.trans (List.Perm.map _ ?_)
    exact List.Perm.filter _ (List.reverse_perm _)
theorem pats_small {n : Nat} (hn : n ≤ 6) : (pats n).length ≤ 729 := by
  rw [length_pats]
  exact Nat.pow_le_pow_right (n := 3) (by decide) hn
theorem pats_sign {n : Nat} {p : Pat} (h : p ∈ pats n) : ∀ c ∈ p, c ∈ [45, 48, 49] := (mem_stg.mp h).2
theorem atI0 {α : Type} (v : α) (l : List α) : atI (v :: l) 0 = some v := atI_nat (xs := v :: l) (j := 0) rfl
section
variable {P : Program} {w : World} {K : PySem.W.Frag} {mg : Str → Option Value} {base : Heap}
def spSettling (K : PySem.W.Frag) : Sp := fun vs H Q _ => ∃ (q : Addr) (f : Pat → Int) (n : Nat), vs = [.ref q] ∧ QAt K H q f n ∧ Bi f ∧ n ≤ 6 ∧ RetN H Q (.dK (setd f n))
theorem sc_settling_patterns : FnScope ["question", "found", "pattern", "spots", "position", "sign", "low", "high"] ["question"] (defScope s_settling_patterns) := ⟨rfl, rfl, rfl, by decide +kernel, rfl, by decide +kernel, by decide +kernel⟩
theorem ok_settling_patterns (T : TX K mg) (B : BX P w K mg base) (D : DF K mg "settling_patterns" s_settling_patterns) (C_patterns : Cal P w K mg base 3 "patterns" spPatterns) (C_put : Cal P w K mg base 1 "put" spPut) : Cal P w K mg base 5 "settling_patterns" (spSettling K) := by
  refine mkCal D sc_settling_patterns (fun _ _ _ _ _ _ us hl => match us, hl with | [_], _ => rfl) (fun vs H Q E h => ?_) (fun fa cdv A outer s H vs Q E hr h => ?_)
  · obtain ⟨q, f, n, rfl, _⟩ := h; rfl
  obtain ⟨q, f, n, rfl, hq, hf, hn, k⟩ := h
  have hp729 := pats_small hn
  refine ⟨_, (pss_cons (ps_set (i := 1) sc_settling_patterns.nd rfl (Or.inr rfl) pe_dnewK)
      (pss_cons (ps_for PassesOwn.never rfl (pi_list (pe_revL (pe_c C_patterns (by exact hr) (by decide) (by rfl) (pa_cons (pe_many T B hr (by decide) 0 rfl (by first | exact Or.inl rfl | exact Or.inr (Or.inl rfl))) pa_nil)))) (pg_name (i := 2) sc_settling_patterns.nd rfl (Or.inl rfl) (Or.inr rfl)) (pss_cons (ps_setLc (i := 3) (own := [("position", 4), ("sign", 5)]) (g := gTup K 2 (gCons (gName 4) (gCons (gName 5) gNil))) rfl sc_settling_patterns.nd rfl rfl (sw_true rfl rfl rfl (by decide +kernel)) (pi_enumS (by rfl) T.f_enumerate (pa_cons (pv 2) pa_nil)) (blkOk_by (own := [("position", 4), ("sign", 5)]) (N := ["question", "found", "pattern", "spots", "position", "sign", "low", "high"]) (sc := defScope s_settling_patterns) (by decide +kernel)) (fun _ _ _ _ _ => (pg_tup rfl (pgs_cons (pg_name (i := 4) sc_settling_patterns.nd rfl (Or.inl rfl) (Or.inr rfl)) (pgs_cons (pg_name (i := 5) sc_settling_patterns.nd rfl (Or.inl rfl) (Or.inr rfl)) pgs_nil)))) (fun _ _ _ _ _ => (pts_one (pt_cmpR op_eq (pv 5) pe_str (nomark _)))) (fun _ _ _ _ _ => (pv 4)))
      (pss_cons (ps_if (pt_cmpR op_eq (pe_callB call_len_seq (by rfl) T.f_len PySem.boot_len (pa_cons (pv 3) pa_nil)) pe_int (nomark _)) (pss_cons (ps_dput (hu_of hr) (pv 1) (pv 2) (pe_callQ T B (by exact hr) (by decide) (pv 0) (pa_cons (pv 2) pa_nil)) rfl)
      (pss_one ps_continue)) pss_nil)
      (pss_cons (ps_par (i := 6) (j := 7) (by rfl) sc_settling_patterns.nd rfl rfl (by decide) rfl rfl (pa_cons (pe_c C_put (by exact hr) (by decide) (by rfl) (pa_cons (pv 2) (pa_cons (pe_ix ix_list (pv 3) pe_int (by intro _ _; rfl)) (pa_cons pe_str pa_nil)))) (pa_cons (pe_c C_put (by exact hr) (by decide) (by rfl) (pa_cons (pv 2) (pa_cons (pe_ix ix_list (pv 3) pe_int (by intro _ _; rfl)) (pa_cons pe_str pa_nil)))) pa_nil)) (by rfl))
      (pss_one (ps_if (PW.pt (pw_and (pt_cmp (pc_din (by exact hu_of hr) (pv 6) (pv 1))) (pw_and (pt_cmp (pc_din (by exact hu_of hr) (pv 7) (pv 1))) (pw_and1 (pt_cmpR op_eq (pe_dget (by exact hu_of hr) (pv 1) (pv 6) (by intro _ _; rfl)) (pe_dget (by exact hu_of hr) (pv 1) (pv 7) (by intro _ _; rfl)) (nomark _)))))) (pss_one (ps_dput (hu_of hr) (pv 1) (pv 2) (pe_dget (by exact hu_of hr) (pv 1) (pv 6) (by intro _ _; rfl)) rfl)) pss_nil))))))
      (pss_one (ps_ret (pe_dc (own := [("pattern", 2)]) rfl sc_settling_patterns.nd (pi_list (pe_callB (call_sortedDA rfl hr.units) (by rfl) T.f_sorted (by decide +kernel) (pa_cons (pv 1) pa_nil))) (blkOk_by (own := [("pattern", 2)]) (N := ["question", "found", "pattern", "spots", "position", "sign", "low", "high"]) (sc := defScope s_settling_patterns) (by decide +kernel)) (fun _ _ _ _ _ => (pg_name (i := 2) sc_settling_patterns.nd rfl (Or.inl rfl) (Or.inr rfl))) (fun _ _ _ _ _ => pts_nil) (fun _ _ _ _ _ => (pv 2)) (fun _ _ _ _ _ => (pe_dget (by exact hu_of hr) (pv 1) (pv 2) (by intro _ _; rfl)))))))), ?_⟩
  refine fun d hd => ⟨_, rfl, q, f, n, rfl, hq.same (same_new hd _), n, rfl, hn, fun r H1 s1 r0 hr1 => ⟨r, _, rfl, SqL.of hr1, fun p hp => ?_⟩⟩
  rw [← List.map_reverse]
  have hRn : (pats n).reverse.Nodup := (List.reverse_perm (pats n)).nodup_iff.mpr (nodup_pats n)
  have s0 : Same H H1 := (same_new hd _).trans s1
  refine ⟨p, rfl, ⟨_, SqL.of upd_same⟩, for_it (walk_list (xs := (pats n).reverse.map vt)) (fun i σ H' => ∃ v2 v3 v4 v5 v6 v7 : Option V, σ = [some (.ref q), some (.ref d), v2, v3, v4, v5, v6, v7] ∧ Same H H' ∧ H' d = some (.dK (stk f n ((pats n).reverse.take i))) ∧ H' p = some (.lst ((pats n).reverse.map vt)))
    ⟨_, _, _, _, _, _, rfl, snew s0 hp _, ?_, upd_same⟩ (fun i σ H' _ z => ?_) ?_ ?_⟩
  · rw [upd_ne (fun e => by rw [← e, s1 _ _ upd_same] at hp; cases hp), s1 _ _ upd_same]; rfl
  · obtain ⟨_, _, _, _, _, _, _, _, _, h⟩ := z; exact SqL.of h
  · rintro i x σ H0 H2 hi ⟨v2, v3, v4, v5, v6, v7, rfl, s2, hd2, hp2⟩ ⟨rfl, e⟩
    rw [List.getElem?_map] at e
    obtain ⟨t, ht, rfl⟩ := Option.map_eq_some_iff.mp e
    have htm : t ∈ pats n := List.mem_reverse.mp (List.mem_of_getElem? ht)
    have htl := len_pats htm
    have hip : i < 729 := by
      rw [List.length_map, List.length_reverse] at hi; omega
    have hsl : (stk f n ((pats n).reverse.take i)).length < sizeLine := lt_small (Nat.le_trans (stk_len _) (by rw [List.length_take]; omega))
    have ht6 : t.length ≤ 6 := by omega
    refine ⟨_, rfl, tx t, rfl, fun D hD => lc_new walk_enumS hD (fun i => ((List.range i).filter fun i => gt t i == 45).map fun i => .int (i : Nat)) rfl (fun i hi => ?_) (fun _ _ => trivial) (fun i x H0 H' K1 K0 hi s3 y k1 k0 => ?_) (fun H3 s3 h3 => ?_)⟩
    · have hi' : i < (tx t).length := hi
      rw [tx_len] at hi'
      exact Nat.le_trans (filter_le _ _) (by omega)
    · obtain ⟨T, a, b, rfl, hT, rfl, e1, e2⟩ := y
      cases e1
      dsimp only at e2
      rw [cps_get] at e2
      have hi' : i < t.length := by rw [← tx_len]; exact hi
      rw [gt_get hi'] at e2
      cases e2
      refine ⟨T, _, rfl, SqT.of upd_same, rfl, _, _, rfl, _, _, rfl, rfl, rfl, ?_⟩
      refine ⟨_, rfl, rfl, _, rfl, ?_⟩
      have e : decide (V.str (⟨#[gt t i]⟩ : Str) = V.str "-") = (gt t i == 45) := by rw [tm, dec_1]; rfl
      rw [e]
      refine ite2 (fun h => ?_) (fun h => ?_)
      · refine ⟨_, rfl, k1 _ _ (same_new hT _) ?_⟩
        rw [filter_range, if_pos h]
      · refine k0 _ (same_new hT _) ?_
        rw [filter_range, if_neg h, List.append_nil]
    have h3' : H3 D = some (.lst (iv (opn t))) := by
      rw [h3]
      show some (HO.lst (((List.range (tx t).length).filter _).map _)) = _
      rw [tx_len]; rfl
    have hd3 := s3 _ _ hd2
    have hp3 := s3 _ _ hp2
    refine ⟨_, rfl, D, _, rfl, .inl (SqL.of h3'), rfl, _, rfl, ?_⟩
    rw [dec_i, iv_len]
    refine ite2 (fun h => ?_) (fun h => ?_)
    · have ho : opn t = [] := by
        have := of_decide_eq_true h
        exact List.length_eq_zero_iff.mp (by omega)
      have hin := opn_nil htm ho
      have hst := st_input hf hin
      have hq3 := hq.same (s2.trans s3)
      obtain ⟨dx, dd, dl, tb, g1, g2⟩ := id hq3
      refine ⟨_, rfl, q, rfl, _, rfl, .inr ⟨_, _, g1⟩, q, t, f, n, rfl, hq3, hn, hin, fun H4 s4 => ?_⟩
      refine ⟨_, rfl, _, rfl, d, _, rfl, .inl ⟨_, kt t, s4 _ _ hd3, rfl, hsl, rfl⟩, ?_⟩
      refine ⟨_, _, _, _, _, _, rfl, schg (s2.trans (s3.trans s4)) hd _, ?_, ?_⟩
      · rw [upd_same, stk_put hRn ht hst]
      · rw [upd_ne (fun e => by rw [← e, hp2] at hd2; cases hd2)]; exact s4 _ _ hp3
    · have hne : opn t ≠ [] := fun e => by
        rw [e] at h; exact h (by decide)
      obtain ⟨j, rest, ej⟩ := List.exists_cons_of_ne_nil hne
      have hj : j ∈ opn t := ej ▸ List.mem_cons_self
      obtain ⟨hj1, hj2⟩ := mem_opn.mp hj
      rw [ej] at h3'
      have hl0 : t.set j 48 ∈ (pats n).reverse.take i := ahead_rev (sorted_pats n) ht (set_pats htm (by simp)) (lt_set hj1 (by rw [hj2]; decide))
      have hl1 : t.set j 49 ∈ (pats n).reverse.take i := ahead_rev (sorted_pats n) ht (set_pats htm (by simp)) (lt_set hj1 (by rw [hj2]; decide))
      have spl := st_split hf htm hj
      refine ⟨_, rfl, _, rfl, D, _, _, _, rfl, rfl, SqL.of h3', atI0 _ _, t, j, 48, congrArg (fun z => [vt t, V.int (j : Nat), V.str z]) t0, ht6, hj1, _, rfl, _, rfl, D, _, _, _, rfl, rfl, SqL.of h3', atI0 _ _, t, j, 49, congrArg (fun z => [vt t, V.int (j : Nat), V.str z]) t1, ht6, hj1, _, _, rfl, ?_⟩
      refine ⟨_, rfl, _, rfl, d, _, rfl, .inl ⟨_, kt (t.set j 48), .inl hd3, rfl, rfl⟩, _, rfl, ?_⟩
      rw [val_stk hl0]
      have hpd : p ≠ d := fun e => by rw [e, hd2] at hp2; cases hp2
      have stay : st f n t = none → ∀ w2 w3 w4 w5 w6 w7 : Option V, ∃ v2 v3 v4 v5 v6 v7 : Option V, [some (V.ref q), some (.ref d), w2, w3, w4, w5, w6, w7] = [some (V.ref q), some (.ref d), v2, v3, v4, v5, v6, v7] ∧ Same H H3 ∧ H3 d = some (.dK (stk f n ((pats n).reverse.take (i + 1)))) ∧ H3 p = some (.lst ((pats n).reverse.map vt)) := fun z _ _ _ _ _ _ =>
        ⟨_, _, _, _, _, _, rfl, s2.trans s3, by rw [hd3, stk_snoc ht, z, if_neg (by decide), List.append_nil], hp3⟩
      cases e0 : st f n (t.set j 48) with
      | none =>
        refine iteF (iteF (stay ?_ _ _ _ _ _ _))
        rw [spl, e0]; simp
      | some b0 =>
        refine iteT ⟨_, rfl, _, rfl, d, _, rfl, .inl ⟨_, kt (t.set j 49), .inl hd3, rfl, rfl⟩, _, rfl, ?_⟩
        rw [val_stk hl1]
        cases e1 : st f n (t.set j 49) with
        | none =>
          refine iteF (iteF (stay ?_ _ _ _ _ _ _))
          rw [spl, e0, e1]; simp
        | some b1 =>
          refine iteT ⟨_, rfl, _, rfl, d, .int b0, rfl, .inl ⟨_, kt (t.set j 48), .inl hd3, rfl, by rw [val_stk hl0, e0]; rfl⟩, _, rfl, _, rfl, d, .int b1, rfl, .inl ⟨_, kt (t.set j 49), .inl hd3, rfl, by rw [val_stk hl1, e1]; rfl⟩, rfl, _, rfl, ?_⟩
          rw [dec_i]
          refine ite2 (fun h => ?_) (fun h => ?_)
          · have hb : b0 = b1 := of_decide_eq_true h
            have hst : st f n t = some b0 := by rw [spl, e0, e1, hb, if_pos rfl]
            refine ⟨_, rfl, _, rfl, d, .int b0, rfl, .inl ⟨_, kt (t.set j 48), .inl hd3, rfl, by rw [val_stk hl0, e0]; rfl⟩, _, rfl, _, rfl, d, _, rfl, .inl ⟨_, kt t, hd3, rfl, hsl, rfl⟩, ?_⟩
            refine ⟨_, _, _, _, _, _, rfl, schg (s2.trans s3) hd _, ?_, ?_⟩
            · rw [upd_same, stk_put hRn ht hst]
            · rw [upd_ne hpd]; exact hp3
          · refine stay ?_ _ _ _ _ _ _
            rw [spl, e0, e1, if_neg]
            intro e
            exact h (decide_eq_true (Option.some.inj e))
  · rintro σ H2 ⟨v2, v3, v4, v5, v6, v7, rfl, s2, hd2, hp2⟩
    rw [List.length_map, List.take_length] at hd2
    refine ⟨_, rfl, d, _, _, rfl, .inl hd2, stk_keys _, ?_, fun ys p2 pm pw hp2n => ?_⟩
    · rw [List.length_map]
      refine Nat.le_trans (List.length_filter_le _ _) ?_
      rw [List.length_reverse]; omega
    have ey := sorted_eq pm pw
    rw [ey, List.map_map]
    have hsd : ((pats n).filter fun p => (st f n p).isSome).length ≤ 729 := Nat.le_trans (List.length_filter_le _ _) hp729
    refine ⟨p2, rfl, ⟨_, SqL.of upd_same⟩, fun D hD => dc_new (walk_list (xs := ((pats n).filter fun p => (st f n p).isSome).map (V.str ∘ tx))) hD (fun i => (((pats n).filter fun p => (st f n p).isSome).take i).map fun p => (kt p, .int ((st f n p).getD 0))) rfl (fun i hi => ?_) (fun H' s' => SqL.of (s' _ _ upd_same)) (fun i x H0 H' K1 K0 hi s4 y k1 k0 => ?_) (fun H4 s4 h4 => ?_)⟩
    · rw [List.length_map, List.length_take]; omega
    · obtain ⟨rfl, e⟩ := y
      rw [List.getElem?_map] at e
      obtain ⟨t, ht, rfl⟩ := Option.map_eq_some_iff.mp e
      obtain ⟨tm1, tm2⟩ := List.mem_filter.mp (List.mem_of_getElem? ht)
      have hd4 := s4 _ _ ((snew (Same.refl _) hp2n _) _ _ hd2)
      refine ⟨rfl, yes ?_⟩
      refine ⟨_, rfl, _, rfl, _, rfl, d, .int ((st f n t).getD 0), rfl, .inl ⟨_, kt t, .inl hd4, rfl, ?_⟩, k1 (kt t) _ _ (Same.refl _) ?_⟩
      · rw [val_stk (List.mem_reverse.mpr tm1)]
        cases e : st f n t with
        | none => rw [e] at tm2; cases tm2
        | some b => rfl
      · rw [take_snoc ht, List.map_append]
        exact (putK_snoc (fresh_at (List.Pairwise.filter _ (nodup_pats n)) ht)).symm
    · rw [List.length_map, List.take_length] at h4
      exact k D H4 ((s2.trans (same_new hp2n _)).trans s4) (s2.free ((same_new hp2n _).free hD)) h4
end
end Lk

set_option Elab.async false
set_option linter.all false
set_option maxRecDepth 100000
set_option maxHeartbeats 4000000
/-! LkW6: the lean patterns, the chosen one. -/
namespace Lk
open PySem PySem.Spec PyProof.Rows L2
/-- the settling patterns, in order -/
def sd (f : Pat → Int) (n : Nat) : List Pat := (pats n).filter fun p => (st f n p).isSome
theorem setd_eq (f : Pat → Int) (n : Nat) : setd f n = (sd f n).map fun p => (kt p, .int ((st f n p).getD 0)) := rfl
theorem sd_len {f : Pat → Int} {n : Nat} (hn : n ≤ 6) : (sd f n).length ≤ 729 := Nat.le_trans (List.length_filter_le _ _) (pats_small hn)
theorem mem_sd {f : Pat → Int} {n : Nat} {p : Pat} : p ∈ sd f n ↔ p ∈ pats n ∧ (st f n p).isSome = true := List.mem_filter
theorem val_setd {f : Pat → Int} {n : Nat} {q : Pat} (m : q ∈ pats n) : valV (setd f n) (kt q) = (st f n q).map V.int := val_stk m
def leaG (f : Pat → Int) (n : Nat) (a : Int) (p : Pat) : Bool := decide (st f n p = some a) && (kno p).all fun i => decide (st f n (p.set i 45) = none)
theorem lea_sd (f : Pat → Int) (n : Nat) (a : Int) : (sd f n).filter (leaG f n a) = lea f n a := by
  unfold sd
  rw [List.filter_filter]
  refine List.filter_congr fun p _ => ?_
  show (leaG f n a p && (st f n p).isSome) = leaG f n a p
  unfold leaG
  cases e : st f n p with
  | none => simp
  | some b => simp
/-- what may be missing -/
def ov : Option Pat → V
  | none => .non
  | some c => vt c
section
variable {P : Program} {w : World} {K : PySem.W.Frag} {mg : Str → Option Value} {base : Heap}
def spLean (K : PySem.W.Frag) : Sp := fun vs H Q _ => ∃ (q : Addr) (f : Pat → Int) (n : Nat) (a : Int), vs = [.ref q, .int a] ∧ QAt K H q f n ∧ Bi f ∧ n ≤ 6 ∧ (a = 0 ∨ a = 1) ∧ RetN H Q (.lst ((lea f n a).map vt))
theorem sc_lean_patterns : FnScope ["question", "answer", "settling", "found", "pattern", "wider", "position", "other"] ["question", "answer"] (defScope s_lean_patterns) := ⟨rfl, rfl, rfl, by decide +kernel, rfl, by decide +kernel, by decide +kernel⟩
theorem ok_lean_patterns (T : TX K mg) (D : DF K mg "lean_patterns" s_lean_patterns) (C_need_bit : Cal P w K mg base 2 "need_bit" spNeedBit) (C_settling_patterns : Cal P w K mg base 5 "settling_patterns" (spSettling K)) (C_known : Cal P w K mg base 4 "known" spKnown) (C_put : Cal P w K mg base 1 "put" spPut) : Cal P w K mg base 6 "lean_patterns" (spLean K) := by
  refine mkCal D sc_lean_patterns (fun _ _ _ _ _ _ us hl => match us, hl with | [_, _], _ => rfl) (fun vs H Q E h => ?_) (fun fa cdv A outer s H vs Q E hr h => ?_)
  · obtain ⟨q, f, n, a, rfl, _⟩ := h; rfl
  obtain ⟨q, f, n, a, rfl, hq, hf, hn, ha, k⟩ := h
  have hsd := sd_len (f := f) hn
  refine ⟨_, (pss_cons (ps_expr (pe_c C_need_bit (by exact hr) (by decide) (by rfl) (pa_cons (pv 1) pa_nil)))
      (pss_cons (ps_set (i := 2) sc_lean_patterns.nd rfl (Or.inr rfl) (pe_c C_settling_patterns (by exact hr) (by decide) (by rfl) (pa_cons (pv 0) pa_nil)))
      (pss_cons (ps_set (i := 3) sc_lean_patterns.nd rfl (Or.inl rfl) (pe_lst pa_nil))
      (pss_cons (ps_for PassesOwn.never rfl (pi_keys (pe_frz (pv 2))) (pg_name (i := 4) sc_lean_patterns.nd rfl (Or.inr rfl) (Or.inl rfl)) (pss_cons (ps_setLc (i := 5) (own := [("position", 6)]) rfl sc_lean_patterns.nd rfl rfl (sw_true rfl rfl rfl (by decide +kernel)) (pi_list (pe_c C_known (by exact hr) (by decide) (by rfl) (pa_cons (pv 4) pa_nil))) (blkOk_by (own := [("position", 6)]) (N := ["question", "answer", "settling", "found", "pattern", "wider", "position", "other"]) (sc := defScope s_lean_patterns) (by decide +kernel)) (fun _ _ _ _ _ => (pg_name (i := 6) sc_lean_patterns.nd rfl (Or.inl rfl) (Or.inr rfl))) (fun _ _ _ _ _ => pts_nil) (fun _ _ _ _ _ => (pe_c C_put (by exact hr) (by decide) (by rfl) (pa_cons (pv 4) (pa_cons (pv 6) (pa_cons pe_str pa_nil))))))
      (pss_one (ps_if (PW.pt (pw_and (pt_cmpR op_eq (pe_dget (by exact hu_of hr) (pv 2) (pv 4) (by intro _ _; rfl)) (pv 1) (nomark _)) (pw_and1 (pt_not (pt_val (pe_callB (cr_any rfl) (by rfl) T.f_any (by decide +kernel) (pa_cons (pe_lc (own := [("other", 7)]) rfl sc_lean_patterns.nd (pi_list (pv 5)) (blkOk_by (own := [("other", 7)]) (N := ["question", "answer", "settling", "found", "pattern", "wider", "position", "other"]) (sc := defScope s_lean_patterns) (by decide +kernel)) (fun _ _ _ _ _ => (pg_name (i := 7) sc_lean_patterns.nd rfl (Or.inl rfl) (Or.inr rfl))) (fun _ _ _ _ _ => pts_nil) (fun _ _ _ _ _ => (pe_cmp (pc_din (by exact hu_of hr) (pv 7) (pv 2)) (by rfl)))) pa_nil))))))) (pss_one (ps_expr (pe_bm PySem.F.plainAttrs_list PySem.F.slot_list_append PySem.F.type_list_append mt_append (pv 3) (pa_cons (pv 4) pa_nil)))) pss_nil))))
      (pss_one (ps_ret (pv 3))))))), ?_⟩
  refine ⟨_, rfl, a, rfl, by omega, by omega, ?_⟩
  refine ⟨_, rfl, q, f, n, rfl, hq, hf, hn, fun d H1 s1 d0 hd1 => ⟨Nat.zero_le _, fun l hl => ?_⟩⟩
  have hdl : d ≠ l := ne_of_none hd1 hl
  refine ⟨_, rfl, d, .dK (setd f n), rfl, by rw [upd_ne hdl]; exact hd1, trivial, fun od => ⟨d, od, rfl, .inl ⟨_, upd_same, ?_⟩⟩⟩
  refine for_it walk_keys (fun i σ H' => ∃ v4 v5 v6 v7 : Option V, σ = [some (.ref q), some (.int a), some (.ref d), some (.ref l), v4, v5, v6, v7] ∧ Same H H' ∧ H' d = some (.frz od (.dK (setd f n))) ∧ H' l = some (.lst ((((sd f n).take i).filter (leaG f n a)).map vt)))
    ⟨_, _, _, _, rfl, schg (snew s1 hl _) d0 _, upd_same, by rw [upd_ne (fun e => hdl e.symm), upd_same]; rfl⟩ (fun i σ H' _ z => by obtain ⟨_, _, _, _, _, _, z, _⟩ := z; exact z) ?_ ?_
  · rintro i x σ H0 H2 hi ⟨v4, v5, v6, v7, rfl, s2, hd2, hl2⟩ ⟨rfl, k', v', e, rfl⟩
    rw [setd_eq, List.getElem?_map] at e
    obtain ⟨t, ht, e⟩ := Option.map_eq_some_iff.mp e
    obtain ⟨rfl, rfl⟩ := Prod.mk.inj e
    obtain ⟨htm, hts⟩ := mem_sd.mp (List.mem_of_getElem? ht)
    obtain ⟨b, hb⟩ := Option.isSome_iff_exists.mp hts
    have ht6 : t.length ≤ 6 := len_pats htm ▸ hn
    have hsg := pats_sign htm
    have hkl : (kno t).length ≤ 6 := Nat.le_trans (siz_le t) ht6
    refine ⟨_, rfl, t, rfl, ht6, hsg, fun r H3 s3 r0 hr3 => ⟨r, rfl, ⟨_, SqL.of hr3⟩, fun D hD => lc_new (walk_list (xs := iv (kno t))) hD (fun i => ((kno t).take i).map fun j => vt (t.set j 45)) rfl (fun i hi => ?_) (fun H' s' => SqL.of (s' _ _ hr3)) (fun i x H0 H' K1 K0 hi s4 y k1 k0 => ?_) (fun H4 s4 h4 => ?_)⟩⟩
    · rw [List.length_map, List.length_take]; omega
    · obtain ⟨rfl, e⟩ := y
      rw [iv, List.getElem?_map] at e
      obtain ⟨j, hj, rfl⟩ := Option.map_eq_some_iff.mp e
      obtain ⟨jl, _⟩ := mem_kno.mp (List.mem_of_getElem? hj)
      refine ⟨rfl, yes ⟨_, rfl, _, rfl, t, j, 45, congrArg (fun z => [vt t, V.int (j : Nat), V.str z]) tm, ht6, jl, k1 _ _ (Same.refl _) ?_⟩⟩
      rw [take_snoc hj, List.map_append]; rfl
    rw [iv_len, List.take_length] at h4
    have hd4 := s4 _ _ (s3 _ _ hd2)
    have hl4 := s4 _ _ (s3 _ _ hl2)
    refine ⟨_, rfl, _, rfl, d, .int b, rfl, .inl ⟨_, kt t, .inr ⟨od, hd4⟩, rfl, by rw [val_setd htm, hb]; rfl⟩, _, rfl, rfl, _, rfl, ?_⟩
    rw [dec_i]
    refine ite2 (fun h => ?_) (fun h => ?_)
    · have hba : b = a := of_decide_eq_true h
      refine ⟨_, rfl, D, rfl, ⟨_, SqL.of h4⟩, fun D2 hD2 => lc_new (walk_list (xs := (kno t).map fun j => vt (t.set j 45))) hD2 (fun i => ((kno t).take i).map fun j => .bl (st f n (t.set j 45)).isSome) rfl (fun i hi => ?_) (fun H' s' => SqL.of (s' _ _ h4)) (fun i x H0 H' K1 K0 hi s5 y k1 k0 => ?_) (fun H5 s5 h5 => ?_)⟩
      · rw [List.length_map, List.length_take]; omega
      · obtain ⟨rfl, e⟩ := y
        rw [List.getElem?_map] at e
        obtain ⟨j, hj, rfl⟩ := Option.map_eq_some_iff.mp e
        refine ⟨rfl, yes ⟨_, rfl, _, rfl, d, _, rfl, .inl ⟨_, kt (t.set j 45), .inr ⟨od, s5 _ _ hd4⟩, rfl, rfl⟩, k1 _ _ (Same.refl _) ?_⟩⟩
        rw [val_setd (set_pats htm (by simp)), Option.isSome_map, take_snoc hj, List.map_append]; rfl
      rw [List.length_map, List.take_length] at h5
      refine ⟨D2, (kno t).map fun j => (st f n (t.set j 45)).isSome, rfl, SqL.of (by rw [h5, List.map_map]; rfl), _, rfl, ?_⟩
      have eg : leaG f n a t = !((kno t).map fun j => (st f n (t.set j 45)).isSome).any id := by
        unfold leaG
        rw [hb, hba, decide_eq_true rfl, Bool.true_and, List.any_map, List.not_any_eq_all_not]
        refine congrArg (fun g => (kno t).all g) (funext fun j => ?_)
        show _ = !(st f n (t.set j 45)).isSome
        cases st f n (t.set j 45) <;> simp
      show (if (!((kno t).map fun j => (st f n (t.set j 45)).isSome).any id) = true then _ else _)
      rw [← eg]
      have s5' := s2.trans (s3.trans (s4.trans s5))
      refine ite2 (fun h2 => ?_) (fun h2 => ?_)
      · refine ⟨_, rfl, .inl ⟨rfl, _, SqL.of (s5 _ _ hl4)⟩, _, rfl, l, _, _, rfl, rfl, s5 _ _ hl4, ?_, ?_⟩
        · refine lt_small (Nat.le_trans (Nat.le_of_eq (List.length_map _)) (Nat.le_trans (List.length_filter_le _ _) ?_))
          rw [List.length_take]; omega
        · refine ⟨_, _, _, _, rfl, ?_, ?_, ?_⟩
          · exact schg s5' (s1.free hl) _
          · rw [upd_ne hdl]; exact s5 _ _ hd4
          · rw [upd_same, fil_snoc _ _ ht, if_pos h2]; rfl
      · refine ⟨_, _, _, _, rfl, s5', s5 _ _ hd4, ?_⟩
        rw [fil_snoc _ _ ht, if_neg h2, List.append_nil]
        exact s5 _ _ hl4
    · refine ⟨_, _, _, _, rfl, s2.trans (s3.trans s4), hd4, ?_⟩
      have h2 : ¬ leaG f n a t = true := fun z => by
        unfold leaG at z
        rw [hb, Bool.and_eq_true, decide_eq_true_iff] at z
        exact h (decide_eq_true (Option.some.inj z.1))
      rw [fil_snoc _ _ ht, if_neg h2, List.append_nil]
      exact hl4
  · rintro σ H2 ⟨v4, v5, v6, v7, rfl, s2, hd2, hl2⟩
    have e : (setd f n).length = (sd f n).length := List.length_map _
    rw [e, List.take_length, lea_sd] at hl2
    exact ⟨_, rfl, k l H2 s2 (s1.free hl) hl2⟩
def spChosen (K : PySem.W.Frag) : Sp := fun vs H Q _ => ∃ (l : Addr) (ln : List Pat) (n : Nat) (p : Pat), vs = [.ref l, vt p] ∧ SqL K H l (ln.map vt) ∧ n ≤ 6 ∧ (∀ q ∈ ln, q ∈ pats n) ∧ p ∈ pats n ∧ RetS H Q (ov (chs ln p))
theorem sc_chosen_pattern : FnScope ["lean", "pattern", "best", "other"] ["lean", "pattern"] (defScope s_chosen_pattern) := ⟨rfl, rfl, rfl, by decide +kernel, rfl, by decide +kernel, by decide +kernel⟩
theorem ok_chosen_pattern (T : TX K mg) (D : DF K mg "chosen_pattern" s_chosen_pattern) (C_differ : Cal P w K mg base 5 "differ" spDiffer) (C_size : Cal P w K mg base 5 "size" spSize) : Cal P w K mg base 6 "chosen_pattern" (spChosen K) := by
  refine mkCal D sc_chosen_pattern (fun _ _ _ _ _ _ us hl => match us, hl with | [_, _], _ => rfl) (fun vs H Q E h => ?_) (fun fa cdv A outer s H vs Q E hr h => ?_)
  · obtain ⟨l, ln, n, p, rfl, _⟩ := h; rfl
  obtain ⟨l, ln, n, p, rfl, hl, hn, hln, hp, k⟩ := h
  refine ⟨_, (pss_cons (ps_set (i := 2) sc_chosen_pattern.nd rfl (Or.inl rfl) pe_non)
      (pss_cons (ps_for PassesOwn.never rfl (pi_list (pv 0)) (pg_name (i := 3) sc_chosen_pattern.nd rfl (Or.inl rfl) (Or.inr rfl)) (pss_one (ps_if (PW.pt (pw_and (pt_cmpR op_eq (pe_callB call_len_seq (by rfl) T.f_len PySem.boot_len (pa_cons (pe_c C_differ (by exact hr) (by decide) (by rfl) (pa_cons (pv 3) (pa_cons (pv 1) pa_nil))) pa_nil)) pe_int (nomark _)) (pw_and1 (PW.pt (pw_or (pt_cmpR op_isN (pv 2) pe_non (nomark _)) (pw_or1 (pt_cmpR op_lt (pe_c C_size (by exact hr) (by decide) (by rfl) (pa_cons (pv 3) pa_nil)) (pe_c C_size (by exact hr) (by decide) (by rfl) (pa_cons (pv 2) pa_nil)) (nomark _)))))))) (pss_one (ps_set (i := 2) sc_chosen_pattern.nd rfl (Or.inl rfl) (pv 3))) pss_nil)))
      (pss_one (ps_ret (pv 2))))), ?_⟩
  have hp6 : p.length ≤ 6 := len_pats hp ▸ hn
  refine ⟨_, rfl, l, rfl, ⟨_, hl⟩, for_it (walk_list (xs := ln.map vt)) (fun i σ H' => ∃ v3 : Option V, σ = [some (.ref l), some (vt p), some (ov ((ln.take i).foldl (chs1 p) none)), v3] ∧ Same H H')
    ⟨_, rfl, Same.refl _⟩ (fun i σ H' _ z => by obtain ⟨_, _, z⟩ := z; exact z.seq hl) ?_ ?_⟩
  · rintro i x σ H0 H2 hi ⟨v3, rfl, s2⟩ ⟨rfl, e⟩
    rw [List.getElem?_map] at e
    obtain ⟨o, ho, rfl⟩ := Option.map_eq_some_iff.mp e
    have hom := hln o (List.mem_of_getElem? ho)
    have ho6 : o.length ≤ 6 := len_pats hom ▸ hn
    have es : (ln.take (i + 1)).foldl (chs1 p) none = chs1 p ((ln.take i).foldl (chs1 p) none) o := by
      rw [take_snoc ho, List.foldl_append]; rfl
    have hb : ∀ c, (ln.take i).foldl (chs1 p) none = some c → c ∈ pats n := fun c hc => by
      rcases (chs_go p _ none c hc).1 with z | z
      · cases z
      · exact hln c (List.mem_of_mem_take z.1)
    refine ⟨_, rfl, _, rfl, o, p, rfl, (len_pats hom).trans (len_pats hp).symm, ho6, pats_sign hom, pats_sign hp, fun r H3 s3 r0 hr3 => ⟨r, _, rfl, .inl (SqL.of hr3), rfl, _, rfl, ?_⟩⟩
    rw [dec_i, iv_len]
    generalize eb : (ln.take i).foldl (chs1 p) none = best at es hb ⊢
    refine ite2 (fun h => ?_) (fun h => ?_)
    · have hd0 : (dif o p).length = 0 := by
        have := of_decide_eq_true h
        omega
      cases best with
      | none =>
        refine ⟨_, rfl, rfl, _, rfl, iteT (iteT ⟨_, rfl, some (vt o), ?_, s2.trans s3⟩)⟩
        rw [es, chs1, if_pos ⟨hd0, .inl rfl⟩]; rfl
      | some c =>
        have hcm := hb c rfl
        have hc6 : c.length ≤ 6 := len_pats hcm ▸ hn
        refine ⟨_, rfl, rfl, _, rfl, iteF ⟨_, rfl, o, rfl, ho6, pats_sign hom, fun H4 s4 => ⟨_, rfl, c, rfl, hc6, pats_sign hcm, fun H5 s5 => ⟨_, _, rfl, rfl, _, rfl, ?_⟩⟩⟩⟩
        have s5' := s2.trans (s3.trans (s4.trans s5))
        refine ite2 (fun h2 => ?_) (fun h2 => ?_)
        · have h3 : siz o < siz c := by
            have := of_decide_eq_true h2
            omega
          refine ⟨_, rfl, some (vt o), ?_, s5'⟩
          rw [es, chs1, if_pos ⟨hd0, .inr h3⟩]; rfl
        · refine ⟨some (vt o), ?_, s5'⟩
          rw [es, chs1, if_neg]
          · rfl
          · rintro ⟨_, z | z⟩
            · cases z
            · exact h2 (decide_eq_true (by show (siz o : Int) < siz c; have z' : siz o < siz c := z; omega))
    · refine iteF ⟨some (vt o), ?_, s2.trans s3⟩
      rw [es, chs1, if_neg]
      · rfl
      · rintro ⟨z, _⟩
        exact h (decide_eq_true (by rw [z]; rfl))
  · rintro σ H2 ⟨v3, rfl, s2⟩
    rw [List.length_map, List.take_length]
    exact ⟨_, rfl, k _ s2⟩
end
end Lk

set_option Elab.async false
set_option linter.all false
set_option maxRecDepth 100000
set_option maxHeartbeats 4000000
/-! LkW7: the walk in rounds. -/
namespace Lk
open PySem PySem.Spec PyProof.Rows L2
/-- a tree in the heap -/
def TreeAt (H : Hp) : Tr → V → Prop
  | .lf b, v => v = .int b
  | .nd i l h, v => ∃ (a : Addr) (x y : V), v = .ref a ∧ H a = some (.tup [.int (i : Nat), x, y]) ∧ TreeAt H l x ∧ TreeAt H h y
theorem TreeAt.same {H H' : Hp} (s : Same H H') : ∀ {t : Tr} {v : V}, TreeAt H t v → TreeAt H' t v
  | .lf _, _, h => h
  | .nd i l h, v, ⟨a, x, y, e, h1, h2, h3⟩ => ⟨a, x, y, e, s _ _ h1, TreeAt.same s h2, TreeAt.same s h3⟩
theorem cut_tail (i : Nat) (v : List Nat) : cutV (iv (i :: v)) (some 1) none = iv v := by
  unfold cutV
  have e : HT.sIx (iv (i :: v)).length 0 (some 1) = 1 := by
    have := HT.sIx_nat (n := (iv (i :: v)).length) (d := 0) (k := 1)
    rw [show ((1 : Nat) : Int) = 1 from rfl] at this
    rw [this, iv_len, List.length_cons]; omega
  rw [e, HT.sIx_none, List.take_of_length_le]
  · rfl
  · rw [List.length_drop]; exact Nat.le_refl _
section
variable {P : Program} {w : World} {K : PySem.W.Frag} {mg : Str → Option Value} {base : Heap}
def spWalk (K : PySem.W.Frag) (m : Nat) : Sp := fun vs H Q _ => ∃ (d l wl : Addr) (f : Pat → Int) (n : Nat) (a : Int) (p : Pat) (ws : List Nat), vs = [.ref d, .ref l, vt p, .ref wl] ∧ Rd H d (.dK (setd f n)) ∧ SqL K H l ((lea f n a).map vt) ∧ SqL K H wl (iv ws) ∧
  Bi f ∧ n ≤ 6 ∧ (a = 0 ∨ a = 1) ∧ p ∈ pats n ∧ Wai p ws ∧ (opn p).length < m ∧
  ∀ (r : Addr) (v : V) (H' : Hp), Same H H' → H' r = some (.tup [v, .int ((walk (st f n) (lea f n a) m p ws).2 : Nat)]) → TreeAt H' (walk (st f n) (lea f n a) m p ws).1 v → Q (.ref r) H'
theorem sc_round_walk : FnScope ["settling", "lean", "pattern", "waiting", "begun", "other", "position", "low", "low_rounds", "high", "high_rounds"] ["settling", "lean", "pattern", "waiting"] (defScope s_round_walk) := ⟨rfl, rfl, rfl, by decide +kernel, rfl, by decide +kernel, by decide +kernel⟩
theorem ssqt' {H H' : Hp} {a : Addr} {xs : List V} (e : Same H H') (h : SqL K H a xs) : SqL K H' a xs := e.seq h
theorem ok_round_walk0 (T : TX K mg) (D : DF K mg "round_walk" s_round_walk) : Cal P w K mg base 7 "round_walk" (spWalk K 0) := by
  refine mkCal D sc_round_walk (fun _ _ _ _ _ _ us hl => match us, hl with | [_, _, _, _], _ => rfl) (fun vs H Q E h => ?_) (fun fa cdv A outer s H vs Q E hr h => ?_)
  · obtain ⟨d, l, wl, f, n, a, p, ws, rfl, _⟩ := h; rfl
  obtain ⟨d, l, wl, f, n, a, p, ws, rfl, hd, hl, hw, hf, hn, ha, hp, hwai, hop, k⟩ := h
  exact absurd hop (Nat.not_lt_zero _)
theorem ok_round_walk1 (T : TX K mg) (D : DF K mg "round_walk" s_round_walk) (C_chosen_pattern : Cal P w K mg base 6 "chosen_pattern" (spChosen K)) (C_unknown : Cal P w K mg base 1 "unknown" spUnknown) (C_put : Cal P w K mg base 1 "put" spPut) {m : Nat}
    (C_round_walk : Cal P w K mg base (7 + m) "round_walk" (spWalk K m)) : Cal P w K mg base (7 + m + 1) "round_walk" (spWalk K (m + 1)) := by
  refine mkCal D sc_round_walk (fun _ _ _ _ _ _ us hl => match us, hl with | [_, _, _, _], _ => rfl) (fun vs H Q E h => ?_) (fun fa cdv A outer s H vs Q E hr h => ?_)
  · obtain ⟨d, l, wl, f, n, a, p, ws, rfl, _⟩ := h; rfl
  obtain ⟨d, l, wl, f, n, a, p, ws, rfl, hd, hl, hw0, hf, hn, ha, hp, hwai, hop, k⟩ := h
  refine ⟨_, (pss_cons (ps_if (pt_cmp (pc_din (by exact hu_of hr) (pv 2) (pv 0))) (pss_one (ps_ret (pe_tup (pa_cons (pe_dget (by exact hu_of hr) (pv 0) (pv 2) (by intro _ _; rfl)) (pa_cons pe_int pa_nil))))) pss_nil)
      (pss_cons (ps_set (i := 4) sc_round_walk.nd rfl (Or.inl rfl) pe_int)
      (pss_cons (ps_if (pt_cmpR op_eq (pe_callB call_len_seq (by rfl) T.f_len PySem.boot_len (pa_cons (pv 3) pa_nil)) pe_int (nomark _)) (pss_cons (ps_set (i := 5) sc_round_walk.nd rfl (Or.inr rfl) (pe_c C_chosen_pattern (by exact hr) (by first | decide | omega) (by rfl) (pa_cons (pv 1) (pa_cons (pv 2) pa_nil))))
      (pss_cons (ps_setLc (i := 3) (own := [("position", 6)]) rfl sc_round_walk.nd rfl rfl (sw_true rfl rfl rfl (by decide +kernel)) (pi_list (pe_c C_unknown (by exact hr) (by first | decide | omega) (by rfl) (pa_cons (pv 2) pa_nil))) (blkOk_by (own := [("position", 6)]) (N := ["settling", "lean", "pattern", "waiting", "begun", "other", "position", "low", "low_rounds", "high", "high_rounds"]) (sc := defScope s_round_walk) (by decide +kernel)) (fun _ _ _ _ _ => (pg_name (i := 6) sc_round_walk.nd rfl (Or.inl rfl) (Or.inr rfl))) (fun _ _ _ _ _ => (pts_one (pt_cmpR op_ne (pe_ix ix_str (pv 5) (pv 6) (by intro _ _; rfl)) pe_str (nomark _)))) (fun _ _ _ _ _ => (pv 6)))
      (pss_one (ps_set (i := 4) sc_round_walk.nd rfl (Or.inl rfl) pe_int)))) pss_nil)
      (pss_cons (ps_asg (pe_c C_round_walk (by exact hr) (by first | decide | omega) (by rfl) (pa_cons (pv 0) (pa_cons (pv 1) (pa_cons (pe_c C_put (by exact hr) (by first | decide | omega) (by rfl) (pa_cons (pv 2) (pa_cons (pe_ix ix_list (pv 3) pe_int (by intro _ _; rfl)) (pa_cons pe_str pa_nil)))) (pa_cons (pe_slice sl_list (pv 3) (po_some pe_int) po_none) pa_nil))))) (pg_tup rfl (pgs_cons (pg_name (i := 7) sc_round_walk.nd rfl (Or.inl rfl) (Or.inr rfl)) (pgs_cons (pg_name (i := 8) sc_round_walk.nd rfl (Or.inl rfl) (Or.inr rfl)) pgs_nil))))
      (pss_cons (ps_asg (pe_c C_round_walk (by exact hr) (by first | decide | omega) (by rfl) (pa_cons (pv 0) (pa_cons (pv 1) (pa_cons (pe_c C_put (by exact hr) (by first | decide | omega) (by rfl) (pa_cons (pv 2) (pa_cons (pe_ix ix_list (pv 3) pe_int (by intro _ _; rfl)) (pa_cons pe_str pa_nil)))) (pa_cons (pe_slice sl_list (pv 3) (po_some pe_int) po_none) pa_nil))))) (pg_tup rfl (pgs_cons (pg_name (i := 9) sc_round_walk.nd rfl (Or.inl rfl) (Or.inr rfl)) (pgs_cons (pg_name (i := 10) sc_round_walk.nd rfl (Or.inl rfl) (Or.inr rfl)) pgs_nil))))
      (pss_one (ps_ret (pe_tup (pa_cons (pe_tup (pa_cons (pe_ix ix_list (pv 3) pe_int (by intro _ _; rfl)) (pa_cons (pv 7) (pa_cons (pv 9) pa_nil)))) (pa_cons (pe_op op_add (pv 4) (pe_callB (call_max2 rfl) (by rfl) T.f_max (by decide +kernel) (pa_cons (pv 8) (pa_cons (pv 10) pa_nil)))) pa_nil)))))))))), ?_⟩
  have hp6 : p.length ≤ 6 := len_pats hp ▸ hn
  refine ⟨_, rfl, _, rfl, d, _, rfl, .inl ⟨_, kt p, hd, rfl, rfl⟩, _, rfl, ?_⟩
  rw [val_setd hp]
  cases e : st f n p with
  | some b =>
    refine iteT ⟨_, rfl, _, rfl, d, .int b, rfl, .inl ⟨_, kt p, hd, rfl, by rw [val_setd hp, e]; rfl⟩, by show 2 ≤ sizeLine; decide, fun t ht => ?_⟩
    refine k t (.int b) _ (same_new ht _) ?_ ?_
    · rw [upd_same, walk_leaf e]; rfl
    · rw [walk_leaf e]; rfl
  | none =>
    refine iteF ?_
    obtain ⟨i, v, ev, hv, ew⟩ := walk_step (k := m) hf ha hp e hwai
    have hi := hv.2 i List.mem_cons_self
    have hi1 := (mem_opn.mp hi).1
    have o1 := opn_set (c := 48) (by decide) hi
    have o2 := opn_set (c := 49) (by decide) hi
    refine ⟨_, rfl, wl, _, rfl, .inl hw0, rfl, _, rfl, ?_⟩
    rw [dec_i, iv_len]
    refine ite2 (fun h => ?_) (fun h => ?_)
    · have hws : ws.length = 0 := by
        have := of_decide_eq_true h
        omega
      obtain ⟨c, hc, hcm, _⟩ := chs_lea hf ha hp e
      rw [if_pos hws] at ev
      have hg : (if ws.length = 0 then 1 else 0) = 1 := if_pos hws
      have hlm : ∀ q ∈ lea f n a, q ∈ pats n := fun q hq => (mem_lea.mp hq).1
      refine ⟨_, rfl, _, rfl, l, lea f n a, n, p, rfl, hl, hn, hlm, hp, fun H1 s1 => ?_⟩
      rw [hc]
      refine ⟨_, rfl, p, rfl, hp6, fun r2 H2 s2 r20 hr2 => ⟨r2, rfl, ⟨_, SqL.of hr2⟩, fun wl2 hwl2 => lc_new (walk_list (xs := iv (opn p))) hwl2 (fun i => iv (((opn p).take i).filter fun j => gt c j != 45)) rfl (fun i hi => ?_) (fun H' s' => SqL.of (s' _ _ hr2)) (fun i x H0 H' K1 K0 hi s3 y k1 k0 => ?_) (fun H3 s3 h3 => ?_)⟩⟩
      · rw [iv_len] at hi ⊢
        refine Nat.le_trans (List.length_filter_le _ _) ?_
        rw [List.length_take]
        have : (opn p).length ≤ p.length := by
          have := List.length_filter_le (fun i => gt p i == 45) (List.range p.length)
          rw [List.length_range] at this
          exact this
        omega
      · obtain ⟨rfl, e⟩ := y
        rw [iv, List.getElem?_map] at e
        obtain ⟨j, hj, rfl⟩ := Option.map_eq_some_iff.mp e
        obtain ⟨jl, _⟩ := mem_opn.mp (List.mem_of_getElem? hj)
        have jc : j < c.length := by rw [len_pats hcm, ← len_pats hp]; exact jl
        refine ⟨rfl, ?_⟩
        refine ⟨_, rfl, _, rfl, tx c, _, gt c j, rfl, rfl, len6 (n := 6) (by rw [len_pats hcm]; exact hn), atI_gt jc, rfl, _, rfl, ?_⟩
        have e3 : (!decide (V.str (⟨#[gt c j]⟩ : Str) = V.str "-")) = (gt c j != 45) := by rw [tm, dec_1]; rfl
        rw [e3]
        refine ite2 (fun h => ?_) (fun h => ?_)
        · refine ⟨_, rfl, k1 _ _ (Same.refl _) ?_⟩
          rw [iv_ft _ hj, if_pos h]
        · refine k0 _ (Same.refl _) ?_
          rw [iv_ft _ hj, if_neg h, List.append_nil]
      have hw : SqL K H3 wl2 (iv (i :: v)) := by
        rw [← ev, nxt, hc]
        rw [iv_len, List.take_length] at h3
        exact SqL.of h3
      have s03 : Same H H3 := s1.trans (s2.trans s3)
      refine ⟨_, rfl, _, rfl, _, rfl, _, rfl, wl2, _, _, _, rfl, rfl, hw, atI0 _ _, p, i, 48, congrArg (fun z => [vt p, V.int (i : Nat), V.str z]) t0, hp6, hi1, _, rfl, _, rfl, wl2, _, rfl, hw, fun w4 hw4 => ?_⟩
      rw [cut_tail]
      have s4 := snew s03 hw4 (.lst (iv v))
      refine ⟨d, l, w4, f, n, a, p.set i 48, v, rfl, srd s4 hd, ssqt' s4 hl, SqL.of upd_same, hf, hn, ha, set_pats hp (by simp), hv.tail (by decide), by omega, fun r5 x5 H5 s5 hr5 ht5 => ?_⟩
      refine ⟨r5, _, rfl, SqT.of hr5, rfl, _, _, rfl, _, _, rfl, rfl, ?_⟩
      have s5' := s4.trans s5
      have hw5 : SqL K H5 wl2 (iv (i :: v)) := ssqt' s5 (ssqt' (same_new hw4 _) hw)
      refine ⟨_, rfl, _, rfl, _, rfl, _, rfl, wl2, _, _, _, rfl, rfl, hw5, atI0 _ _, p, i, 49, congrArg (fun z => [vt p, V.int (i : Nat), V.str z]) t1, hp6, hi1, _, rfl, _, rfl, wl2, _, rfl, hw5, fun w6 hw6 => ?_⟩
      rw [cut_tail]
      have s6 := snew s5' hw6 (.lst (iv v))
      refine ⟨d, l, w6, f, n, a, p.set i 49, v, rfl, srd s6 hd, ssqt' s6 hl, SqL.of upd_same, hf, hn, ha, set_pats hp (by simp), hv.tail (by decide), by omega, fun r7 x7 H7 s7 hr7 ht7 => ?_⟩
      refine ⟨r7, _, rfl, SqT.of hr7, rfl, _, _, rfl, _, _, rfl, rfl, ?_⟩
      have s57 : Same H5 H7 := (same_new hw6 _).trans s7
      have s7' := s6.trans s7
      have hw7 : SqL K H7 wl2 (iv (i :: v)) := ssqt' s57 hw5
      refine ⟨_, rfl, wl2, _, _, _, rfl, rfl, hw7, atI0 _ _, _, rfl, _, rfl, by show 3 ≤ sizeLine; decide, fun t8 ht8 => ⟨_, rfl, _, rfl, _, rfl, _, _, rfl, _, _, rfl, rfl, by show 2 ≤ sizeLine; decide, fun t9 ht9 => ?_⟩⟩
      refine k t9 (.ref t8) _ (snew (snew s7' ht8 _) ht9 _) ?_ ?_
      · rw [upd_same, ew]
        refine congrArg (fun z : Int => some (HO.tup [V.ref t8, V.int z])) ?_
        generalize (walk (st f n) (lea f n a) m (p.set i 48) v).2 = A
        generalize (walk (st f n) (lea f n a) m (p.set i 49) v).2 = B
        rw [hg]
        split <;> omega
      · rw [ew]
        have sv : ∀ z, Same H7 (upd (upd H7 t8 (.tup [.int (i : Nat), x5, x7])) t9 (.tup [.ref t8, z])) := fun z => snew (same_new ht8 _) ht9 _
        refine ⟨t8, x5, x7, rfl, ?_, ht5.same (s57.trans (sv _)), ht7.same (sv _)⟩
        rw [upd_ne (fun e => by rw [e, upd_same] at ht9; cases ht9), upd_same]
    · have hws : ¬ ws.length = 0 := fun z => h (decide_eq_true (by rw [z]; rfl))
      rw [if_neg hws] at ev
      have hw : SqL K H wl (iv (i :: v)) := ev ▸ hw0
      have hg : (if ws.length = 0 then 1 else 0) = 0 := if_neg hws
      have s03 : Same H H := Same.refl H
      generalize wl = wl2 at *
      refine ⟨_, rfl, _, rfl, _, rfl, _, rfl, wl2, _, _, _, rfl, rfl, hw, atI0 _ _, p, i, 48, congrArg (fun z => [vt p, V.int (i : Nat), V.str z]) t0, hp6, hi1, _, rfl, _, rfl, wl2, _, rfl, hw, fun w4 hw4 => ?_⟩
      rw [cut_tail]
      have s4 := snew s03 hw4 (.lst (iv v))
      refine ⟨d, l, w4, f, n, a, p.set i 48, v, rfl, srd s4 hd, ssqt' s4 hl, SqL.of upd_same, hf, hn, ha, set_pats hp (by simp), hv.tail (by decide), by omega, fun r5 x5 H5 s5 hr5 ht5 => ?_⟩
      refine ⟨r5, _, rfl, SqT.of hr5, rfl, _, _, rfl, _, _, rfl, rfl, ?_⟩
      have s5' := s4.trans s5
      have hw5 : SqL K H5 wl2 (iv (i :: v)) := ssqt' s5 (ssqt' (same_new hw4 _) hw)
      refine ⟨_, rfl, _, rfl, _, rfl, _, rfl, wl2, _, _, _, rfl, rfl, hw5, atI0 _ _, p, i, 49, congrArg (fun z => [vt p, V.int (i : Nat), V.str z]) t1, hp6, hi1, _, rfl, _, rfl, wl2, _, rfl, hw5, fun w6 hw6 => ?_⟩
      rw [cut_tail]
      have s6 := snew s5' hw6 (.lst (iv v))
      refine ⟨d, l, w6, f, n, a, p.set i 49, v, rfl, srd s6 hd, ssqt' s6 hl, SqL.of upd_same, hf, hn, ha, set_pats hp (by simp), hv.tail (by decide), by omega, fun r7 x7 H7 s7 hr7 ht7 => ?_⟩
      refine ⟨r7, _, rfl, SqT.of hr7, rfl, _, _, rfl, _, _, rfl, rfl, ?_⟩
      have s57 : Same H5 H7 := (same_new hw6 _).trans s7
      have s7' := s6.trans s7
      have hw7 : SqL K H7 wl2 (iv (i :: v)) := ssqt' s57 hw5
      refine ⟨_, rfl, wl2, _, _, _, rfl, rfl, hw7, atI0 _ _, _, rfl, _, rfl, by show 3 ≤ sizeLine; decide, fun t8 ht8 => ⟨_, rfl, _, rfl, _, rfl, _, _, rfl, _, _, rfl, rfl, by show 2 ≤ sizeLine; decide, fun t9 ht9 => ?_⟩⟩
      refine k t9 (.ref t8) _ (snew (snew s7' ht8 _) ht9 _) ?_ ?_
      · rw [upd_same, ew]
        refine congrArg (fun z : Int => some (HO.tup [V.ref t8, V.int z])) ?_
        generalize (walk (st f n) (lea f n a) m (p.set i 48) v).2 = A
        generalize (walk (st f n) (lea f n a) m (p.set i 49) v).2 = B
        rw [hg]
        split <;> omega
      · rw [ew]
        have sv : ∀ z, Same H7 (upd (upd H7 t8 (.tup [.int (i : Nat), x5, x7])) t9 (.tup [.ref t8, z])) := fun z => snew (same_new ht8 _) ht9 _
        refine ⟨t8, x5, x7, rfl, ?_, ht5.same (s57.trans (sv _)), ht7.same (sv _)⟩
        rw [upd_ne (fun e => by rw [e, upd_same] at ht9; cases ht9), upd_same]
end
end Lk

set_option Elab.async false
set_option linter.all false
set_option maxRecDepth 100000
set_option maxHeartbeats 4000000
/-! LkW8: the rounds from a question. -/
namespace Lk
open PySem PySem.Spec PyProof.Rows L2
/-- nothing is known -/
def blank (n : Nat) : Pat := List.replicate n 45
theorem blank_mem (n : Nat) : blank n ∈ pats n := mem_stg.mpr ⟨List.length_replicate, fun c hc => by rw [List.eq_of_mem_replicate hc]; decide⟩
theorem opn_le (p : Pat) : (opn p).length ≤ p.length := by
  have := List.length_filter_le (fun i => gt p i == 45) (List.range p.length)
  rw [List.length_range] at this
  exact this
theorem mul_minus {n : Nat} (h : n ≤ 6) : Txt.mul "-" (n : Int) = tx (blank n) := by
  have hc : n = 0 ∨ n = 1 ∨ n = 2 ∨ n = 3 ∨ n = 4 ∨ n = 5 ∨ n = 6 := by omega
  rcases hc with h | h | h | h | h | h | h <;> subst h <;> decide +kernel
theorem mul_ok {n : Nat} (h : n ≤ 6) (c : Str) (hc : c.length = 1) : MulOk c (n : Int) := by
  unfold MulOk
  rw [hc]
  have hc : n = 0 ∨ n = 1 ∨ n = 2 ∨ n = 3 ∨ n = 4 ∨ n = 5 ∨ n = 6 := by omega
  rcases hc with h | h | h | h | h | h | h <;> subst h <;> exact ⟨by decide, by decide, by decide⟩
/-- the whole walk -/
def wlk (f : Pat → Int) (n : Nat) (a : Int) : Tr × Nat := walk (st f n) (lea f n a) 7 (blank n) []
section
variable {P : Program} {w : World} {K : PySem.W.Frag} {mg : Str → Option Value} {base : Heap}
theorem ok_round_walk (T : TX K mg) (D : DF K mg "round_walk" s_round_walk) (C_chosen_pattern : Cal P w K mg base 6 "chosen_pattern" (spChosen K)) (C_unknown : Cal P w K mg base 1 "unknown" spUnknown) (C_put : Cal P w K mg base 1 "put" spPut) :
    ∀ m : Nat, Cal P w K mg base (7 + m) "round_walk" (spWalk K m)
  | 0 => ok_round_walk0 T D
  | m + 1 => ok_round_walk1 T D C_chosen_pattern C_unknown C_put (ok_round_walk T D C_chosen_pattern C_unknown C_put m)
def spFrom (K : PySem.W.Frag) : Sp := fun vs H Q _ => ∃ (q : Addr) (f : Pat → Int) (n : Nat) (a : Int), vs = [.ref q, .int a] ∧ QAt K H q f n ∧ Bi f ∧ n ≤ 6 ∧ (a = 0 ∨ a = 1) ∧
  ∀ (r : Addr) (v : V) (H' : Hp), Same H H' → H' r = some (.tup [v, .int ((wlk f n a).2 : Nat)]) → TreeAt H' (wlk f n a).1 v → Q (.ref r) H'
def spTree (K : PySem.W.Frag) : Sp := fun vs H Q _ => ∃ (q : Addr) (f : Pat → Int) (n : Nat) (a : Int), vs = [.ref q, .int a] ∧ QAt K H q f n ∧ Bi f ∧ n ≤ 6 ∧ (a = 0 ∨ a = 1) ∧
  ∀ (v : V) (H' : Hp), Same H H' → TreeAt H' (wlk f n a).1 v → Q v H'
def spMost (K : PySem.W.Frag) : Sp := fun vs H Q _ => ∃ (q : Addr) (f : Pat → Int) (n : Nat) (a : Int), vs = [.ref q, .int a] ∧ QAt K H q f n ∧ Bi f ∧ n ≤ 6 ∧ (a = 0 ∨ a = 1) ∧ RetS H Q (.int ((wlk f n a).2 : Nat))
theorem sc_rounds_from : FnScope ["question", "answer", "lean"] ["question", "answer"] (defScope s_rounds_from) := ⟨rfl, rfl, rfl, by decide +kernel, rfl, by decide +kernel, by decide +kernel⟩
theorem sc_rounds_tree : FnScope ["question", "answer"] ["question", "answer"] (defScope s_rounds_tree) := ⟨rfl, rfl, rfl, by decide +kernel, rfl, by decide +kernel, by decide +kernel⟩
theorem sc_most_rounds : FnScope ["question", "answer"] ["question", "answer"] (defScope s_most_rounds) := ⟨rfl, rfl, rfl, by decide +kernel, rfl, by decide +kernel, by decide +kernel⟩
theorem ok_rounds_from (T : TX K mg) (B : BX P w K mg base) (D : DF K mg "rounds_from" s_rounds_from) (C_need_bit : Cal P w K mg base 2 "need_bit" spNeedBit) (C_lean_patterns : Cal P w K mg base 6 "lean_patterns" (spLean K)) (C_settling_patterns : Cal P w K mg base 5 "settling_patterns" (spSettling K))
    (C_round_walk : Cal P w K mg base 14 "round_walk" (spWalk K 7)) : Cal P w K mg base 15 "rounds_from" (spFrom K) := by
  refine mkCal D sc_rounds_from (fun _ _ _ _ _ _ us hl => match us, hl with | [_, _], _ => rfl) (fun vs H Q E h => ?_) (fun fa cdv A outer s H vs Q E hr h => ?_)
  · obtain ⟨q, f, n, a, rfl, _⟩ := h; rfl
  obtain ⟨q, f, n, a, rfl, hq, hf, hn, ha, k⟩ := h
  refine ⟨_, (pss_cons (ps_expr (pe_c C_need_bit (by exact hr) (by decide) (by rfl) (pa_cons (pv 1) pa_nil)))
      (pss_cons (ps_set (i := 2) sc_rounds_from.nd rfl (Or.inl rfl) (pe_c C_lean_patterns (by exact hr) (by decide) (by rfl) (pa_cons (pv 0) (pa_cons (pv 1) pa_nil))))
      (pss_one (ps_ret (pe_c C_round_walk (by exact hr) (by decide) (by rfl) (pa_cons (pe_c C_settling_patterns (by exact hr) (by decide) (by rfl) (pa_cons (pv 0) pa_nil)) (pa_cons (pv 2) (pa_cons (pe_op op_mulS pe_str (pe_many T B hr (by decide) 0 rfl (by first | exact Or.inl rfl | exact Or.inr (Or.inl rfl)))) (pa_cons (pe_lst pa_nil) pa_nil))))))))), ?_⟩
  refine ⟨_, rfl, a, rfl, by omega, by omega, ?_⟩
  refine ⟨_, rfl, _, rfl, q, f, n, a, rfl, hq, hf, hn, ha, fun l H1 s1 l0 hl1 => ?_⟩
  have hq1 := hq.same s1
  refine ⟨_, rfl, q, f, n, rfl, hq1, hf, hn, fun d H2 s2 d0 hd2 => ?_⟩
  have hq2 := hq1.same s2
  refine ⟨_, rfl, _, rfl, q, f, n, rfl, hq2, _, _, rfl, rfl, mul_ok hn _ rfl, ⟨Nat.zero_le _, fun wl hwl => ?_⟩⟩
  rw [mul_minus hn]
  have hw3 := same_new hwl (.lst [])
  have ol := opn_le (blank n)
  refine ⟨d, l, wl, f, n, a, blank n, [], rfl, .inl (hw3 _ _ hd2), SqL.of (hw3 _ _ (s2 _ _ hl1)), SqL.of upd_same, hf, hn, ha, blank_mem n, ⟨List.nodup_nil, fun i hi => nomatch hi⟩, by rw [blank, List.length_replicate] at ol; rw [blank]; omega, fun r v H' s' hr' ht' => k r v H' (s1.trans (s2.trans (hw3.trans s'))) hr' ht'⟩
theorem ok_rounds_tree (T : TX K mg) (D : DF K mg "rounds_tree" s_rounds_tree) (C_rounds_from : Cal P w K mg base 15 "rounds_from" (spFrom K)) : Cal P w K mg base 16 "rounds_tree" (spTree K) := by
  refine mkCal D sc_rounds_tree (fun _ _ _ _ _ _ us hl => match us, hl with | [_, _], _ => rfl) (fun vs H Q E h => ?_) (fun fa cdv A outer s H vs Q E hr h => ?_)
  · obtain ⟨q, f, n, a, rfl, _⟩ := h; rfl
  obtain ⟨q, f, n, a, rfl, hq, hf, hn, ha, k⟩ := h
  refine ⟨_, (pss_one (ps_ret (pe_ix ix_tup (pe_c C_rounds_from (by exact hr) (by decide) (by rfl) (pa_cons (pv 0) (pa_cons (pv 1) pa_nil))) pe_int (by intro _ _; rfl)))), ?_⟩
  exact ⟨_, rfl, _, rfl, q, f, n, a, rfl, hq, hf, hn, ha, fun r v H' s' hr' ht' => ⟨r, _, 0, v, rfl, rfl, SqT.of hr', atI_nat (j := 0) rfl, k v H' s' ht'⟩⟩
theorem ok_most_rounds (T : TX K mg) (D : DF K mg "most_rounds" s_most_rounds) (C_rounds_from : Cal P w K mg base 15 "rounds_from" (spFrom K)) : Cal P w K mg base 16 "most_rounds" (spMost K) := by
  refine mkCal D sc_most_rounds (fun _ _ _ _ _ _ us hl => match us, hl with | [_, _], _ => rfl) (fun vs H Q E h => ?_) (fun fa cdv A outer s H vs Q E hr h => ?_)
  · obtain ⟨q, f, n, a, rfl, _⟩ := h; rfl
  obtain ⟨q, f, n, a, rfl, hq, hf, hn, ha, k⟩ := h
  refine ⟨_, (pss_one (ps_ret (pe_ix ix_tup (pe_c C_rounds_from (by exact hr) (by decide) (by rfl) (pa_cons (pv 0) (pa_cons (pv 1) pa_nil))) pe_int (by intro _ _; rfl)))), ?_⟩
  exact ⟨_, rfl, _, rfl, q, f, n, a, rfl, hq, hf, hn, ha, fun r v H' s' hr' ht' => ⟨r, _, 1, _, rfl, rfl, SqT.of hr', atI_nat (j := 1) rfl, k H' s'⟩⟩
end
end Lk

set_option Elab.async false
set_option linter.all false
set_option maxRecDepth 100000
set_option maxHeartbeats 4000000
/-! LkW9: the law's own drawing. -/
namespace Lk
open PySem PySem.Spec PyProof.Rows L2
theorem eqvAll_nil (ds : List PyData) : PyData.eqvAll ds [] = ds.isEmpty := by
  cases ds <;> rfl
theorem eqv_nilL (ds : List PyData) : PyData.eqv (.list ds) (.list []) = ds.isEmpty := by
  rw [← eqvAll_nil]; simp only [PyData.eqv]
theorem eqv_nilT (ds : List PyData) : PyData.eqv (.tuple ds) (.tuple []) = ds.isEmpty := by
  rw [← eqvAll_nil]; simp only [PyData.eqv]
theorem shLI (ns : List Int) : SeqAt.shaped (.list (ns.map PyData.int)) = true := by
  unfold SeqAt.shaped
  rw [Bool.and_eq_true, decide_eq_true_iff]
  refine ⟨by simp only [PyData.canLay0]; exact canLayAll_ints ns, ?_⟩
  have := PySem.W.depth_ints ns
  simp [PyData.depth, this]
theorem shTI (ns : List Int) : SeqAt.shaped (.tuple (ns.map PyData.int)) = true := by
  unfold SeqAt.shaped
  rw [Bool.and_eq_true, decide_eq_true_iff]
  refine ⟨by simp only [PyData.canLay0]; exact canLayAll_ints ns, ?_⟩
  have := PySem.W.depth_ints ns
  simp [PyData.depth, this]
theorem shL0 : SeqAt.shaped (.list []) = true := shLI []
theorem shT0 : SeqAt.shaped (.tuple []) = true := shTI []
/-- the bag; its own list is none of av -/
def BagAt (H : Hp) (b : Addr) (av : List Addr) : Prop := ∃ (l : Addr) (s u c : Int) (ns : List Int), H b = some (.lst [.ref l, .int s, .int u, .int c]) ∧ H l = some (.lst (ns.map V.int)) ∧ l ≠ b ∧ l ∉ av
theorem BagAt.same {H H' : Hp} {b : Addr} {av : List Addr} (h : BagAt H b av) (e : Same H H') : BagAt H' b av := by
  obtain ⟨l, s, u, c, ns, h1, h2, h3⟩ := h
  exact ⟨l, s, u, c, ns, e _ _ h1, e _ _ h2, h3⟩
theorem BagAt.upd {H : Hp} {b a : Addr} {av : List Addr} (h : BagAt H b av) (hb : a ≠ b) (ha : a ∈ av) (o : HO) : BagAt (upd H a o) b av := by
  obtain ⟨l, s, u, c, ns, h1, h2, h3, h4⟩ := h
  exact ⟨l, s, u, c, ns, by rw [upd_ne (fun e => hb e.symm)]; exact h1, by rw [upd_ne (fun e : l = a => h4 (by rw [e]; exact ha))]; exact h2, h3, h4⟩
theorem BagAt.less {H : Hp} {b : Addr} {av av' : List Addr} (h : BagAt H b av) (i : ∀ a ∈ av', a ∈ av) : BagAt H b av' := by
  obtain ⟨l, s, u, c, ns, h1, h2, h3, h4⟩ := h
  exact ⟨l, s, u, c, ns, h1, h2, h3, fun m => h4 (i _ m)⟩
/-- one more that the bag's list is not: a new one -/
theorem BagAt.more {H : Hp} {b a : Addr} {av : List Addr} (h : BagAt H b av) (ha : H a = none) : BagAt H b (a :: av) := by
  obtain ⟨l, s, u, c, ns, h1, h2, h3, h4⟩ := h
  exact ⟨l, s, u, c, ns, h1, h2, h3, fun m => (List.mem_cons.mp m).elim (fun e => by rw [← e, h2] at ha; cases ha) h4⟩
theorem BagAt.at_ {H : Hp} {b : Addr} {av : List Addr} (h : BagAt H b av) : ∃ o, H b = some o := by
  obtain ⟨l, s, u, c, ns, h1, _⟩ := h
  exact ⟨_, h1⟩
theorem bag_put {H : Hp} {b l : Addr} {s u c : Int} {ns : List Int} {av : List Addr} (h2 : H l = some (.lst (ns.map V.int))) (h3 : l ≠ b) (h4 : l ∉ av) : BagAt (upd H b (.lst [.ref l, .int s, .int u, .int c])) b av :=
  ⟨l, s, u, c, ns, upd_same, by rw [upd_ne h3]; exact h2, h3, h4⟩
theorem draw_end {Q : VK} {m : Nat} {x : Int} {H : Hp} (hm : (0 : Int) < (m : Nat)) (k : ∀ d : Nat, d < m → Q (.int (d : Nat)) H) : Q (.int (x % (m : Nat))) H := by
  have h1 := Int.emod_nonneg x (Int.ne_of_gt hm)
  have h2 := Int.emod_lt_of_pos x hm
  have e : x % (m : Nat) = ((x % (m : Nat)).toNat : Nat) := by omega
  rw [e]
  exact k _ (by omega)
theorem pos0 {x M : Int} (h : 0 < M) : (fun (_ j : Int) => 0 < j) x M := h
theorem mod_small (x : Int) {M : Int} (h : 0 < M) (h2 : M < 2 ^ 63) : (x % M).natAbs < 2 ^ 64 := by
  have h1 := Int.emod_nonneg x (Int.ne_of_gt h)
  have h3 := Int.emod_lt_of_pos x h
  omega
theorem cut_one (v : V) (l : List V) : cutV (v :: l) (some 1) none = l := by
  unfold cutV
  have e : HT.sIx (v :: l).length 0 (some 1) = 1 := by
    have := HT.sIx_nat (n := (v :: l).length) (d := 0) (k := 1)
    rw [show ((1 : Nat) : Int) = 1 from rfl] at this
    rw [this, List.length_cons]; omega
  rw [e, HT.sIx_none, List.take_of_length_le]
  · rfl
  · rw [List.length_drop]; exact Nat.le_refl _
theorem emod_nat {x m : Int} (h : 0 < m) : ∃ d : Nat, x % m = (d : Int) ∧ (d : Int) < m := by
  have h1 := Int.emod_nonneg x (Int.ne_of_gt h)
  have h2 := Int.emod_lt_of_pos x h
  exact ⟨(x % m).toNat, by omega, by omega⟩
section
variable {P : Program} {w : World} {K : PySem.W.Frag} {mg : Str → Option Value} {base : Heap}
def spBag (K : PySem.W.Frag) : Sp := fun vs H Q _ => ∃ (a : Addr) (ns : List Int), vs = [.ref a] ∧ SqL K H a (ns.map V.int) ∧ ∀ b H', Same H H' → BagAt H' b [] → H b = none → Q (.ref b) H'
def spDraw (K : PySem.W.Frag) : Sp := fun vs H Q _ => ∃ (b : Addr) (m : Nat) (av : List Addr), vs = [.ref b, .int (m : Nat)] ∧ 0 < m ∧ m ≤ 1000 ∧ BagAt H b av ∧ (∀ a ∈ av, H a ≠ none) ∧ ∀ (d : Nat) (H' : Hp), d < m → SameBut b H H' → BagAt H' b av → Q (.int (d : Nat)) H'
theorem sc_law_bag : FnScope ["_law_script"] ["_law_script"] (defScope s_law_bag) := ⟨rfl, rfl, rfl, by decide +kernel, rfl, by decide +kernel, by decide +kernel⟩
theorem sc_law_draw : FnScope ["_law_bag_here", "_law_many", "_law_cell", "_law_digit", "_law_mixed_here"] ["_law_bag_here", "_law_many"] (defScope s_law_draw) := ⟨rfl, rfl, rfl, by decide +kernel, rfl, by decide +kernel, by decide +kernel⟩
theorem ok_law_bag (T : TX K mg) (D : DF K mg "_law_bag" s_law_bag) : Cal P w K mg base 1 "_law_bag" (spBag K) := by
  refine mkCal D sc_law_bag (fun _ _ _ _ _ _ us hl => match us, hl with | [_], _ => rfl) (fun vs H Q E h => ?_) (fun fa cdv A outer s H vs Q E hr h => ?_)
  · obtain ⟨a, ns, rfl, _⟩ := h; rfl
  obtain ⟨a, ns, rfl, ha, k⟩ := h
  refine ⟨_, (pss_one (ps_ret (pe_lst (pa_cons (pe_callTy call_list_of (by rfl) T.f_list (by decide +kernel) (pa_cons (pv 0) pa_nil)) (pa_cons pe_int (pa_cons pe_int (pa_cons pe_int pa_nil))))))), ?_⟩
  refine ⟨_, rfl, a, _, rfl, .inl ha, fun l hl => ⟨by show 4 ≤ sizeLine; decide, fun b hb => ?_⟩⟩
  have hlb : l ≠ b := fun e => by rw [← e, upd_same] at hb; cases hb
  have s1 := same_new hl (.lst (ns.map V.int))
  exact k b _ (snew s1 hb _) (bag_put upd_same hlb List.not_mem_nil) (s1.free hb)
theorem ok_law_draw (T : TX K mg) (D : DF K mg "_law_draw" s_law_draw) : Cal P w K mg base 1 "_law_draw" (spDraw K) := by
  refine mkCal D sc_law_draw (fun _ _ _ _ _ _ us hl => match us, hl with | [_, _], _ => rfl) (fun vs H Q E h => ?_) (fun fa cdv A outer st H0 vs Q E hr h => ?_)
  · obtain ⟨b, m, av, rfl, _⟩ := h; rfl
  obtain ⟨b, m, av, rfl, hm, hm2, ⟨l, s, u, c, ns, hb, hl, hlb, hav⟩, htr, k⟩ := h
  have hm0 : (0 : Int) < (m : Nat) := by omega
  have hmb : ((m : Nat) : Int) < 1073741824 := by omega
  refine ⟨_, (pss_cons (ps_if (PW.pt (pw_and (pt_cmpR op_eq (pe_ix ix_list (pv 0) pe_int (by intro _ _; rfl)) pe_int (nomark _)) (pw_and1 (pt_cmpR (op_neD hr.units) (pe_ix ix_list (pv 0) pe_int (by intro _ _; rfl)) (pe_lst pa_nil) (nomark _))))) (pss_cons (ps_set (i := 2) sc_law_draw.nd rfl (Or.inl rfl) (pe_ix ix_list (pe_ix ix_list (pv 0) pe_int (by intro _ _; rfl)) pe_int (by intro _ _; rfl)))
      (pss_cons (ps_asg (pe_slice sl_list (pe_ix ix_list (pv 0) pe_int (by intro _ _; rfl)) (po_some pe_int) po_none) (pg_sub (pv 0) pe_int set_list (by intro _; rfl)))
      (pss_cons (ps_asg (pe_op op_mod (pe_callTy call_int1 (by rfl) T.f_int (by decide +kernel) (pa_cons (pe_op op_add (pe_op op_add (pe_op op_mul (pe_ix ix_list (pv 0) pe_int (by intro _ _; rfl)) pe_int) (pe_op op_mul (pv 2) pe_int)) pe_int) pa_nil)) pe_int) (pg_sub (pv 0) pe_int set_list (by intro _; rfl)))
      (pss_one (ps_if (pt_cmpR op_ge (pe_callB call_abs (by rfl) T.f_abs (by decide +kernel) (pa_cons (pv 2) pa_nil)) (pe_op op_pow pe_int pe_int) (nomark _)) (pss_one (ps_asg (pe_callB call_abs (by rfl) T.f_abs (by decide +kernel) (pa_cons (pv 2) pa_nil)) (pg_sub (pv 0) pe_int set_list (by intro _; rfl)))) pss_nil))))) pss_nil)
      (pss_cons (ps_if (pt_cmpR op_gt (pe_ix ix_list (pv 0) pe_int (by intro _ _; rfl)) pe_int (nomark _)) (pss_cons (ps_set (i := 3) sc_law_draw.nd rfl (Or.inl rfl) (pe_op op_mod (pe_callTy call_int1 (by rfl) T.f_int (by decide +kernel) (pa_cons (pe_ix ix_list (pv 0) pe_int (by intro _ _; rfl)) pa_nil)) (pv 1)))
      (pss_cons (ps_asg (pe_op op_fdiv (pe_ix ix_list (pv 0) pe_int (by intro _ _; rfl)) (pv 1)) (pg_sub (pv 0) pe_int set_list (by intro _; rfl)))
      (pss_one (ps_ret (pv 3))))) pss_nil)
      (pss_cons (ps_asg (pe_op op_add (pe_ix ix_list (pv 0) pe_int (by intro _ _; rfl)) pe_int) (pg_sub (pv 0) pe_int set_list (by intro _; rfl)))
      (pss_cons (ps_set (i := 4) sc_law_draw.nd rfl (Or.inl rfl) (pe_op op_mod (pe_callTy call_int1 (by rfl) T.f_int (by decide +kernel) (pa_cons (pe_op op_add (pe_ix ix_list (pv 0) pe_int (by intro _ _; rfl)) (pe_op op_mul (pe_ix ix_list (pv 0) pe_int (by intro _ _; rfl)) pe_int)) pa_nil)) pe_int))
      (pss_cons (ps_set (i := 4) sc_law_draw.nd rfl (Or.inl rfl) (pe_op op_mod (pe_callTy call_int1 (by rfl) T.f_int (by decide +kernel) (pa_cons (pe_op op_add (pe_op op_add (pe_op op_pow (pv 4) pe_int) (pe_op op_mul (pe_ix ix_list (pv 0) pe_int (by intro _ _; rfl)) pe_int)) pe_int) pa_nil)) pe_int))
      (pss_one (ps_ret (pe_op op_mod (pe_op op_fdiv (pe_op op_mod (pe_callTy call_int1 (by rfl) T.f_int (by decide +kernel) (pa_cons (pe_op op_add (pe_op op_pow (pv 4) pe_int) (pe_op op_mul pe_int (pv 4))) pa_nil)) pe_int) pe_int) (pv 1))))))))), ?_⟩
  refine ⟨_, rfl, b, _, 1, _, rfl, rfl, SqL.of hb, atI_nat (j := 1) rfl, rfl, _, rfl, ?_⟩
  refine ite2 (fun h1 => ?_) (fun h1 => ?_)
  · refine ⟨_, rfl, b, _, 0, _, rfl, rfl, SqL.of hb, atI_nat (j := 0) rfl, Nat.zero_le _, fun p0 hp0 => ?_⟩
    have sp := same_new hp0 (.lst [])
    refine ⟨.list (ns.map PyData.int), .list [], .lst (SqL.of (sp _ _ hl)) (dp_ints ns), .lst (SqL.of upd_same) .nil, shLI ns, shL0, _, rfl, ?_⟩
    rw [eqv_nilL]
    cases ns with
    | nil =>
      refine iteF ?_
      have sb : SameBut b H0 _ := sbut sp
      replace hb := sp _ _ hb
      replace hl := sp _ _ hl
      refine ⟨_, rfl, b, _, 1, _, rfl, rfl, SqL.of hb, atI_nat (j := 1) rfl, _, _, rfl, rfl, _, rfl, ?_⟩
      refine ite2 (fun hpos => ?_) (fun hpos => ?_)
      · refine ⟨_, rfl, b, _, 1, _, rfl, rfl, SqL.of hb, atI_nat (j := 1) rfl, .inl ⟨_, rfl, _, rfl, _, _, rfl, rfl, hm0, ?_⟩⟩
        refine ⟨_, rfl, b, _, 1, _, rfl, rfl, SqL.of hb, atI_nat (j := 1) rfl, _, rfl, _, _, rfl, rfl, ⟨hm0, hmb⟩, ?_⟩
        refine ⟨_, rfl, b, _, 1, 1, rfl, rfl, hb, rfl, _, rfl, ?_⟩
        exact draw_end hm0 fun d hd => k d _ hd (sb.trans (SameBut.upd b _ _)) (bag_put hl hlb hav)
      · refine ⟨_, rfl, b, _, 3, _, rfl, rfl, SqL.of hb, atI_nat (j := 3) rfl, _, _, rfl, rfl, ?_⟩
        refine ⟨_, rfl, b, _, 3, 3, rfl, rfl, hb, rfl, ?_⟩
        refine ⟨_, rfl, b, _, 2, _, rfl, rfl, SqL.of upd_same, atI_nat (j := 2) rfl, _, rfl, b, _, 3, _, rfl, rfl, SqL.of upd_same, atI_nat (j := 3) rfl, _, _, rfl, rfl, .inr ⟨by decide, by decide⟩, _, _, rfl, rfl, .inl ⟨_, rfl, _, _, rfl, rfl, by show (0 : Int) < _; decide, ?_⟩⟩
        refine ⟨_, rfl, _, _, rfl, rfl, ⟨by decide, by decide, mod_small _ (by decide) (by decide)⟩, _, rfl, b, _, 3, _, rfl, rfl, SqL.of upd_same, atI_nat (j := 3) rfl, _, _, rfl, rfl, .inr ⟨by decide, by decide⟩, _, _, rfl, rfl, _, _, rfl, rfl, .inl ⟨_, rfl, _, _, rfl, rfl, by show (0 : Int) < _; decide, ?_⟩⟩
        refine ⟨_, rfl, _, _, rfl, rfl, ⟨by decide, by decide, mod_small _ (by decide) (by decide)⟩, _, rfl, _, _, rfl, rfl, .inl ⟨by decide, by decide⟩, _, _, rfl, rfl, .inl ⟨_, rfl, _, _, rfl, rfl, by show (0 : Int) < _; decide, _, _, rfl, rfl, ⟨by decide, by decide⟩, _, rfl, _, _, rfl, rfl, hm0, ?_⟩⟩
        exact draw_end hm0 fun d hd => k d _ hd (sb.trans (SameBut.upd b _ _)) (bag_put hl hlb hav)
    | cons n0 ns =>
      refine iteT ?_
      have sb0 : SameBut b H0 _ := sbut sp
      have hb0 := sp _ _ hb
      have hl0 := sp _ _ hl
      refine ⟨_, rfl, b, _, 0, _, rfl, rfl, SqL.of hb0, atI_nat (j := 0) rfl, l, _, 0, .int n0, rfl, rfl, SqL.of hl0, atI_nat (j := 0) rfl, ?_⟩
      refine ⟨_, rfl, b, _, 0, _, rfl, rfl, SqL.of hb0, atI_nat (j := 0) rfl, _, rfl, l, _, rfl, SqL.of hl0, fun l2 hl2 => ?_⟩
      have e1 : cutV ((n0 :: ns).map V.int) (some 1) none = ns.map V.int := cut_one _ _
      rw [e1]
      have s2 := same_new hl2 (.lst (ns.map V.int))
      have hb2 := s2 _ _ hb0
      have hlb2 : l2 ≠ b := fun e => by rw [e] at hl2; rw [hl2] at hb0; cases hb0
      have sb2 := sb0.trans (sbut s2)
      refine ⟨_, rfl, b, _, 0, 0, rfl, rfl, hb2, rfl, ?_⟩
      refine ⟨_, rfl, b, _, 2, _, rfl, rfl, SqL.of upd_same, atI_nat (j := 2) rfl, _, _, rfl, rfl, .inr ⟨by decide, by decide⟩, _, rfl, _, _, rfl, rfl, .inr ⟨by decide, by decide⟩, _, _, rfl, rfl, _, _, rfl, rfl, .inl ⟨_, rfl, _, _, rfl, rfl, by show (0 : Int) < _; decide, _, rfl, b, _, 2, 2, rfl, rfl, upd_same, rfl, ?_⟩⟩
      have sb3 := (sb2.trans (SameBut.upd b _ (.lst [.ref l2, .int s, .int u, .int c]))).trans (SameBut.upd b _ (.lst [.ref l2, .int s, .int ((u * 69069 + n0 * 48271 + 5) % 2147483647), .int c]))
      have hb3 := upd_same (H := upd (upd (upd H0 p0 (.lst [])) l2 (.lst (ns.map V.int))) b (.lst [.ref l2, .int s, .int u, .int c])) (a := b) (o := .lst [.ref l2, .int s, .int ((u * 69069 + n0 * 48271 + 5) % 2147483647), .int c])
      have hl3 : (upd (upd (upd (upd H0 p0 (.lst [])) l2 (.lst (ns.map V.int))) b (.lst [.ref l2, .int s, .int u, .int c])) b (.lst [.ref l2, .int s, .int ((u * 69069 + n0 * 48271 + 5) % 2147483647), .int c])) l2 = some (.lst (ns.map V.int)) := by
        rw [upd_ne hlb2, upd_ne hlb2, upd_same]
      replace hav : l2 ∉ av := fun m => by
        cases e : H0 l2 with
        | none => exact htr l2 m e
        | some o => rw [sp _ _ e] at hl2; cases hl2
      clear hlb
      rename l2 ≠ b => hlb
      refine ⟨_, rfl, _, rfl, _, _, rfl, rfl, ⟨by decide, by decide, by decide⟩, _, _, rfl, rfl, _, rfl, ?_⟩
      refine ite2 (fun hbig => ?_) (fun hbig => ?_)
      · refine ⟨_, rfl, _, rfl, _, rfl, b, _, 1, 1, rfl, rfl, hb3, rfl, ?_⟩
        have sb := sb3.trans (SameBut.upd b _ (.lst [.ref l2, .int (if n0 < 0 then -n0 else n0), .int ((u * 69069 + n0 * 48271 + 5) % 2147483647), .int c]))
        have hl := SameBut.upd b _ (.lst [.ref l2, .int (if n0 < 0 then -n0 else n0), .int ((u * 69069 + n0 * 48271 + 5) % 2147483647), .int c]) _ _ hlb hl3
        have hb := upd_same (H := (upd (upd (upd (upd H0 p0 (.lst [])) l2 (.lst (ns.map V.int))) b (.lst [.ref l2, .int s, .int u, .int c])) b (.lst [.ref l2, .int s, .int ((u * 69069 + n0 * 48271 + 5) % 2147483647), .int c]))) (a := b) (o := .lst [.ref l2, .int (if n0 < 0 then -n0 else n0), .int ((u * 69069 + n0 * 48271 + 5) % 2147483647), .int c])
        refine ⟨_, rfl, b, _, 1, _, rfl, rfl, SqL.of hb, atI_nat (j := 1) rfl, _, _, rfl, rfl, _, rfl, ?_⟩
        refine ite2 (fun hpos => ?_) (fun hpos => ?_)
        · refine ⟨_, rfl, b, _, 1, _, rfl, rfl, SqL.of hb, atI_nat (j := 1) rfl, .inl ⟨_, rfl, _, rfl, _, _, rfl, rfl, hm0, ?_⟩⟩
          refine ⟨_, rfl, b, _, 1, _, rfl, rfl, SqL.of hb, atI_nat (j := 1) rfl, _, rfl, _, _, rfl, rfl, ⟨hm0, hmb⟩, ?_⟩
          refine ⟨_, rfl, b, _, 1, 1, rfl, rfl, hb, rfl, _, rfl, ?_⟩
          exact draw_end hm0 fun d hd => k d _ hd (sb.trans (SameBut.upd b _ _)) (bag_put hl hlb hav)
        · refine ⟨_, rfl, b, _, 3, _, rfl, rfl, SqL.of hb, atI_nat (j := 3) rfl, _, _, rfl, rfl, ?_⟩
          refine ⟨_, rfl, b, _, 3, 3, rfl, rfl, hb, rfl, ?_⟩
          refine ⟨_, rfl, b, _, 2, _, rfl, rfl, SqL.of upd_same, atI_nat (j := 2) rfl, _, rfl, b, _, 3, _, rfl, rfl, SqL.of upd_same, atI_nat (j := 3) rfl, _, _, rfl, rfl, .inr ⟨by decide, by decide⟩, _, _, rfl, rfl, .inl ⟨_, rfl, _, _, rfl, rfl, by show (0 : Int) < _; decide, ?_⟩⟩
          refine ⟨_, rfl, _, _, rfl, rfl, ⟨by decide, by decide, mod_small _ (by decide) (by decide)⟩, _, rfl, b, _, 3, _, rfl, rfl, SqL.of upd_same, atI_nat (j := 3) rfl, _, _, rfl, rfl, .inr ⟨by decide, by decide⟩, _, _, rfl, rfl, _, _, rfl, rfl, .inl ⟨_, rfl, _, _, rfl, rfl, by show (0 : Int) < _; decide, ?_⟩⟩
          refine ⟨_, rfl, _, _, rfl, rfl, ⟨by decide, by decide, mod_small _ (by decide) (by decide)⟩, _, rfl, _, _, rfl, rfl, .inl ⟨by decide, by decide⟩, _, _, rfl, rfl, .inl ⟨_, rfl, _, _, rfl, rfl, by show (0 : Int) < _; decide, _, _, rfl, rfl, ⟨by decide, by decide⟩, _, rfl, _, _, rfl, rfl, hm0, ?_⟩⟩
          exact draw_end hm0 fun d hd => k d _ hd (sb.trans (SameBut.upd b _ _)) (bag_put hl hlb hav)
      · have sb := sb3
        have hl := hl3
        have hb := hb3
        refine ⟨_, rfl, b, _, 1, _, rfl, rfl, SqL.of hb, atI_nat (j := 1) rfl, _, _, rfl, rfl, _, rfl, ?_⟩
        refine ite2 (fun hpos => ?_) (fun hpos => ?_)
        · refine ⟨_, rfl, b, _, 1, _, rfl, rfl, SqL.of hb, atI_nat (j := 1) rfl, .inl ⟨_, rfl, _, rfl, _, _, rfl, rfl, hm0, ?_⟩⟩
          refine ⟨_, rfl, b, _, 1, _, rfl, rfl, SqL.of hb, atI_nat (j := 1) rfl, _, rfl, _, _, rfl, rfl, ⟨hm0, hmb⟩, ?_⟩
          refine ⟨_, rfl, b, _, 1, 1, rfl, rfl, hb, rfl, _, rfl, ?_⟩
          exact draw_end hm0 fun d hd => k d _ hd (sb.trans (SameBut.upd b _ _)) (bag_put hl hlb hav)
        · refine ⟨_, rfl, b, _, 3, _, rfl, rfl, SqL.of hb, atI_nat (j := 3) rfl, _, _, rfl, rfl, ?_⟩
          refine ⟨_, rfl, b, _, 3, 3, rfl, rfl, hb, rfl, ?_⟩
          refine ⟨_, rfl, b, _, 2, _, rfl, rfl, SqL.of upd_same, atI_nat (j := 2) rfl, _, rfl, b, _, 3, _, rfl, rfl, SqL.of upd_same, atI_nat (j := 3) rfl, _, _, rfl, rfl, .inr ⟨by decide, by decide⟩, _, _, rfl, rfl, .inl ⟨_, rfl, _, _, rfl, rfl, by show (0 : Int) < _; decide, ?_⟩⟩
          refine ⟨_, rfl, _, _, rfl, rfl, ⟨by decide, by decide, mod_small _ (by decide) (by decide)⟩, _, rfl, b, _, 3, _, rfl, rfl, SqL.of upd_same, atI_nat (j := 3) rfl, _, _, rfl, rfl, .inr ⟨by decide, by decide⟩, _, _, rfl, rfl, _, _, rfl, rfl, .inl ⟨_, rfl, _, _, rfl, rfl, by show (0 : Int) < _; decide, ?_⟩⟩
          refine ⟨_, rfl, _, _, rfl, rfl, ⟨by decide, by decide, mod_small _ (by decide) (by decide)⟩, _, rfl, _, _, rfl, rfl, .inl ⟨by decide, by decide⟩, _, _, rfl, rfl, .inl ⟨_, rfl, _, _, rfl, rfl, by show (0 : Int) < _; decide, _, _, rfl, rfl, ⟨by decide, by decide⟩, _, rfl, _, _, rfl, rfl, hm0, ?_⟩⟩
          exact draw_end hm0 fun d hd => k d _ hd (sb.trans (SameBut.upd b _ _)) (bag_put hl hlb hav)
  · have sb := SameBut.refl b H0
    refine iteF ?_
    refine ⟨_, rfl, b, _, 1, _, rfl, rfl, SqL.of hb, atI_nat (j := 1) rfl, _, _, rfl, rfl, _, rfl, ?_⟩
    refine ite2 (fun hpos => ?_) (fun hpos => ?_)
    · refine ⟨_, rfl, b, _, 1, _, rfl, rfl, SqL.of hb, atI_nat (j := 1) rfl, .inl ⟨_, rfl, _, rfl, _, _, rfl, rfl, hm0, ?_⟩⟩
      refine ⟨_, rfl, b, _, 1, _, rfl, rfl, SqL.of hb, atI_nat (j := 1) rfl, _, rfl, _, _, rfl, rfl, ⟨hm0, hmb⟩, ?_⟩
      refine ⟨_, rfl, b, _, 1, 1, rfl, rfl, hb, rfl, _, rfl, ?_⟩
      exact draw_end hm0 fun d hd => k d _ hd (sb.trans (SameBut.upd b _ _)) (bag_put hl hlb hav)
    · refine ⟨_, rfl, b, _, 3, _, rfl, rfl, SqL.of hb, atI_nat (j := 3) rfl, _, _, rfl, rfl, ?_⟩
      refine ⟨_, rfl, b, _, 3, 3, rfl, rfl, hb, rfl, ?_⟩
      refine ⟨_, rfl, b, _, 2, _, rfl, rfl, SqL.of upd_same, atI_nat (j := 2) rfl, _, rfl, b, _, 3, _, rfl, rfl, SqL.of upd_same, atI_nat (j := 3) rfl, _, _, rfl, rfl, .inr ⟨by decide, by decide⟩, _, _, rfl, rfl, .inl ⟨_, rfl, _, _, rfl, rfl, by show (0 : Int) < _; decide, ?_⟩⟩
      refine ⟨_, rfl, _, _, rfl, rfl, ⟨by decide, by decide, mod_small _ (by decide) (by decide)⟩, _, rfl, b, _, 3, _, rfl, rfl, SqL.of upd_same, atI_nat (j := 3) rfl, _, _, rfl, rfl, .inr ⟨by decide, by decide⟩, _, _, rfl, rfl, _, _, rfl, rfl, .inl ⟨_, rfl, _, _, rfl, rfl, by show (0 : Int) < _; decide, ?_⟩⟩
      refine ⟨_, rfl, _, _, rfl, rfl, ⟨by decide, by decide, mod_small _ (by decide) (by decide)⟩, _, rfl, _, _, rfl, rfl, .inl ⟨by decide, by decide⟩, _, _, rfl, rfl, .inl ⟨_, rfl, _, _, rfl, rfl, by show (0 : Int) < _; decide, _, _, rfl, rfl, ⟨by decide, by decide⟩, _, rfl, _, _, rfl, rfl, hm0, ?_⟩⟩
      exact draw_end hm0 fun d hd => k d _ hd (sb.trans (SameBut.upd b _ _)) (bag_put hl hlb hav)
end
end Lk

set_option Elab.async false
set_option linter.all false
set_option maxRecDepth 100000
set_option maxHeartbeats 4000000
/-! LkW10: the law's small helpers. -/
namespace Lk
open PySem PySem.Spec PyProof.Rows L2
theorem erase_perm {α : Type} : ∀ {l : List α} {i : Nat} {y : α}, l[i]? = some y → (y :: l.eraseIdx i).Perm l
  | [], i, y, h => by simp at h
  | a :: t, 0, y, h => by
    have e : a = y := Option.some.inj h
    rw [e]
    exact List.Perm.refl _
  | a :: t, i + 1, y, h => by
    have h' : t[i]? = some y := h
    exact (List.Perm.swap a y _).trans (List.Perm.cons a (erase_perm h'))
theorem ixN_nat {n j : Nat} (h : j < n) : ixN n (j : Int) = some j := by
  unfold ixN
  rw [if_pos (by omega), if_pos (by omega)]; rfl
/-- whether the input fits the pattern -/
def fitB (x p : Pat) : Bool := (List.range p.length).all fun i => gt p i == 45 || gt p i == gt x i
theorem fitB_iff {x p : Pat} : fitB x p = true ↔ Fit x p := by
  unfold fitB Fit
  rw [List.all_eq_true]
  simp [List.mem_range]
theorem fitB_false {x p : Pat} {i : Nat} (hi : i < p.length) (h : (gt p i == 45 || gt p i == gt x i) = false) : fitB x p = false := by
  cases e : fitB x p with
  | false => rfl
  | true =>
    rcases fitB_iff.mp e i hi with z | z <;> simp [z] at h
section
variable {P : Program} {w : World} {K : PySem.W.Frag} {mg : Str → Option Value} {base : Heap}
/-! ### _law_mixed -/
def spMixed (K : PySem.W.Frag) : Sp := fun vs H Q _ => ∃ (b a : Addr) (xs : List V) (av : List Addr), vs = [.ref b, .ref a] ∧ BagAt H b av ∧ (∀ a ∈ av, H a ≠ none) ∧ SqL K H a xs ∧ a ≠ b ∧ xs.length ≤ 1000 ∧
  ∀ (r : Addr) (ys : List V) (H' : Hp), SameBut b H H' → BagAt H' b (r :: av) → H r = none → r ≠ b → ys.Perm xs → H' r = some (.lst ys) → Q (.ref r) H'
theorem sc_law_mixed : FnScope ["_law_bag_here", "_law_items", "_law_left", "_law_found", "_law_k"] ["_law_bag_here", "_law_items"] (defScope s_law_mixed) := ⟨rfl, rfl, rfl, by decide +kernel, rfl, by decide +kernel, by decide +kernel⟩
theorem ok_law_mixed (T : TX K mg) (D : DF K mg "_law_mixed" s_law_mixed) (C_law_draw : Cal P w K mg base 1 "_law_draw" (spDraw K)) : Cal P w K mg base 2 "_law_mixed" (spMixed K) := by
  refine mkCal D sc_law_mixed (fun _ _ _ _ _ _ us hl => match us, hl with | [_, _], _ => rfl) (fun vs H Q E h => ?_) (fun fa cdv A outer s H vs Q E hr h => ?_)
  · obtain ⟨b, a, xs, av, rfl, _⟩ := h; rfl
  obtain ⟨b, a, xs, av, rfl, hb, htr, ha, hab, hl, k⟩ := h
  refine ⟨_, (pss_cons (ps_set (i := 2) sc_law_mixed.nd rfl (Or.inl rfl) (pe_callTy call_list_of (by rfl) T.f_list (by decide +kernel) (pa_cons (pv 1) pa_nil)))
      (pss_cons (ps_set (i := 3) sc_law_mixed.nd rfl (Or.inl rfl) (pe_lst pa_nil))
      (pss_cons (ps_for PassesOwn.never rfl (pi_range1 (by rfl) T.f_range (pa_cons (pe_callB call_len_seq (by rfl) T.f_len PySem.boot_len (pa_cons (pv 1) pa_nil)) pa_nil)) (pg_name (i := 4) sc_law_mixed.nd rfl (Or.inl rfl) (Or.inr rfl)) (pss_one (ps_expr (pe_bm PySem.F.plainAttrs_list PySem.F.slot_list_append PySem.F.type_list_append mt_append (pv 3) (pa_cons (pe_bm PySem.F.plainAttrs_list PySem.F.slot_list_pop PySem.F.type_list_pop mt_popAt (pv 2) (pa_cons (pe_c C_law_draw (by exact hr) (by decide) (by rfl) (pa_cons (pv 0) (pa_cons (pe_callB call_len_seq (by rfl) T.f_len PySem.boot_len (pa_cons (pv 2) pa_nil)) pa_nil))) pa_nil)) pa_nil)))))
      (pss_one (ps_ret (pv 3)))))), ?_⟩
  refine ⟨_, rfl, a, _, rfl, .inl ha, fun L hL => ⟨Nat.zero_le _, fun F hF => ?_⟩⟩
  obtain ⟨ob, hob⟩ := hb.at_
  have hLb : L ≠ b := fun e => by rw [e, hob] at hL; cases hL
  have s1 := same_new hL (.lst xs)
  have hFb : F ≠ b := fun e => by rw [e, s1 _ _ hob] at hF; cases hF
  have hLF : L ≠ F := fun e => by rw [← e, upd_same] at hF; cases hF
  have s2 := snew s1 hF (.lst [])
  refine ⟨_, rfl, a, xs, rfl, .inl (s2.seq ha), _, rfl, by omega, by omega, for_it walk_range (fun i σ H' => ∃ (v4 : Option V) (ls fs : List V), σ = [some (.ref b), some (.ref a), some (.ref L), some (.ref F), v4] ∧ SameBut b H H' ∧ BagAt H' b (F :: L :: av) ∧ H' L = some (.lst ls) ∧ H' F = some (.lst fs) ∧ fs.length = i ∧ (fs ++ ls).Perm xs)
    ⟨_, xs, [], rfl, sbut s2, (((hb.more hL).same s1).more hF).same (same_new hF _), by rw [upd_ne hLF, upd_same], upd_same, rfl, List.Perm.refl _⟩ (fun _ _ _ _ _ => trivial) ?_ ?_⟩
  · rintro i x σ H0 H1 hi ⟨v4, ls, fs, rfl, sb, bag, h1, h2, h3, h4⟩ ⟨rfl, rfl⟩
    have hi' : i < xs.length := hi
    have hlen := h4.length_eq
    rw [List.length_append] at hlen
    have hls : 0 < ls.length := by omega
    refine ⟨_, rfl, .inl ⟨rfl, _, SqL.of h2⟩, _, rfl, .inl ⟨rfl, _, SqL.of h1⟩, _, rfl, _, rfl, L, _, rfl, .inl (SqL.of h1), b, ls.length, F :: L :: av, rfl, hls, by omega, bag, ?_, fun d H2 hd sb2 bag2 => ?_⟩
    · intro x hx
      rcases List.mem_cons.mp hx with rfl | hx
      · rw [h2]; simp
      · rcases List.mem_cons.mp hx with rfl | hx
        · rw [h1]; simp
        · intro z
          cases e : H x with
          | none => exact htr x hx e
          | some o =>
            by_cases q : x = b
            · obtain ⟨o2, ho2⟩ := bag.at_
              rw [← q, z] at ho2; cases ho2
            · rw [sb _ _ q e] at z; cases z
    have h1' := sb2 _ _ hLb h1
    have h2' := sb2 _ _ hFb h2
    refine ⟨L, ls, (d : Nat), d, ls[d], rfl, rfl, h1', by omega, by omega, (ixN_seq (ixN_nat hd)).1, by simp [hd], F, fs, ls[d], rfl, rfl, by rw [upd_ne (fun e => hLF e.symm)]; exact h2', lt_small (by omega), ?_⟩
    refine ⟨_, ls.eraseIdx d, fs ++ [ls[d]], rfl, ?_, ?_, ?_, upd_same, by simp [h3], ?_⟩
    · have sbb := sb.trans sb2
      intro c o hc ho
      rw [upd_ne, upd_ne]
      · exact sbb c o hc ho
      · exact fun e => by rw [e, hL] at ho; cases ho
      · exact fun e => by rw [e] at ho; have := s1 _ _ ho; rw [hF] at this; cases this
    · exact (bag2.upd hLb (by simp) _).upd hFb (by simp) _
    · rw [upd_ne hLF, upd_same]
    · have e1 : ls[d]? = some ls[d] := by simp [hd]
      rw [List.append_assoc]
      exact (List.Perm.append_left fs (erase_perm e1)).trans h4
  · rintro σ H1 ⟨v4, ls, fs, rfl, sb, bag, h1, h2, h3, h4⟩
    have hlen := h4.length_eq
    rw [List.length_append, h3] at hlen
    have e0 : ls = [] := List.length_eq_zero_iff.mp (by have : xs.length + ls.length = xs.length := hlen; omega)
    rw [e0, List.append_nil] at h4
    exact ⟨_, rfl, k F fs H1 sb (bag.less (by simp; exact fun a h => .inr (.inr h))) (s1.free hF) hFb h4 h2⟩
end
end Lk

set_option Elab.async false
set_option linter.all false
set_option maxRecDepth 100000
set_option maxHeartbeats 4000000
/-! LkW11: the law's texts. -/
namespace Lk
open PySem PySem.Spec PyProof.Rows L2
/-- range(n), its items as they are -/
theorem walk_rg {n : Nat} : Walk (Itr 0 n) n (fun _ => True) (YFn fun i => .int (i : Nat)) :=
  walk_range.mono (fun _ h => h) fun i H x H' _ _ y => ⟨y.1, y.2.trans (congrArg V.int (Int.zero_add _))⟩
theorem stg_len_le {sg : List Nat} (hg : sg.length ≤ 3) {i : Nat} (hi : i ≤ 6) : (stg sg i).length ≤ 729 := by
  rw [length_stg]
  have e1 : sg.length ^ i ≤ 3 ^ i := Nat.pow_le_pow_left hg i
  have e2 : 3 ^ i ≤ 3 ^ 6 := Nat.pow_le_pow_right (by decide) hi
  exact Nat.le_trans e1 e2
theorem flen (sg : List Nat) (hg : sg.length ≤ 3) : ∀ l : List Pat, (l.flatMap fun t => sg.map fun c => t ++ [c]).length ≤ l.length * 3
  | [] => Nat.zero_le _
  | t :: l => by
    have := flen sg hg l
    rw [List.flatMap_cons, List.length_append, List.length_map, List.length_cons]
    omega
theorem inV2 (c d e : Nat) : inV (V.str ⟨#[c]⟩) [V.str "-", V.str ⟨#[e]⟩] = (c == 45 || c == e) := by
  have h1 : ∀ a b : Nat, eqV (V.str ⟨#[a]⟩) (V.str ⟨#[b]⟩) = (b == a) := fun a b => by
    show ((⟨#[a]⟩ : Str) == ⟨#[b]⟩) = (b == a)
    by_cases h : a = b
    · rw [h]; simp
    · rw [beq_eq_false_iff_ne.mpr (fun q => h (by have := congrArg (fun z : Str => z.cps.toList) q; simpa using this)), beq_eq_false_iff_ne.mpr (fun q => h q.symm)]
  unfold inV
  rw [tm]
  show (eqV (V.str ⟨#[45]⟩) (V.str ⟨#[c]⟩) || (eqV (V.str ⟨#[e]⟩) (V.str ⟨#[c]⟩) || false)) = _
  rw [h1, h1, Bool.or_false]
theorem filter_two {α : Type} (g : α → Bool) : ∀ l : List α, (l.filter g).length + (l.filter fun x => !g x).length = l.length
  | [] => rfl
  | a :: l => by
    have := filter_two g l
    cases h : g a <;> simp [List.filter_cons, h] <;> omega
theorem siz_count {p : Pat} : (p.length : Int) - Txt.count (tx p) "-" = (siz p : Nat) := by
  rw [tm]
  have e : Txt.count (tx p) (tx [45]) = PyProof.Rows.cnt 45 p := count_cnt (tx p) 45
  rw [e, cnt_filter]
  have h1 : (p.filter fun d => d == 45).length = (opn p).length := by
    have e : p = (List.range p.length).map (gt p) := by
      apply List.ext_getElem
      · simp
      · intro i h1 h2
        have := gt_get h1
        rw [List.getElem?_eq_getElem h1] at this
        simp only [List.getElem_map, List.getElem_range]
        exact Option.some.inj this
    have e2 : (((List.range p.length).map (gt p)).filter fun d => d == 45).length = ((List.range p.length).filter fun i => gt p i == 45).length := by
      rw [List.filter_map, List.length_map]; rfl
    rw [← e] at e2
    exact e2
  have h2 : siz p + (opn p).length = p.length := by
    have := filter_two (fun i => gt p i == 45) (List.range p.length)
    rw [List.length_range] at this
    have e3 : siz p = ((List.range p.length).filter fun i => !(gt p i == 45)).length := rfl
    have e4 : (opn p).length = ((List.range p.length).filter fun i => gt p i == 45).length := rfl
    omega
  rw [h1]
  omega
section
variable {P : Program} {w : World} {K : PySem.W.Frag} {mg : Str → Option Value} {base : Heap}
/-! ### _law_strings -/
def spLStr (K : PySem.W.Frag) : Sp := fun vs H Q _ => ∃ (n : Nat) (a : Addr) (sg : List Nat), vs = [.int (n : Nat), .ref a] ∧ n ≤ 6 ∧ sg.length ≤ 3 ∧ SqL K H a (sg.map fun c => vt [c]) ∧ RetN H Q (.lst ((stg sg n).map vt))
theorem sc_law_strings : FnScope ["_law_many", "_law_signs", "_law_found", "_law_k", "_law_longer", "_law_text", "_law_sign"] ["_law_many", "_law_signs"] (defScope s_law_strings) := ⟨rfl, rfl, rfl, by decide +kernel, rfl, by decide +kernel, by decide +kernel⟩
theorem sc_law_inputs : FnScope ["_law_many"] ["_law_many"] (defScope s_law_inputs) := ⟨rfl, rfl, rfl, by decide +kernel, rfl, by decide +kernel, by decide +kernel⟩
theorem sc_law_patterns : FnScope ["_law_many"] ["_law_many"] (defScope s_law_patterns) := ⟨rfl, rfl, rfl, by decide +kernel, rfl, by decide +kernel, by decide +kernel⟩
theorem sc_law_put : FnScope ["_law_text", "_law_at", "_law_sign"] ["_law_text", "_law_at", "_law_sign"] (defScope s_law_put) := ⟨rfl, rfl, rfl, by decide +kernel, rfl, by decide +kernel, by decide +kernel⟩
theorem sc_law_flip : FnScope ["_law_text", "_law_at"] ["_law_text", "_law_at"] (defScope s_law_flip) := ⟨rfl, rfl, rfl, by decide +kernel, rfl, by decide +kernel, by decide +kernel⟩
theorem sc_law_turned : FnScope ["_law_text", "_law_block", "_law_at"] ["_law_text", "_law_block"] (defScope s_law_turned) := ⟨rfl, rfl, rfl, by decide +kernel, rfl, by decide +kernel, by decide +kernel⟩
theorem sc_law_fits : FnScope ["_law_text", "_law_pattern", "_law_k"] ["_law_text", "_law_pattern"] (defScope s_law_fits) := ⟨rfl, rfl, rfl, by decide +kernel, rfl, by decide +kernel, by decide +kernel⟩
theorem sc_law_open_spots : FnScope ["_law_pattern", "_law_k"] ["_law_pattern"] (defScope s_law_open_spots) := ⟨rfl, rfl, rfl, by decide +kernel, rfl, by decide +kernel, by decide +kernel⟩
theorem sc_law_size : FnScope ["_law_pattern"] ["_law_pattern"] (defScope s_law_size) := ⟨rfl, rfl, rfl, by decide +kernel, rfl, by decide +kernel, by decide +kernel⟩
theorem ok_law_strings (T : TX K mg) (D : DF K mg "_law_strings" s_law_strings) : Cal P w K mg base 1 "_law_strings" (spLStr K) := by
  refine mkCal D sc_law_strings (fun _ _ _ _ _ _ us hl => match us, hl with | [_, _], _ => rfl) (fun vs H Q E h => ?_) (fun fa cdv A outer s H vs Q E hr h => ?_)
  · obtain ⟨n, a, sg, rfl, _⟩ := h; rfl
  obtain ⟨n, a, sg, rfl, hn, hg, ha, k⟩ := h
  refine ⟨_, (pss_cons (ps_set (i := 2) sc_law_strings.nd rfl (Or.inl rfl) (pe_lst (pa_cons pe_str pa_nil)))
      (pss_cons (ps_for PassesOwn.never rfl (pi_range1 (by rfl) T.f_range (pa_cons (pv 0) pa_nil)) (pg_name (i := 3) sc_law_strings.nd rfl (Or.inl rfl) (Or.inr rfl)) (pss_cons (ps_set (i := 4) sc_law_strings.nd rfl (Or.inl rfl) (pe_lst pa_nil))
      (pss_cons (ps_for PassesOwn.never rfl (pi_list (pv 2)) (pg_name (i := 5) sc_law_strings.nd rfl (Or.inr rfl) (Or.inl rfl)) (pss_one (ps_set (i := 4) sc_law_strings.nd rfl (Or.inl rfl) (pe_op op_cat (pv 4) (pe_lc (own := [("_law_sign", 6)]) rfl sc_law_strings.nd (pi_list (pv 1)) (blkOk_by (own := [("_law_sign", 6)]) (N := ["_law_many", "_law_signs", "_law_found", "_law_k", "_law_longer", "_law_text", "_law_sign"]) (sc := defScope s_law_strings) (by decide +kernel)) (fun _ _ _ _ _ => (pg_name (i := 6) sc_law_strings.nd rfl (Or.inl rfl) (Or.inr rfl))) (fun _ _ _ _ _ => pts_nil) (fun _ _ _ _ _ => (pe_op op_add_str (pv 5) (pv 6))))))))
      (pss_one (ps_set (i := 2) sc_law_strings.nd rfl (Or.inl rfl) (pv 4))))))
      (pss_one (ps_ret (pv 2))))), ?_⟩
  refine ⟨by show 1 ≤ sizeLine; decide, fun F hF => ?_⟩
  refine ⟨_, rfl, _, rfl, by omega, by omega, for_it walk_rg (fun i σ H' => ∃ (R : Addr) (v3 v4 v5 v6 : Option V), σ = [some (.int (n : Nat)), some (.ref a), some (.ref R), v3, v4, v5, v6] ∧ Same H H' ∧ H R = none ∧ H' R = some (.lst ((stg sg i).map vt)))
    ⟨F, _, _, _, _, rfl, same_new hF _, hF, by rw [upd_same, te]; rfl⟩ (fun _ _ _ _ _ => trivial) ?_ ?_⟩
  · rintro i x σ H0 H1 hi ⟨R, v3, v4, v5, v6, rfl, s1, R0, hR⟩ ⟨rfl, rfl⟩
    have hi' : i < n := hi
    have hlen := stg_len_le (sg := sg) hg (i := i) (by omega)
    refine ⟨Nat.zero_le _, fun G hG => ?_⟩
    have hRG : R ≠ G := ne_of_none hR hG
    refine ⟨_, rfl, R, rfl, ⟨_, SqL.of (by rw [upd_ne hRG]; exact hR)⟩, for_it (walk_list (xs := (stg sg i).map vt)) (fun j σ H' => ∃ (G : Addr) (v5 v6 : Option V), σ = [some (.int (n : Nat)), some (.ref a), some (.ref R), some (.int (i : Nat)), some (.ref G), v5, v6] ∧ Same H1 H' ∧ H1 G = none ∧ H' G = some (.lst ((((stg sg i).take j).flatMap fun t => sg.map fun c => t ++ [c]).map vt)))
      ⟨G, _, _, rfl, same_new hG _, hG, by rw [upd_same]; rfl⟩ (fun j σ H' _ z => by obtain ⟨_, _, _, _, z, _⟩ := z; exact SqL.of (z _ _ hR)) ?_ ?_⟩
    · rintro j y σ H0 H2 hj ⟨G, v5, v6, rfl, s2, G0, hG2⟩ ⟨rfl, hy⟩
      rw [List.getElem?_map] at hy
      obtain ⟨t, ht, rfl⟩ := Option.map_eq_some_iff.mp hy
      have htl : t.length = i := (mem_stg.mp (List.mem_of_getElem? ht)).1
      refine ⟨_, rfl, _, rfl, a, rfl, ⟨_, (s1.trans s2).seq ha⟩, fun D hD => lc_new (walk_list (xs := sg.map fun c => vt [c])) hD (fun m => ((sg.take m).map fun c => t ++ [c]).map vt) rfl (fun m hm => ?_) (fun H' s' => s'.seq ((s1.trans s2).seq ha)) (fun m x H0 H' K1 K0 hm s3 y k1 k0 => ?_) (fun H3 s3 h3 => ?_)⟩
      · rw [List.length_map, List.length_map, List.length_take]; omega
      · obtain ⟨rfl, e⟩ := y
        rw [List.getElem?_map] at e
        obtain ⟨c, hc, rfl⟩ := Option.map_eq_some_iff.mp e
        refine ⟨rfl, yes ⟨_, rfl, _, rfl, tx t, tx [c], rfl, rfl, ?_, k1 _ _ (Same.refl _) ?_⟩⟩
        · rw [tx_len, tx_len, htl]; exact fits_small (by show i + 1 ≤ 1000000; omega)
        · rw [tx_app, take_snoc hc, List.map_append, List.map_append]; rfl
      · rw [List.length_map, List.take_length] at h3
        refine ⟨G, D, _, _, rfl, rfl, s3 _ _ hG2, h3, ?_, fun p hp => ?_⟩
        · have h1 := flen sg hg ((stg sg i).take j)
          rw [List.length_take] at h1
          rw [List.length_map, List.length_map, List.length_map]
          exact fits_small (by omega)
        · refine ⟨p, _, _, rfl, snew (s2.trans s3) hp _, (s2.trans s3).free hp, ?_⟩
          rw [upd_same, take_snoc ht, List.flatMap_append, List.flatMap_cons, List.flatMap_nil, List.append_nil, List.map_append]
    · rintro σ H2 ⟨G, v5, v6, rfl, s2, G0, hG2⟩
      refine ⟨_, rfl, G, _, _, _, _, rfl, s1.trans s2, s1.free G0, ?_⟩
      rw [hG2, List.length_map, List.take_length]; rfl
  · rintro σ H1 ⟨R, v3, v4, v5, v6, rfl, s1, R0, hR⟩
    exact ⟨_, rfl, k R H1 s1 R0 hR⟩
theorem ok_law_inputs (T : TX K mg) (D : DF K mg "_law_inputs" s_law_inputs) (C_law_strings : Cal P w K mg base 1 "_law_strings" (spLStr K)) : Cal P w K mg base 2 "_law_inputs" spInputs := by
  refine mkCal D sc_law_inputs (fun _ _ _ _ _ _ us hl => match us, hl with | [_], _ => rfl) (fun vs H Q E h => ?_) (fun fa cdv A outer s H vs Q E hr h => ?_)
  · obtain ⟨n, rfl, _⟩ := h; rfl
  obtain ⟨n, rfl, hn, k⟩ := h
  refine ⟨_, (pss_one (ps_ret (pe_c C_law_strings (by exact hr) (by decide) (by rfl) (pa_cons (pv 0) (pa_cons (pe_lst (pa_cons pe_str (pa_cons pe_str pa_nil))) pa_nil))))), ?_⟩
  refine ⟨_, rfl, by show 2 ≤ sizeLine; decide, fun a ha => ⟨n, a, [48, 49], rfl, hn, by decide, SqL.of (by rw [upd_same, t0, t1]; rfl), fun r H' s' r0 hr' => k r H' ((same_new ha _).trans s') ((same_new ha _).free r0) hr'⟩⟩
theorem ok_law_patterns (T : TX K mg) (D : DF K mg "_law_patterns" s_law_patterns) (C_law_strings : Cal P w K mg base 1 "_law_strings" (spLStr K)) : Cal P w K mg base 2 "_law_patterns" spPatterns := by
  refine mkCal D sc_law_patterns (fun _ _ _ _ _ _ us hl => match us, hl with | [_], _ => rfl) (fun vs H Q E h => ?_) (fun fa cdv A outer s H vs Q E hr h => ?_)
  · obtain ⟨n, rfl, _⟩ := h; rfl
  obtain ⟨n, rfl, hn, k⟩ := h
  refine ⟨_, (pss_one (ps_ret (pe_c C_law_strings (by exact hr) (by decide) (by rfl) (pa_cons (pv 0) (pa_cons (pe_lst (pa_cons pe_str (pa_cons pe_str (pa_cons pe_str pa_nil)))) pa_nil))))), ?_⟩
  refine ⟨_, rfl, by show 3 ≤ sizeLine; decide, fun a ha => ⟨n, a, [45, 48, 49], rfl, hn, by decide, SqL.of (by rw [upd_same, t0, t1, tm]; rfl), fun r H' s' r0 hr' => k r H' ((same_new ha _).trans s') ((same_new ha _).free r0) hr'⟩⟩
theorem ok_law_put (T : TX K mg) (D : DF K mg "_law_put" s_law_put) : Cal P w K mg base 1 "_law_put" spPut := by
  refine mkCal D sc_law_put (fun _ _ _ _ _ _ us hl => match us, hl with | [_, _, _], _ => rfl) (fun vs H Q E h => ?_) (fun f cdv A outer s H vs Q E hr h => ?_)
  · obtain ⟨p, i, c, rfl, _⟩ := h; rfl
  obtain ⟨p, i, c, rfl, hp, hi, q⟩ := h
  refine ⟨_, (pss_one (ps_ret (pe_op op_add_str (pe_op op_add_str (pe_slice sl_str (pv 0) po_none (po_some (pv 1))) (pv 2)) (pe_slice sl_str (pv 0) (po_some (pe_op op_add (pv 1) pe_int)) po_none)))), ?_⟩
  refine ⟨_, rfl, _, rfl, _, rfl, tx p, rfl, len6 hp, _, rfl, _, _, rfl, rfl, ?_, ?_⟩
  · rw [tx_cut_to p (Nat.le_of_lt hi), tx_len, tx_len, List.length_take]; exact fits_small (by show _ + 1 ≤ _; omega)
  refine ⟨_, rfl, _, rfl, _, _, rfl, rfl, _, rfl, tx p, rfl, len6 hp, _, _, rfl, rfl, ?_, ?_⟩
  · rw [show ((i : Nat) : Int) + 1 = ((i + 1 : Nat) : Int) by omega, tx_cut_from p hi, tx_cut_to p (Nat.le_of_lt hi), tx_app, tx_len, tx_len, List.length_append, List.length_take, List.length_drop]
    exact fits_small (by show _ + 1 + _ ≤ _; omega)
  · rw [show ((i : Nat) : Int) + 1 = ((i + 1 : Nat) : Int) by omega, tx_cut_from p hi, tx_cut_to p (Nat.le_of_lt hi), tx_app, tx_app, List.append_assoc]
    have e : p.take i ++ ([c] ++ p.drop (i + 1)) = p.set i c := set_eq hi
    rw [e]
    exact q
def spFlip : Sp := fun vs H Q _ => ∃ (x : Pat) (i : Nat), vs = [vt x, .int (i : Nat)] ∧ x.length ≤ 6 ∧ i < x.length ∧ (gt x i = 48 ∨ gt x i = 49) ∧ RetS H Q (vt (x.set i (97 - gt x i)))
theorem ok_law_flip (T : TX K mg) (D : DF K mg "_law_flip" s_law_flip) (C_law_put : Cal P w K mg base 1 "_law_put" spPut) : Cal P w K mg base 2 "_law_flip" spFlip := by
  refine mkCal D sc_law_flip (fun _ _ _ _ _ _ us hl => match us, hl with | [_, _], _ => rfl) (fun vs H Q E h => ?_) (fun f cdv A outer s H vs Q E hr h => ?_)
  · obtain ⟨x, i, rfl, _⟩ := h; rfl
  obtain ⟨x, i, rfl, hx, hi, hc, k⟩ := h
  refine ⟨_, (pss_one (ps_ret (pe_c C_law_put (by exact hr) (by decide) (by rfl) (pa_cons (pv 0) (pa_cons (pv 1) (pa_cons (pe_ix ix_list (pe_lst (pa_cons pe_str (pa_cons pe_str pa_nil))) (pe_callTy call_int_str (by rfl) T.f_int (by decide +kernel) (pa_cons (pe_ix ix_str (pv 0) (pv 1) (by intro _ _; rfl)) pa_nil)) (by intro _ _; rfl)) pa_nil)))))), ?_⟩
  refine ⟨_, rfl, _, rfl, by show 2 ≤ sizeLine; decide, fun a ha => ⟨_, rfl, _, rfl, tx x, _, gt x i, rfl, rfl, len6 hx, atI_gt hi, ?_⟩⟩
  rcases hc with h | h
  · rw [h] at k ⊢
    exact ⟨tx [48], 0, rfl, int0, by decide, a, _, 0, _, rfl, rfl, SqL.of upd_same, atI_nat (j := 0) rfl, x, i, 49, congrArg (fun z => [vt x, V.int (i : Nat), V.str z]) t1, hx, hi, k _ (same_new ha _)⟩
  · rw [h] at k ⊢
    exact ⟨tx [49], 1, rfl, int1, by decide, a, _, 1, _, rfl, rfl, SqL.of upd_same, atI_nat (j := 1) rfl, x, i, 48, congrArg (fun z => [vt x, V.int (i : Nat), V.str z]) t0, hx, hi, k _ (same_new ha _)⟩
def spTurned (K : PySem.W.Frag) : Sp := fun vs H Q _ => ∃ (x : Pat) (a : Addr) (n : Nat) (B : List Nat), vs = [vt x, .ref a] ∧ n ≤ 6 ∧ x ∈ ins n ∧ SqT K H a (iv B) ∧ (∀ i ∈ B, i < n) ∧ RetS H Q (vt (turn x B))
theorem ok_law_turned (T : TX K mg) (D : DF K mg "_law_turned" s_law_turned) (C_law_flip : Cal P w K mg base 2 "_law_flip" spFlip) : Cal P w K mg base 3 "_law_turned" (spTurned K) := by
  refine mkCal D sc_law_turned (fun _ _ _ _ _ _ us hl => match us, hl with | [_, _], _ => rfl) (fun vs H Q E h => ?_) (fun f cdv A outer s H vs Q E hr h => ?_)
  · obtain ⟨x, a, n, B, rfl, _⟩ := h; rfl
  obtain ⟨x, a, n, B, rfl, hn, hx, ha, hB, k⟩ := h
  refine ⟨_, (pss_cons (ps_for PassesOwn.never rfl (pi_tup (pv 1)) (pg_name (i := 2) sc_law_turned.nd rfl (Or.inl rfl) (Or.inr rfl)) (pss_one (ps_set (i := 0) sc_law_turned.nd rfl (Or.inl rfl) (pe_c C_law_flip (by exact hr) (by decide) (by rfl) (pa_cons (pv 0) (pa_cons (pv 2) pa_nil))))))
      (pss_one (ps_ret (pv 0)))), ?_⟩
  refine ⟨_, rfl, a, rfl, ⟨_, ha⟩, for_it (walk_tup (xs := iv B)) (fun i σ H' => ∃ v2 : Option V, σ = [some (vt (turn x (B.take i))), some (.ref a), v2] ∧ Same H H') ⟨_, rfl, Same.refl _⟩ (fun i σ H' _ z => by obtain ⟨_, _, z⟩ := z; exact ssqt z ha) ?_ ?_⟩
  · rintro i y σ H0 H1 hi ⟨v2, rfl, s1⟩ ⟨rfl, e⟩
    rw [iv, List.getElem?_map] at e
    obtain ⟨j, hj, rfl⟩ := Option.map_eq_some_iff.mp e
    have hjn := hB j (List.mem_of_getElem? hj)
    have hxi : turn x (B.take i) ∈ ins n := turn_ins hx fun c hc => hB c (List.mem_of_mem_take hc)
    have hl := len_ins hxi
    refine ⟨_, rfl, _, rfl, turn x (B.take i), j, rfl, by omega, by omega, (mem_ins.mp hxi).2 j hjn, fun H2 s2 => ⟨some (.int (j : Nat)), ?_, s1.trans s2⟩⟩
    · have e2 : turn x (B.take (i + 1)) = (turn x (B.take i)).set j (97 - gt (turn x (B.take i)) j) := by
        rw [take_snoc hj, turn, turn, List.foldl_append]; rfl
      rw [e2]; rfl
  · rintro σ H1 ⟨v2, rfl, s1⟩
    rw [iv_len, List.take_length]
    exact ⟨_, rfl, k _ s1⟩
def spFits : Sp := fun vs H Q _ => ∃ (x p : Pat), vs = [vt x, vt p] ∧ x.length = p.length ∧ p.length ≤ 6 ∧ RetS H Q (.bl (fitB x p))
theorem ok_law_fits (T : TX K mg) (D : DF K mg "_law_fits" s_law_fits) : Cal P w K mg base 1 "_law_fits" spFits := by
  refine mkCal D sc_law_fits (fun _ _ _ _ _ _ us hl => match us, hl with | [_, _], _ => rfl) (fun vs H Q E h => ?_) (fun f cdv A outer s H vs Q E hr h => ?_)
  · obtain ⟨x, p, rfl, _⟩ := h; rfl
  obtain ⟨x, p, rfl, hl, hp, k⟩ := h
  refine ⟨_, (pss_cons (ps_for PassesOwn.never rfl (pi_range1 (by rfl) T.f_range (pa_cons (pe_callB call_len_str (by rfl) T.f_len PySem.boot_len (pa_cons (pv 1) pa_nil)) pa_nil)) (pg_name (i := 2) sc_law_fits.nd rfl (Or.inl rfl) (Or.inr rfl)) (pss_one (ps_if (pt_cmpR op_notIn_seq (pe_ix ix_str (pv 1) (pv 2) (by intro _ _; rfl)) (pe_lst (pa_cons pe_str (pa_cons (pe_ix ix_str (pv 0) (pv 2) (by intro _ _; rfl)) pa_nil))) (by with_unfolding_all rfl)) (pss_one (ps_ret pe_bl)) pss_nil)))
      (pss_one (ps_ret pe_bl))), ?_⟩
  refine ⟨_, rfl, _, rfl, len6 hp, _, rfl, by omega, by rw [tx_len]; omega, for_it walk_rg (fun i σ H' => ∃ v2 : Option V, σ = [some (vt x), some (vt p), v2] ∧ Same H H' ∧ ∀ j, j < i → (gt p j == 45 || gt p j == gt x j) = true) ⟨_, rfl, Same.refl _, fun j hj => absurd hj (Nat.not_lt_zero _)⟩ (fun _ _ _ _ _ => trivial) ?_ ?_⟩
  · rintro i y σ H0 H1 hi ⟨v2, rfl, s1, hall⟩ ⟨rfl, rfl⟩
    have hi' : i < (tx p).length := hi
    rw [tx_len] at hi'
    refine ⟨_, rfl, _, rfl, tx p, _, gt p i, rfl, rfl, len6 hp, atI_gt hi', _, rfl, _, rfl, tx x, _, gt x i, rfl, rfl, len6 (hl ▸ hp), atI_gt (hl ▸ hi'), by show 2 ≤ sizeLine; decide, fun a ha => ?_⟩
    refine ⟨a, _, rfl, .inl (SqL.of upd_same), rfl, rfl, _, rfl, ?_⟩
    rw [inV2 _ 0]
    cases e : (gt p i == 45 || gt p i == gt x i) with
    | true =>
      refine iteF ⟨_, rfl, s1.trans (same_new ha _), fun j hj => ?_⟩
      by_cases q : j = i
      · rw [q]; exact e
      · exact hall j (by omega)
    | false =>
      refine iteT ?_
      have := k _ (s1.trans (same_new ha (.lst [V.str "-", V.str ⟨#[gt x i]⟩])))
      rw [fitB_false hi' e] at this
      exact this
  · rintro σ H1 ⟨v2, rfl, s1, hall⟩
    have e : fitB x p = true := List.all_eq_true.mpr fun i hi => hall i (by rw [List.mem_range] at hi; show i < (tx p).length; rw [tx_len]; exact hi)
    have := k _ s1
    rw [e] at this
    exact this
def spOpen : Sp := fun vs H Q _ => ∃ p : Pat, vs = [vt p] ∧ p.length ≤ 6 ∧ RetN H Q (.lst (iv (opn p)))
theorem ok_law_open_spots (T : TX K mg) (D : DF K mg "_law_open_spots" s_law_open_spots) : Cal P w K mg base 1 "_law_open_spots" spOpen := by
  refine mkCal D sc_law_open_spots (fun _ _ _ _ _ _ us hl => match us, hl with | [_], _ => rfl) (fun vs H Q E h => ?_) (fun f cdv A outer s H vs Q E hr h => ?_)
  · obtain ⟨p, rfl, _⟩ := h; rfl
  obtain ⟨p, rfl, hp, k⟩ := h
  refine ⟨_, (pss_one (ps_ret (pe_lc (own := [("_law_k", 1)]) rfl sc_law_open_spots.nd (pi_range1 (by rfl) T.f_range (pa_cons (pe_callB call_len_str (by rfl) T.f_len PySem.boot_len (pa_cons (pv 0) pa_nil)) pa_nil)) (blkOk_by (own := [("_law_k", 1)]) (N := ["_law_pattern", "_law_k"]) (sc := defScope s_law_open_spots) (by decide +kernel)) (fun _ _ _ _ _ => (pg_name (i := 1) sc_law_open_spots.nd rfl (Or.inl rfl) (Or.inr rfl))) (fun _ _ _ _ _ => (pts_one (pt_cmpR op_eq (pe_ix ix_str (pv 0) (pv 1) (by intro _ _; rfl)) pe_str (nomark _)))) (fun _ _ _ _ _ => (pv 1))))), ?_⟩
  refine ⟨_, rfl, _, rfl, len6 hp, _, rfl, by omega, by rw [tx_len]; omega, fun D hD => lc_new walk_rg hD (fun i => ((List.range i).filter fun i => gt p i == 45).map fun i => .int (i : Nat)) rfl (fun i hi => ?_) (fun _ _ => trivial) (fun i x H0 H' K1 K0 hi s1 y k1 k0 => ?_) (fun H1 s1 h1 => ?_)⟩
  · have hi' : i < (tx p).length := hi
    rw [tx_len] at hi'
    exact Nat.le_trans (filter_le _ _) (by omega)
  · obtain ⟨rfl, rfl⟩ := y
    have hi' : i < (tx p).length := hi
    rw [tx_len] at hi'
    refine ⟨rfl, ?_⟩
    refine ⟨_, rfl, _, rfl, tx p, _, gt p i, rfl, rfl, len6 hp, atI_gt hi', rfl, _, rfl, ?_⟩
    have e : decide (V.str (⟨#[gt p i]⟩ : Str) = V.str "-") = (gt p i == 45) := by rw [tm, dec_1]; rfl
    rw [e]
    refine ite2 (fun h => ?_) (fun h => ?_)
    · refine ⟨_, rfl, k1 _ _ (Same.refl _) ?_⟩
      rw [filter_range, if_pos h]
    · refine k0 _ (Same.refl _) ?_
      rw [filter_range, if_neg h, List.append_nil]
  · refine k D _ s1 hD ?_
    rw [h1]
    show some (HO.lst (((List.range (tx p).length).filter _).map _)) = _
    rw [tx_len]; rfl
def spLSize : Sp := fun vs H Q _ => ∃ p : Pat, vs = [vt p] ∧ p.length ≤ 6 ∧ RetS H Q (.int (siz p : Nat))
theorem ok_law_size (T : TX K mg) (D : DF K mg "_law_size" s_law_size) : Cal P w K mg base 1 "_law_size" spLSize := by
  refine mkCal D sc_law_size (fun _ _ _ _ _ _ us hl => match us, hl with | [_], _ => rfl) (fun vs H Q E h => ?_) (fun f cdv A outer s H vs Q E hr h => ?_)
  · obtain ⟨p, rfl, _⟩ := h; rfl
  obtain ⟨p, rfl, hp, k⟩ := h
  refine ⟨_, (pss_one (ps_ret (pe_op op_sub (pe_callB call_len_str (by rfl) T.f_len PySem.boot_len (pa_cons (pv 0) pa_nil)) (pe_m1 PySem.F.slot_str_count PySem.F.type_str_count mt_count (pv 0) pe_str)))), ?_⟩
  refine ⟨_, rfl, _, rfl, len6 hp, _, rfl, ⟨_, rfl⟩, tx p, "-", rfl, rfl, _, _, rfl, rfl, ?_⟩
  rw [tx_len]
  rw [← siz_count] at k
  exact k _ (Same.refl _)
end
end Lk

set_option Elab.async false
set_option linter.all false
set_option maxRecDepth 100000
set_option maxHeartbeats 4000000
/-! LkW12: the law's answers, its settling, its needs. -/
namespace Lk
open PySem PySem.Spec PyProof.Rows L2
theorem pow_at : ∀ m, m < 7 → ([1, 2, 4, 8, 16, 32, 64].map V.int)[m]? = some (V.int ((2 ^ m : Nat) : Int)) := by decide +kernel
theorem pow_ne : ∀ n, n < 7 → ∀ m, m < n → eqV (V.int ((2 ^ m : Nat) : Int)) (V.int ((2 ^ n : Nat) : Int)) = false := by decide +kernel
theorem pow_eq : ∀ n, n < 7 → eqV (V.int ((2 ^ n : Nat) : Int)) (V.int ((2 ^ n : Nat) : Int)) = true := by decide +kernel
theorem paired_snoc {α β : Type} {R : α → β → Prop} : ∀ {as : List α} {bs : List β} {a : α} {b : β}, Paired R as bs → R a b → Paired R (as ++ [a]) (bs ++ [b])
  | _, _, _, _, .nil, h => .cons h .nil
  | _, _, _, _, .cons r t, h => .cons r (paired_snoc t h)
theorem mergeK_new : ∀ (l m : List Pat) (h : Pat → V), (m ++ l).Nodup → mergeK (m.map fun p => (kt p, h p)) (l.map fun p => (kt p, h p)) = (m ++ l).map fun p => (kt p, h p)
  | [], m, h, _ => by rw [List.append_nil]; rfl
  | p :: l, m, h, hn => by
    have hp : p ∉ m := fun q => by
      have := (List.nodup_append.mp hn).2.2 p q p List.mem_cons_self
      exact this rfl
    show mergeK (putK (m.map fun p => (kt p, h p)) (kt p) (h p)) (l.map fun p => (kt p, h p)) = _
    rw [putK_snoc hp]
    have e : (m.map fun p => (kt p, h p)) ++ [(kt p, h p)] = (m ++ [p]).map fun p => (kt p, h p) := by rw [List.map_append]; rfl
    have e2 : m ++ p :: l = m ++ [p] ++ l := by rw [List.append_assoc]; rfl
    rw [e2] at hn ⊢
    rw [e, mergeK_new l (m ++ [p]) h hn]
/-- an answer or none -/
def oi : Option Int → V
  | none => .non
  | some b => .int b
theorem oi_eq {a b : Option Int} : decide (oi a = oi b) = decide (a = b) := by
  cases a <;> cases b <;> simp [oi]
theorem oi_scal (a b : Option Int) : scal (oi a) (oi b) = true := by cases a <;> cases b <;> rfl
def sta (f : Pat → Int) (n : Nat) (l : List Pat) : List (Key × V) := l.map fun p => (kt p, oi (st f n p))
theorem val_sta {f : Pat → Int} {n : Nat} {q : Pat} {l : List Pat} (m : q ∈ l) : valV (sta f n l) (kt q) = some (oi (st f n q)) := by
  rw [sta, valV_map, if_pos m]
theorem sta_put {f : Pat → Int} {n : Nat} {l : List Pat} (hn : l.Nodup) {i : Nat} {p : Pat} (h : l[i]? = some p) : putK (sta f n (l.take i)) (kt p) (oi (st f n p)) = sta f n (l.take (i + 1)) := by
  rw [take_snoc h, sta, sta, List.map_append]
  exact putK_snoc (fresh_at hn h)
/-- so many looks at least -/
def Good (f : Pat → Int) (n : Nat) (p : Pat) (v : Nat) : Prop := (st f n p ≠ none → v = 0) ∧ (st f n p = none → 0 < v) ∧ ∀ t, Wf f n p t → v ≤ dep t
theorem shL_iv (l : List Nat) : SeqAt.shaped (.list (l.map fun i : Nat => PyData.int (i : Int))) = true := by
  have := shLI (l.map fun i : Nat => (i : Int))
  rw [List.map_map] at this
  exact this
theorem dp_iv {K : PySem.W.Frag} {H : Hp} (l : List Nat) : DpAll K H (iv l) (l.map fun i : Nat => PyData.int (i : Int)) := by
  have := dp_ints (K := K) (H := H) (l.map fun i : Nat => (i : Int))
  rw [List.map_map, List.map_map] at this
  exact this
section
variable {P : Program} {w : World} {K : PySem.W.Frag} {mg : Str → Option Value} {base : Heap}
def spWorths : Sp := fun vs H Q _ => ∃ (tb : List Nat) (n : Nat), vs = [vt tb] ∧ n ≤ 6 ∧ tb.length = 2 ^ n ∧ (∀ c ∈ tb, c ∈ [48, 49]) ∧ RetN H Q (.dK (wor (wf n tb) n))
theorem sc_law_worths : FnScope ["_law_table_here", "_law_many", "_law_texts", "_law_k"] ["_law_table_here"] (defScope s_law_worths) := ⟨rfl, rfl, rfl, by decide +kernel, rfl, by decide +kernel, by decide +kernel⟩
theorem sc_law_settling : FnScope ["_law_worths_here", "_law_many", "_law_found", "_law_pattern", "_law_spots", "_law_low"] ["_law_worths_here", "_law_many"] (defScope s_law_settling) := ⟨rfl, rfl, rfl, by decide +kernel, rfl, by decide +kernel, by decide +kernel⟩
theorem sc_law_needs : FnScope ["_law_settling_here", "_law_many", "_law_found", "_law_pattern", "_law_rows", "_law_at"] ["_law_settling_here", "_law_many"] (defScope s_law_needs) := ⟨rfl, rfl, rfl, by decide +kernel, rfl, by decide +kernel, by decide +kernel⟩
theorem ok_law_worths (T : TX K mg) (D : DF K mg "_law_worths" s_law_worths) (C_law_inputs : Cal P w K mg base 2 "_law_inputs" spInputs) : Cal P w K mg base 3 "_law_worths" spWorths := by
  refine mkCal D sc_law_worths (fun _ _ _ _ _ _ us hl => match us, hl with | [_], _ => rfl) (fun vs H Q E h => ?_) (fun fa cdv A outer s H vs Q E hr h => ?_)
  · obtain ⟨tb, n, rfl, _⟩ := h; rfl
  obtain ⟨tb, n, rfl, hn, hl, hs, k⟩ := h
  have hn64 : 2 ^ n ≤ 64 := Nat.pow_le_pow_right (n := 2) (by decide) hn
  refine ⟨_, (pss_cons (ps_set (i := 1) sc_law_worths.nd rfl (Or.inl rfl) (pe_bm PySem.F.plainAttrs_list PySem.F.slot_list_index PySem.F.type_list_index mt_index (pe_lst (pa_cons pe_int (pa_cons pe_int (pa_cons pe_int (pa_cons pe_int (pa_cons pe_int (pa_cons pe_int (pa_cons pe_int pa_nil)))))))) (pa_cons (pe_callB call_len_str (by rfl) T.f_len PySem.boot_len (pa_cons (pv 0) pa_nil)) pa_nil)))
      (pss_cons (ps_set (i := 2) sc_law_worths.nd rfl (Or.inr rfl) (pe_c C_law_inputs (by exact hr) (by decide) (by rfl) (pa_cons (pv 1) pa_nil)))
      (pss_one (ps_ret (pe_callTy (call_dictP rfl) (by rfl) T.f_dict (by decide +kernel) (pa_cons (pe_lc (own := [("_law_k", 3)]) rfl sc_law_worths.nd (pi_range1 (by rfl) T.f_range (pa_cons (pe_callB call_len_str (by rfl) T.f_len PySem.boot_len (pa_cons (pv 0) pa_nil)) pa_nil)) (blkOk_by (own := [("_law_k", 3)]) (N := ["_law_table_here", "_law_many", "_law_texts", "_law_k"]) (sc := defScope s_law_worths) (by decide +kernel)) (fun _ _ _ _ _ => (pg_name (i := 3) sc_law_worths.nd rfl (Or.inl rfl) (Or.inr rfl))) (fun _ _ _ _ _ => pts_nil) (fun _ _ _ _ _ => (pe_tup (pa_cons (pe_ix (ix_listK (K := K)) (pv 2) (pv 3) (by intro _ _; rfl)) (pa_cons (pe_callTy call_int_str (by rfl) T.f_int (by decide +kernel) (pa_cons (pe_ix ix_str (pv 0) (pv 3) (by intro _ _; rfl)) pa_nil)) pa_nil))))) pa_nil)))))), ?_⟩
  refine ⟨by show 7 ≤ sizeLine; decide, fun a ha => ⟨.inl ⟨rfl, _, SqL.of upd_same⟩, _, rfl, _, rfl, len6 (n := 64) (by omega), a, [1, 2, 4, 8, 16, 32, 64].map V.int, _, n, _, rfl, rfl, SqL.of upd_same, rfl, rfl, pow_at n (by omega), ?_, ?_, ?_⟩⟩
  · rw [tx_len, hl]; exact pow_eq n (by omega)
  · intro m z hm hz
    rw [pow_at m (by omega)] at hz
    cases hz
    rw [tx_len, hl]; exact pow_ne n (by omega) m hm
  have s1 := same_new ha (.lst ([1, 2, 4, 8, 16, 32, 64].map V.int))
  refine ⟨_, rfl, n, rfl, hn, fun r H2 s2 r0 hr2 => ?_⟩
  have hinl : (ins n).length = 2 ^ n := length_ins n
  refine ⟨_, rfl, _, rfl, len6 (n := 64) (by omega), _, rfl, by omega, by rw [tx_len]; omega, fun D hD => lc_but (n := 2 ^ n) (Y := YFn fun i => .int (i : Nat)) (G := fun _ => True) ?_ hD
    (fun i l H' => ∃ ps : List Addr, l = ps.map V.ref ∧ ps.length = i ∧ Paired (fun p (kv : Key × V) => H' p = some (.tup [kV kv.1, kv.2])) ps ((wor (wf n tb) n).take i) ∧ Same H2 H') ⟨[], rfl, rfl, .nil, same_new hD _⟩ (fun _ _ _ _ _ _ => trivial) (fun i l H' hi z => ?_) (fun i l x H0 H' K1 K0 hi z hDl y k1 k0 => ?_) (fun l H' z hDl => ?_)⟩
  · have e : ((tx tb).length : Int).toNat = 2 ^ n := by rw [tx_len, hl]; rfl
    rw [e]
    exact walk_rg
  · obtain ⟨ps, rfl, e, _⟩ := z
    rw [List.length_map]; omega
  · obtain ⟨ps, rfl, e, pr, s3⟩ := z
    obtain ⟨rfl, rfl⟩ := y
    have hx : ∃ x, (ins n)[i]? = some x := ⟨_, List.getElem?_eq_getElem (by omega)⟩
    obtain ⟨x, hx⟩ := hx
    have hc : ∃ c, tb[i]? = some c := ⟨_, List.getElem?_eq_getElem (by omega)⟩
    obtain ⟨c, hc⟩ := hc
    have hit : i < tb.length := by omega
    have egt : gt tb i = c := Option.some.inj ((gt_get hit).symm.trans hc)
    have hr3 := s3 _ _ hr2
    refine ⟨rfl, yes ?_⟩
    refine ⟨_, rfl, _, rfl, r, _, _, vt x, rfl, rfl, SqL.of hr3, atI_nat (by rw [List.getElem?_map, hx]; rfl), _, rfl, _, rfl, tx tb, _, c, rfl, rfl, len6 (n := 64) (by omega), egt ▸ atI_gt hit, ?_⟩
    have e0 : (wor (wf n tb) n)[i]? = some (kt x, .int (wf n tb x)) := by rw [wor, List.getElem?_map, hx]; rfl
    have fin : ∀ v : Int, v = wf n tb x → ∀ p, H' p = none → K1 (.ref p) (upd H' p (.tup [vt x, .int v])) := fun v hv p hp => by
      have hpD : p ≠ D := fun e => by rw [e, hDl] at hp; cases hp
      refine k1 _ _ (by rw [upd_ne (fun e => hpD e.symm)]; exact hDl) ⟨ps ++ [p], by rw [List.map_append]; rfl, by rw [List.length_append, e]; rfl, ?_, schg (snew s3 hp _) hD _⟩
      rw [take_snoc e0]
      refine paired_snoc (Paired.mapP pr fun q kv hq => ?_) ?_
      · rw [upd_ne (fun e => by rw [e, hDl] at hq; cases hq), upd_ne (fun e => by rw [e, hp] at hq; cases hq)]; exact hq
      · rw [upd_ne hpD, upd_same, hv]; rfl
    have hcm : c = 48 ∨ c = 49 := by simpa using hs c (List.mem_of_getElem? hc)
    rcases hcm with rfl | rfl
    · exact ⟨tx [48], 0, rfl, int0, by decide, by show 2 ≤ sizeLine; decide, fin 0 (by rw [wf_at hx hc]; rfl)⟩
    · exact ⟨tx [49], 1, rfl, int1, by decide, by show 2 ≤ sizeLine; decide, fin 1 (by rw [wf_at hx hc]; rfl)⟩
  · obtain ⟨ps, rfl, e, pr, s3⟩ := z
    rw [List.take_of_length_le (by rw [wor, List.length_map, hinl]; exact Nat.le_refl _)] at pr
    refine ⟨D, ps, wor (wf n tb) n, rfl, SqL.of hDl, Paired.mapP pr fun p kv hp => SqT.of hp, fun p hp => ?_⟩
    have em : mergeK [] (wor (wf n tb) n) = wor (wf n tb) n := mergeK_new (ins n) [] _ (nodup_ins n)
    rw [em]
    have ss := s1.trans (s2.trans s3)
    exact k p _ (snew ss hp _) (ss.free hp) upd_same
def spLSet : Sp := fun vs H Q _ => ∃ (d : Addr) (f : Pat → Int) (n : Nat), vs = [.ref d, .int (n : Nat)] ∧ Rd H d (.dK (wor f n)) ∧ Bi f ∧ n ≤ 6 ∧ RetN H Q (.dK (sta f n (pats n).reverse))
theorem ok_law_settling (T : TX K mg) (D : DF K mg "_law_settling" s_law_settling) (C_law_patterns : Cal P w K mg base 2 "_law_patterns" spPatterns) (C_law_put : Cal P w K mg base 1 "_law_put" spPut) (C_law_open_spots : Cal P w K mg base 1 "_law_open_spots" spOpen) : Cal P w K mg base 3 "_law_settling" spLSet := by
  refine mkCal D sc_law_settling (fun _ _ _ _ _ _ us hl => match us, hl with | [_, _], _ => rfl) (fun vs H Q E h => ?_) (fun fa cdv A outer s H vs Q E hr h => ?_)
  · obtain ⟨d, f, n, rfl, _⟩ := h; rfl
  obtain ⟨d, f, n, rfl, hd, hf, hn, k⟩ := h
  have hp729 := pats_small hn
  refine ⟨_, (pss_cons (ps_set (i := 2) sc_law_settling.nd rfl (Or.inl rfl) pe_dnewK)
      (pss_cons (ps_for PassesOwn.never rfl (pi_list (pe_revL (pe_c C_law_patterns (by exact hr) (by decide) (by rfl) (pa_cons (pv 1) pa_nil)))) (pg_name (i := 3) sc_law_settling.nd rfl (Or.inl rfl) (Or.inr rfl)) (pss_cons (ps_set (i := 4) sc_law_settling.nd rfl (Or.inl rfl) (pe_c C_law_open_spots (by exact hr) (by decide) (by rfl) (pa_cons (pv 3) pa_nil)))
      (pss_one (ps_if (pt_cmpR (op_eqD hr.units) (pv 4) (pe_lst pa_nil) (nomark _)) (pss_one (ps_dput (hu_of hr) (pv 2) (pv 3) (pe_dget (by exact hu_of hr) (pv 0) (pv 3) (by intro _ _; rfl)) rfl)) (pss_cons (ps_set (i := 5) sc_law_settling.nd rfl (Or.inl rfl) (pe_dget (by exact hu_of hr) (pv 2) (pe_c C_law_put (by exact hr) (by decide) (by rfl) (pa_cons (pv 3) (pa_cons (pe_ix ix_list (pv 4) pe_int (by intro _ _; rfl)) (pa_cons pe_str pa_nil)))) (by intro _ _; rfl)))
      (pss_one (ps_dput (hu_of hr) (pv 2) (pv 3) (pe_ifExp (pt_cmpR op_eq (pv 5) (pe_dget (by exact hu_of hr) (pv 2) (pe_c C_law_put (by exact hr) (by decide) (by rfl) (pa_cons (pv 3) (pa_cons (pe_ix ix_list (pv 4) pe_int (by intro _ _; rfl)) (pa_cons pe_str pa_nil)))) (by intro _ _; rfl)) (nomark _)) (pv 5) pe_non) rfl)))))))
      (pss_one (ps_ret (pv 2))))), ?_⟩
  refine fun F hF => ⟨_, rfl, n, rfl, hn, fun r H1 s1 r0 hr1 => ⟨r, _, rfl, SqL.of hr1, fun p hp => ?_⟩⟩
  rw [← List.map_reverse]
  have hRn : (pats n).reverse.Nodup := (List.reverse_perm (pats n)).nodup_iff.mpr (nodup_pats n)
  have s0 : Same H H1 := (same_new hF _).trans s1
  have hpF : p ≠ F := fun e => by rw [e, s1 _ _ upd_same] at hp; cases hp
  refine ⟨p, rfl, ⟨_, SqL.of upd_same⟩, for_it (walk_list (xs := (pats n).reverse.map vt)) (fun i σ H' => ∃ v3 v4 v5 : Option V, σ = [some (.ref d), some (.int (n : Nat)), some (.ref F), v3, v4, v5] ∧ Same H H' ∧ H' F = some (.dK (sta f n ((pats n).reverse.take i))) ∧ H' p = some (.lst ((pats n).reverse.map vt)))
    ⟨_, _, _, rfl, snew s0 hp _, ?_, upd_same⟩ (fun i σ H' _ z => by obtain ⟨_, _, _, _, _, _, h⟩ := z; exact SqL.of h) ?_ ?_⟩
  · rw [upd_ne (fun e => hpF e.symm), s1 _ _ upd_same]; rfl
  · rintro i x σ H0 H2 hi ⟨v3, v4, v5, rfl, s2, hF2, hp2⟩ ⟨rfl, e⟩
    rw [List.getElem?_map] at e
    obtain ⟨t, ht, rfl⟩ := Option.map_eq_some_iff.mp e
    have htm : t ∈ pats n := List.mem_reverse.mp (List.mem_of_getElem? ht)
    have htl := len_pats htm
    have ht6 : t.length ≤ 6 := by omega
    have hip : i < 729 := by
      rw [List.length_map, List.length_reverse] at hi; omega
    have hsl : (sta f n ((pats n).reverse.take i)).length < sizeLine := lt_small (by rw [sta, List.length_map, List.length_take]; omega)
    refine ⟨_, rfl, t, rfl, ht6, fun r3 H3 s3 r30 hr3 => ?_⟩
    have hF3 := s3 _ _ hF2
    refine ⟨_, rfl, Nat.zero_le _, fun e4 he4 => ?_⟩
    have s4 := same_new he4 (.lst [])
    have hF4 := s4 _ _ hF3
    have s24 := s2.trans (s3.trans s4)
    have hr4 := s4 _ _ hr3
    refine ⟨_, _, .lst (SqL.of hr4) (dp_iv (opn t)), .lst (SqL.of upd_same) .nil, shL_iv _, shL0, _, rfl, ?_⟩
    rw [eqv_nilL]
    have fin : ∀ (w3 w4 w5 : Option V) (v : V), v = oi (st f n t) → ∃ v3 v4 v5 : Option V, [some (V.ref d), some (.int (n : Nat)), some (.ref F), w3, w4, w5] = [some (.ref d), some (.int (n : Nat)), some (.ref F), v3, v4, v5] ∧
        Same H (upd (upd H3 e4 (.lst [])) F (.dK (putK (sta f n ((pats n).reverse.take i)) (kt t) v))) ∧ (upd (upd H3 e4 (.lst [])) F (.dK (putK (sta f n ((pats n).reverse.take i)) (kt t) v))) F = some (.dK (sta f n ((pats n).reverse.take (i + 1)))) ∧
        (upd (upd H3 e4 (.lst [])) F (.dK (putK (sta f n ((pats n).reverse.take i)) (kt t) v))) p = some (.lst ((pats n).reverse.map vt)) := fun w3 w4 w5 v hv =>
      ⟨_, _, _, rfl, schg s24 hF _, by rw [upd_same, hv, sta_put hRn ht], by rw [upd_ne hpF]; exact s4 _ _ (s3 _ _ hp2)⟩
    cases eo : opn t with
    | nil =>
      refine iteT ?_
      have hin := opn_nil htm eo
      have hst := st_input hf hin
      refine ⟨_, rfl, _, rfl, d, .int (f t), rfl, .inl ⟨_, kt t, srd s24 hd, rfl, ?_⟩, _, rfl, _, rfl, F, _, rfl, .inl ⟨_, kt t, hF4, rfl, hsl, rfl⟩, fin _ _ _ _ (by rw [hst]; rfl)⟩
      rw [wor, valV_map, if_pos hin]
    | cons j rest =>
      refine iteF ?_
      have hj : j ∈ opn t := eo ▸ List.mem_cons_self
      obtain ⟨hj1, hj2⟩ := mem_opn.mp hj
      rw [eo] at hr4
      have hl0 : t.set j 48 ∈ (pats n).reverse.take i := ahead_rev (sorted_pats n) ht (set_pats htm (by simp)) (lt_set hj1 (by rw [hj2]; decide))
      have hl1 : t.set j 49 ∈ (pats n).reverse.take i := ahead_rev (sorted_pats n) ht (set_pats htm (by simp)) (lt_set hj1 (by rw [hj2]; decide))
      refine ⟨_, rfl, _, rfl, _, rfl, r3, _, _, _, rfl, rfl, SqL.of hr4, atI0 _ _, t, j, 48, congrArg (fun z => [vt t, V.int (j : Nat), V.str z]) t0, ht6, hj1, F, oi (st f n (t.set j 48)), rfl, .inl ⟨_, kt (t.set j 48), .inl hF4, rfl, (val_sta hl0).symm⟩, ?_⟩
      refine ⟨_, rfl, _, rfl, _, rfl, _, rfl, r3, _, _, _, rfl, rfl, SqL.of hr4, atI0 _ _, t, j, 49, congrArg (fun z => [vt t, V.int (j : Nat), V.str z]) t1, ht6, hj1, F, oi (st f n (t.set j 49)), rfl, .inl ⟨_, kt (t.set j 49), .inl hF4, rfl, (val_sta hl1).symm⟩, oi_scal _ _, _, rfl, ?_⟩
      have spl := st_split hf htm hj
      rw [oi_eq]
      refine ite2 (fun h => ?_) (fun h => ?_)
      · have h' := of_decide_eq_true h
        refine ⟨_, rfl, _, rfl, _, rfl, F, _, rfl, .inl ⟨_, kt t, hF4, rfl, hsl, rfl⟩, fin _ _ _ _ ?_⟩
        rw [spl, if_pos h']
      · refine ⟨_, rfl, _, rfl, F, _, rfl, .inl ⟨_, kt t, hF4, rfl, hsl, rfl⟩, fin _ _ _ _ ?_⟩
        rw [spl, if_neg (fun z => h (decide_eq_true z))]; rfl
  · rintro σ H2 ⟨v3, v4, v5, rfl, s2, hF2, hp2⟩
    rw [List.length_map, List.take_length] at hF2
    exact ⟨_, rfl, k F H2 s2 hF hF2⟩
end
end Lk

set_option Elab.async false
set_option linter.all false
set_option maxRecDepth 100000
set_option maxHeartbeats 4000000
/-! LkW13: the law's needs and least sizes. -/
namespace Lk
open PySem PySem.Spec PyProof.Rows L2
/-- an input fits a settling pattern of v known places -/
def Att (f : Pat → Int) (n : Nat) (x : Pat) (v : Nat) : Prop := ∃ q ∈ pats n, Fit x q ∧ st f n q ≠ none ∧ siz q = v
section
variable {P : Program} {w : World} {K : PySem.W.Frag} {mg : Str → Option Value} {base : Heap}
def spNeeds : Sp := fun vs H Q _ => ∃ (d : Addr) (f : Pat → Int) (n : Nat), vs = [.ref d, .int (n : Nat)] ∧ Rd H d (.dK (sta f n (pats n).reverse)) ∧ Bi f ∧ n ≤ 6 ∧
  ∀ (r : Addr) (kvs : List (Key × V)) (H' : Hp), Same H H' → H' r = some (.dK kvs) → (∀ p ∈ pats n, ∃ v : Nat, valV kvs (kt p) = some (.int (v : Nat)) ∧ Good f n p v) → Q (.ref r) H'
theorem sc_law_least_sizes : FnScope ["_law_settling_here", "_law_many", "_law_found", "_law_pattern", "_law_text"] ["_law_settling_here", "_law_many"] (defScope s_law_least_sizes) := ⟨rfl, rfl, rfl, by decide +kernel, rfl, by decide +kernel, by decide +kernel⟩
theorem ok_law_needs (T : TX K mg) (D : DF K mg "_law_needs" s_law_needs) (C_law_patterns : Cal P w K mg base 2 "_law_patterns" spPatterns) (C_law_put : Cal P w K mg base 1 "_law_put" spPut) (C_law_open_spots : Cal P w K mg base 1 "_law_open_spots" spOpen) : Cal P w K mg base 3 "_law_needs" spNeeds := by
  refine mkCal D sc_law_needs (fun _ _ _ _ _ _ us hl => match us, hl with | [_, _], _ => rfl) (fun vs H Q E h => ?_) (fun fa cdv A outer s H vs Q E hr h => ?_)
  · obtain ⟨d, f, n, rfl, _⟩ := h; rfl
  obtain ⟨d, f, n, rfl, hd, hf, hn, k⟩ := h
  have hp729 := pats_small hn
  refine ⟨_, (pss_cons (ps_set (i := 2) sc_law_needs.nd rfl (Or.inl rfl) pe_dnewK)
      (pss_cons (ps_for PassesOwn.never rfl (pi_list (pe_revL (pe_c C_law_patterns (by exact hr) (by decide) (by rfl) (pa_cons (pv 1) pa_nil)))) (pg_name (i := 3) sc_law_needs.nd rfl (Or.inl rfl) (Or.inr rfl)) (pss_cons (ps_dput (hu_of hr) (pv 2) (pv 3) pe_int rfl)
      (pss_one (ps_if (pt_cmpR op_isN (pe_dget (by exact hu_of hr) (pv 0) (pv 3) (by intro _ _; rfl)) pe_non (nomark _)) (pss_cons (ps_set (i := 4) sc_law_needs.nd rfl (Or.inl rfl) (pe_lst pa_nil))
      (pss_cons (ps_for PassesOwn.never rfl (pi_list (pe_c C_law_open_spots (by exact hr) (by decide) (by rfl) (pa_cons (pv 3) pa_nil))) (pg_name (i := 5) sc_law_needs.nd rfl (Or.inl rfl) (Or.inr rfl)) (pss_one (ps_expr (pe_bm PySem.F.plainAttrs_list PySem.F.slot_list_append PySem.F.type_list_append mt_append (pv 4) (pa_cons (pe_op op_add pe_int (pe_callB (call_max2 rfl) (by rfl) T.f_max (by decide +kernel) (pa_cons (pe_dget (by exact hu_of hr) (pv 2) (pe_c C_law_put (by exact hr) (by decide) (by rfl) (pa_cons (pv 3) (pa_cons (pv 5) (pa_cons pe_str pa_nil)))) (by intro _ _; rfl)) (pa_cons (pe_dget (by exact hu_of hr) (pv 2) (pe_c C_law_put (by exact hr) (by decide) (by rfl) (pa_cons (pv 3) (pa_cons (pv 5) (pa_cons pe_str pa_nil)))) (by intro _ _; rfl)) pa_nil)))) pa_nil)))))
      (pss_one (ps_dput (hu_of hr) (pv 2) (pv 3) (pe_callB (cr_min rfl) (by rfl) T.f_min (by decide +kernel) (pa_cons (pv 4) pa_nil)) rfl)))) pss_nil))))
      (pss_one (ps_ret (pv 2))))), ?_⟩
  refine fun F hF => ⟨_, rfl, n, rfl, hn, fun r H1 s1 r0 hr1 => ⟨r, _, rfl, SqL.of hr1, fun p hp => ?_⟩⟩
  rw [← List.map_reverse]
  have hRn : (pats n).reverse.Nodup := (List.reverse_perm (pats n)).nodup_iff.mpr (nodup_pats n)
  have s0 : Same H H1 := (same_new hF _).trans s1
  have hpF : p ≠ F := fun e => by rw [e, s1 _ _ upd_same] at hp; cases hp
  refine ⟨p, rfl, ⟨_, SqL.of upd_same⟩, for_it (walk_list (xs := (pats n).reverse.map vt)) (fun i σ H' => ∃ (v3 v4 v5 : Option V) (kvs : List (Key × V)), σ = [some (.ref d), some (.int (n : Nat)), some (.ref F), v3, v4, v5] ∧ Same H H' ∧ H' F = some (.dK kvs) ∧ H' p = some (.lst ((pats n).reverse.map vt)) ∧ kvs.length ≤ 2 * i ∧
      ∀ q ∈ (pats n).reverse.take i, ∃ v : Nat, valV kvs (kt q) = some (.int (v : Nat)) ∧ Good f n q v)
    ⟨_, _, _, [], rfl, snew s0 hp _, ?_, upd_same, Nat.le_refl _, fun q hq => by rw [List.take_zero] at hq; cases hq⟩ (fun i σ H' _ z => by obtain ⟨_, _, _, _, _, _, _, h, _⟩ := z; exact SqL.of h) ?_ ?_⟩
  · rw [upd_ne (fun e => hpF e.symm), s1 _ _ upd_same]
  · rintro i x σ H0 H2 hi ⟨v3, v4, v5, kvs, rfl, s2, hF2, hp2, hkl, hg⟩ ⟨rfl, e⟩
    rw [List.getElem?_map] at e
    obtain ⟨t, ht, rfl⟩ := Option.map_eq_some_iff.mp e
    have htR := List.mem_of_getElem? ht
    have htm : t ∈ pats n := List.mem_reverse.mp htR
    have htl := len_pats htm
    have ht6 : t.length ≤ 6 := by omega
    have hip : i < 729 := by
      rw [List.length_map, List.length_reverse] at hi; omega
    have l1 := length_putK kvs (kt t) (.int 0)
    refine ⟨_, rfl, _, rfl, F, _, rfl, .inl ⟨kvs, kt t, hF2, rfl, lt_small (by omega), rfl⟩, ?_⟩
    have s3 : Same H (upd H2 F (.dK (putK kvs (kt t) (.int 0)))) := schg s2 hF _
    have hp3 : (upd H2 F (.dK (putK kvs (kt t) (.int 0)))) p = some (.lst ((pats n).reverse.map vt)) := by rw [upd_ne hpF]; exact hp2
    refine ⟨_, rfl, _, rfl, d, oi (st f n t), rfl, .inl ⟨_, kt t, srd s3 hd, rfl, (val_sta htR).symm⟩, rfl, _, rfl, ?_⟩
    have keep : ∀ (y : V) (q : Pat), q ∈ (pats n).reverse.take i → valV (putK kvs (kt t) y) (kt q) = valV kvs (kt q) := fun y q hq => by
      rw [valV_put, if_neg]
      intro e
      exact fresh_at hRn ht ((kt_inj e) ▸ hq)
    cases hst : st f n t with
    | some b =>
      refine iteF ⟨_, _, _, _, rfl, s3, upd_same, hp3, by omega, fun q hq => ?_⟩
      rw [take_snoc ht] at hq
      rcases List.mem_append.mp hq with hq | hq
      · obtain ⟨v, e1, e2⟩ := hg q hq
        exact ⟨v, by rw [keep _ q hq]; exact e1, e2⟩
      · rw [List.mem_singleton.mp hq]
        exact ⟨0, by rw [valV_put, if_pos rfl]; rfl, fun _ => rfl, fun z => (by rw [hst] at z; cases z), fun t _ => Nat.zero_le _⟩
    | none =>
      refine iteT ⟨Nat.zero_le _, fun R hR => ?_⟩
      have hRF : R ≠ F := fun e => by rw [e, upd_same] at hR; cases hR
      have hRp : R ≠ p := fun e => by rw [e, hp3] at hR; cases hR
      have s4 := same_new hR (.lst [])
      refine ⟨_, rfl, t, rfl, ht6, fun S H5 s5 S0 hS5 => ⟨S, rfl, ⟨_, SqL.of hS5⟩, ?_⟩⟩
      have hSR : S ≠ R := fun e => by rw [e, upd_same] at S0; cases S0
      have hF5 := s5 _ _ (s4 _ _ (upd_same (H := H2) (a := F) (o := .dK (putK kvs (kt t) (.int 0)))))
      have hp5 := s5 _ _ (s4 _ _ hp3)
      have hR5 := s5 _ _ (upd_same (H := upd H2 F (.dK (putK kvs (kt t) (.int 0)))) (a := R) (o := .lst []))
      refine for_it (walk_list (xs := iv (opn t))) (fun j σ H' => ∃ (v5 : Option V) (ns : List Nat), σ = [some (.ref d), some (.int (n : Nat)), some (.ref F), some (vt t), some (.ref R), v5] ∧ Same H H' ∧ H' F = some (.dK (putK kvs (kt t) (.int 0))) ∧ H' p = some (.lst ((pats n).reverse.map vt)) ∧ H' S = some (.lst (iv (opn t))) ∧
          H' R = some (.lst (ns.map fun v : Nat => V.int (v : Nat))) ∧ ns.length = j ∧ (∀ y ∈ ns, 0 < y) ∧ ∀ i ∈ (opn t).take j, ∃ y ∈ ns, ∀ l h, Wf f n (t.set i 48) l → Wf f n (t.set i 49) h → y ≤ 1 + max (dep l) (dep h))
        ⟨_, [], rfl, s3.trans (s4.trans s5), hF5, hp5, hS5, hR5, rfl, (by intro y hy; cases hy), fun q hq => by rw [List.take_zero] at hq; cases hq⟩ (fun i σ H' _ z => by obtain ⟨_, _, _, _, _, _, h, _⟩ := z; exact SqL.of h) ?_ ?_
      · rintro j y σ H0 H6 hj ⟨v5, ns, rfl, s6, hF6, hp6, hS6, hR6, hnl, hn0, hni⟩ ⟨rfl, e⟩
        rw [iv, List.getElem?_map] at e
        obtain ⟨m, hm, rfl⟩ := Option.map_eq_some_iff.mp e
        have hmo := List.mem_of_getElem? hm
        obtain ⟨hm1, hm2⟩ := mem_opn.mp hmo
        have hl0 : t.set m 48 ∈ (pats n).reverse.take i := ahead_rev (sorted_pats n) ht (set_pats htm (by simp)) (lt_set hm1 (by rw [hm2]; decide))
        have hl1 : t.set m 49 ∈ (pats n).reverse.take i := ahead_rev (sorted_pats n) ht (set_pats htm (by simp)) (lt_set hm1 (by rw [hm2]; decide))
        obtain ⟨a, ea, ga⟩ := hg _ hl0
        obtain ⟨b, eb, gb⟩ := hg _ hl1
        have hj6 : j < 6 := by
          have h1 : j < (iv (opn t)).length := hj
          rw [iv_len] at h1
          have := opn_le t
          omega
        refine ⟨_, rfl, .inl ⟨rfl, _, SqL.of hR6⟩, _, rfl, _, rfl, _, rfl, t, m, 48, congrArg (fun z => [vt t, V.int (m : Nat), V.str z]) t0, ht6, hm1, F, .int (a : Nat), rfl, .inl ⟨_, kt (t.set m 48), .inl hF6, rfl, by rw [keep _ _ hl0, ea]⟩, ?_⟩
        refine ⟨_, rfl, _, rfl, _, rfl, t, m, 49, congrArg (fun z => [vt t, V.int (m : Nat), V.str z]) t1, ht6, hm1, F, .int (b : Nat), rfl, .inl ⟨_, kt (t.set m 49), .inl hF6, rfl, by rw [keep _ _ hl1, eb]⟩, _, _, rfl, _, _, rfl, rfl, R, _, _, rfl, rfl, hR6, lt_small (by rw [List.length_map]; omega), ?_⟩
        have emax : (1 : Int) + (if ((b : Nat) : Int) > ((a : Nat) : Int) then ((b : Nat) : Int) else ((a : Nat) : Int)) = ((1 + max a b : Nat) : Int) := by
          split <;> omega
        refine ⟨_, ns ++ [1 + max a b], rfl, schg s6 (s3.free hR) _, by rw [upd_ne (fun e => hRF e.symm)]; exact hF6, by rw [upd_ne (fun e => hRp e.symm)]; exact hp6, by rw [upd_ne hSR]; exact hS6, ?_, by rw [List.length_append, hnl]; rfl, ?_, ?_⟩
        · rw [upd_same, List.map_append]
          exact congrArg (fun z : Int => some (HO.lst (ns.map (fun v : Nat => V.int (v : Nat)) ++ [V.int z]))) emax
        · intro y hy
          rcases List.mem_append.mp hy with hy | hy
          · exact hn0 y hy
          · rw [List.mem_singleton.mp hy]; omega
        · intro c hc
          rw [take_snoc hm] at hc
          rcases List.mem_append.mp hc with hc | hc
          · obtain ⟨y, hy, hyl⟩ := hni c hc
            exact ⟨y, List.mem_append_left _ hy, hyl⟩
          · rw [List.mem_singleton.mp hc]
            refine ⟨1 + max a b, List.mem_append_right _ (List.mem_singleton.mpr rfl), fun l h wl wh => ?_⟩
            have h1 := ga.2.2 l wl
            have h2 := gb.2.2 h wh
            omega
      · rintro σ H6 ⟨v5, ns, rfl, s6, hF6, hp6, hS6, hR6, hnl, hn0, hni⟩
        rw [iv_len] at hnl hni
        rw [List.take_length] at hni
        have hop : opn t ≠ [] := fun e => by
          have := st_input hf (opn_nil htm e)
          rw [hst] at this; cases this
        have hpos : 0 < ns.length := by
          rw [hnl]
          exact List.length_pos_iff.mpr hop
        refine ⟨_, rfl, R, ns.map fun v : Nat => (v : Int), rfl, SqL.of (by rw [hR6, List.map_map]; rfl), by rw [List.length_map]; exact hpos, fun m hm hle => ?_⟩
        obtain ⟨v, hv, rfl⟩ := List.mem_map.mp hm
        have l2 := length_putK (putK kvs (kt t) (.int 0)) (kt t) (.int (v : Nat))
        refine ⟨_, rfl, _, rfl, F, _, rfl, .inl ⟨_, kt t, hF6, rfl, lt_small (by omega), rfl⟩, ?_⟩
        refine ⟨_, _, _, _, rfl, schg s6 hF _, upd_same, by rw [upd_ne hpF]; exact hp6, by omega, fun q hq => ?_⟩
        rw [take_snoc ht] at hq
        rcases List.mem_append.mp hq with hq | hq
        · obtain ⟨v, e1, e2⟩ := hg q hq
          refine ⟨v, ?_, e2⟩
          rw [valV_put, if_neg (fun e => fresh_at hRn ht (by rw [← kt_inj (p := q) (q := t) e]; exact hq)), keep _ q hq]; exact e1
        · rw [List.mem_singleton.mp hq]
          refine ⟨v, by rw [valV_put, if_pos rfl], fun z => absurd hst z, fun _ => hn0 v hv, fun tr wt => ?_⟩
          cases tr with
          | lf b =>
            have : st f n t = some b := wt
            rw [hst] at this; cases this
          | nd i l h =>
            obtain ⟨w1, _, w2, w3⟩ := wt
            obtain ⟨y, hy, hyl⟩ := hni i w1
            have h1 := hle (y : Int) (List.mem_map.mpr ⟨y, hy, rfl⟩)
            have h2 := hyl l h w2 w3
            show v ≤ 1 + max (dep l) (dep h)
            omega
  · rintro σ H2 ⟨v3, v4, v5, kvs, rfl, s2, hF2, hp2, hkl, hg⟩
    rw [List.length_map, List.take_length] at hg
    exact ⟨_, rfl, k F kvs H2 s2 hF2 fun p hp => hg p (List.mem_reverse.mpr hp)⟩
def spLeast : Sp := fun vs H Q _ => ∃ (d : Addr) (f : Pat → Int) (n : Nat), vs = [.ref d, .int (n : Nat)] ∧ H d = some (.dK (sta f n (pats n).reverse)) ∧ Bi f ∧ n ≤ 6 ∧
  ∀ (r : Addr) (kvs : List (Key × V)) (od : Obj) (H' : Hp), SameBut d H H' → H' d = some (.frz od (.dK (sta f n (pats n).reverse))) → H r = none → r ≠ d → H' r = some (.dK kvs) → (∀ x ∈ ins n, ∃ v : Nat, valV kvs (kt x) = some (.int (v : Nat)) ∧ Att f n x v) → Q (.ref r) H'
theorem ok_law_least_sizes (T : TX K mg) (D : DF K mg "_law_least_sizes" s_law_least_sizes) (C_law_inputs : Cal P w K mg base 2 "_law_inputs" spInputs) (C_law_fits : Cal P w K mg base 1 "_law_fits" spFits) (C_law_size : Cal P w K mg base 1 "_law_size" spLSize) : Cal P w K mg base 3 "_law_least_sizes" spLeast := by
  refine mkCal D sc_law_least_sizes (fun _ _ _ _ _ _ us hl => match us, hl with | [_, _], _ => rfl) (fun vs H Q E h => ?_) (fun fa cdv A outer s H vs Q E hr h => ?_)
  · obtain ⟨d, f, n, rfl, _⟩ := h; rfl
  obtain ⟨d, f, n, rfl, hd, hf, hn, k⟩ := h
  have hp729 := pats_small hn
  have hi64 : (ins n).length ≤ 64 := by rw [length_ins]; exact Nat.pow_le_pow_right (n := 2) (by decide) hn
  refine ⟨_, (pss_cons (ps_set (i := 2) sc_law_least_sizes.nd rfl (Or.inl rfl) pe_dnewK)
      (pss_cons (ps_for PassesOwn.never rfl (pi_keys (pe_frz (pv 0))) (pg_name (i := 3) sc_law_least_sizes.nd rfl (Or.inl rfl) (Or.inr rfl)) (pss_one (ps_if (pt_cmpR op_notN (pe_dget (by exact hu_of hr) (pv 0) (pv 3) (by intro _ _; rfl)) pe_non (nomark _)) (pss_one (ps_for PassesOwn.never rfl (pi_list (pe_c C_law_inputs (by exact hr) (by decide) (by rfl) (pa_cons (pv 1) pa_nil))) (pg_name (i := 4) sc_law_least_sizes.nd rfl (Or.inl rfl) (Or.inr rfl)) (pss_one (ps_if (pt_val (pe_c C_law_fits (by exact hr) (by decide) (by rfl) (pa_cons (pv 4) (pa_cons (pv 3) pa_nil)))) (pss_one (ps_dput (hu_of hr) (pv 2) (pv 4) (pe_callB (call_min2 rfl) (by rfl) T.f_min (by decide +kernel) (pa_cons (pe_dget2 (by exact hu_of hr) (pv 2) (pv 4) pe_int ⟨rfl, rfl, rfl, rfl⟩) (pa_cons (pe_c C_law_size (by exact hr) (by decide) (by rfl) (pa_cons (pv 3) pa_nil)) pa_nil))) rfl)) pss_nil)))) pss_nil)))
      (pss_one (ps_ret (pv 2))))), ?_⟩
  refine fun F hF => ?_
  have hdF : d ≠ F := ne_of_none hd hF
  have hd1 : (upd H F (.dK [])) d = some (.dK (sta f n (pats n).reverse)) := by rw [upd_ne hdF]; exact hd
  refine ⟨_, rfl, d, .dK (sta f n (pats n).reverse), rfl, hd1, trivial, fun od => ⟨d, od, rfl, .inl ⟨_, upd_same, ?_⟩⟩⟩
  refine for_it walk_keys (fun i σ H' => ∃ (v3 v4 : Option V) (kvs : List (Key × V)), σ = [some (.ref d), some (.int (n : Nat)), some (.ref F), v3, v4] ∧ SameBut d H H' ∧ H' d = some (.frz od (.dK (sta f n (pats n).reverse))) ∧ H' F = some (.dK kvs) ∧ kvs.length ≤ 64 * i ∧
      (∀ x ∈ ins n, ∀ y, valV kvs (kt x) = some y → ∃ v : Nat, y = .int (v : Nat) ∧ Att f n x v) ∧ ∀ x ∈ ins n, (∃ q ∈ (pats n).reverse.take i, st f n q ≠ none ∧ Fit x q) → valV kvs (kt x) ≠ none)
    ⟨_, _, [], rfl, (sbut (same_new hF _)).trans (SameBut.upd d _ _), upd_same, by rw [upd_ne (fun e => hdF e.symm), upd_same], Nat.le_refl _, fun x _ y hy => (by rw [valV_nil] at hy; cases hy), fun x _ ⟨q, hq, _⟩ => (by rw [List.take_zero] at hq; cases hq)⟩
    (fun i σ H' _ z => by obtain ⟨_, _, _, _, _, z, _⟩ := z; exact z) ?_ ?_
  · rintro i x σ H0 H2 hi ⟨v3, v4, kvs, rfl, sb, hd2, hF2, hkl, hA, hB⟩ ⟨rfl, k', v', e, rfl⟩
    rw [sta, List.getElem?_map] at e
    obtain ⟨t, ht, e⟩ := Option.map_eq_some_iff.mp e
    obtain ⟨rfl, rfl⟩ := Prod.mk.inj e
    have htR := List.mem_of_getElem? ht
    have htm : t ∈ pats n := List.mem_reverse.mp htR
    have htl := len_pats htm
    have ht6 : t.length ≤ 6 := by omega
    have hip : i < 729 := by
      have h1 : i < (sta f n (pats n).reverse).length := hi
      rw [sta, List.length_map, List.length_reverse] at h1; omega
    refine ⟨_, rfl, _, rfl, d, oi (st f n t), rfl, .inl ⟨_, kt t, .inr ⟨od, hd2⟩, rfl, (val_sta htR).symm⟩, rfl, _, rfl, ?_⟩
    cases hst : st f n t with
    | none =>
      refine iteF ⟨_, _, kvs, rfl, sb, hd2, hF2, by omega, hA, fun x hx ⟨q, hq, h1, h2⟩ => ?_⟩
      rw [take_snoc ht] at hq
      rcases List.mem_append.mp hq with hq | hq
      · exact hB x hx ⟨q, hq, h1, h2⟩
      · rw [List.mem_singleton.mp hq] at h1
        exact absurd hst h1
    | some b =>
      refine iteT ⟨_, rfl, n, rfl, hn, fun r H3 s3 r0 hr3 => ⟨r, rfl, ⟨_, SqL.of hr3⟩, ?_⟩⟩
      have hrF : r ≠ F := fun e => by rw [e, hF2] at r0; cases r0
      refine for_it (walk_list (xs := (ins n).map vt)) (fun j σ H' => ∃ (v4 : Option V) (kvs : List (Key × V)), σ = [some (.ref d), some (.int (n : Nat)), some (.ref F), some (vt t), v4] ∧ SameBut d H H' ∧ H' d = some (.frz od (.dK (sta f n (pats n).reverse))) ∧ H' r = some (.lst ((ins n).map vt)) ∧ H' F = some (.dK kvs) ∧ kvs.length ≤ 64 * i + j ∧
          (∀ x ∈ ins n, ∀ y, valV kvs (kt x) = some y → ∃ v : Nat, y = .int (v : Nat) ∧ Att f n x v) ∧ (∀ x ∈ ins n, (∃ q ∈ (pats n).reverse.take i, st f n q ≠ none ∧ Fit x q) → valV kvs (kt x) ≠ none) ∧ ∀ x ∈ (ins n).take j, Fit x t → valV kvs (kt x) ≠ none)
        ⟨_, kvs, rfl, sb.trans (sbut s3), s3 _ _ hd2, hr3, s3 _ _ hF2, hkl, hA, hB, fun q hq => by rw [List.take_zero] at hq; cases hq⟩ (fun i σ H' _ z => by obtain ⟨_, _, _, _, _, h, _⟩ := z; exact SqL.of h) ?_ ?_
      · rintro j y σ H0 H4 hj ⟨v4, kvs, rfl, sb4, hd4, hr4, hF4, hkl4, hA4, hB4, hC4⟩ ⟨rfl, e⟩
        rw [List.getElem?_map] at e
        obtain ⟨x, hx, rfl⟩ := Option.map_eq_some_iff.mp e
        have hxm := List.mem_of_getElem? hx
        have hj64 : j < 64 := by
          have h1 : j < ((ins n).map vt).length := hj
          rw [List.length_map] at h1
          omega
        refine ⟨_, rfl, _, rfl, x, t, rfl, (len_ins hxm).trans htl.symm, ht6, fun H5 s5 => ?_⟩
        refine ⟨_, rfl, ?_⟩
        cases hfit : fitB x t with
        | false =>
          refine iteF ⟨_, kvs, rfl, sb4.trans (sbut s5), s5 _ _ hd4, s5 _ _ hr4, s5 _ _ hF4, by omega, hA4, hB4, fun q hq hqf => ?_⟩
          rw [take_snoc hx] at hq
          rcases List.mem_append.mp hq with hq | hq
          · exact hC4 q hq hqf
          · rw [List.mem_singleton.mp hq] at hqf
            rw [fitB_iff.mpr hqf] at hfit; cases hfit
        | true =>
          have hF5 := s5 _ _ hF4
          have hfx := fitB_iff.mp hfit
          have att : Att f n x (siz t) := ⟨t, htm, hfx, by rw [hst]; simp, rfl⟩
          have hs6 : siz t ≤ 6 := Nat.le_trans (siz_le t) ht6
          have fin : ∀ (v : Nat) (H6 : Hp), Same H5 H6 → Att f n x v → ∃ (v4 : Option V) (kvs' : List (Key × V)), [some (V.ref d), some (.int (n : Nat)), some (.ref F), some (vt t), some (vt x)] = [some (V.ref d), some (.int (n : Nat)), some (.ref F), some (vt t), v4] ∧ SameBut d H (upd H6 F (.dK (putK kvs (kt x) (.int (v : Nat))))) ∧
              (upd H6 F (.dK (putK kvs (kt x) (.int (v : Nat))))) d = some (.frz od (.dK (sta f n (pats n).reverse))) ∧ (upd H6 F (.dK (putK kvs (kt x) (.int (v : Nat))))) r = some (.lst ((ins n).map vt)) ∧ (upd H6 F (.dK (putK kvs (kt x) (.int (v : Nat))))) F = some (.dK kvs') ∧ kvs'.length ≤ 64 * i + (j + 1) ∧
              (∀ x ∈ ins n, ∀ y, valV kvs' (kt x) = some y → ∃ v : Nat, y = .int (v : Nat) ∧ Att f n x v) ∧ (∀ x ∈ ins n, (∃ q ∈ (pats n).reverse.take i, st f n q ≠ none ∧ Fit x q) → valV kvs' (kt x) ≠ none) ∧ ∀ x ∈ (ins n).take (j + 1), Fit x t → valV kvs' (kt x) ≠ none := fun v H6 s6 hv => by
            have l1 := length_putK kvs (kt x) (.int (v : Nat))
            refine ⟨_, putK kvs (kt x) (.int (v : Nat)), rfl, ?_, ?_, ?_, upd_same, by omega, ?_, ?_, ?_⟩
            · intro c o hc ho
              have hcF : c ≠ F := fun e => by rw [e, hF] at ho; cases ho
              rw [upd_ne hcF]
              exact s6 _ _ (s5 _ _ (sb4 c o hc ho))
            · rw [upd_ne hdF]; exact s6 _ _ (s5 _ _ hd4)
            · rw [upd_ne hrF]; exact s6 _ _ (s5 _ _ hr4)
            · intro q hq y hy
              rw [valV_put] at hy
              by_cases e : kt q = kt x
              · rw [if_pos e] at hy
                rw [kt_inj e]
                exact ⟨v, (Option.some.inj hy).symm, hv⟩
              · rw [if_neg e] at hy
                exact hA4 q hq y hy
            · intro q hq hh
              rw [valV_put]
              by_cases e : kt q = kt x
              · rw [if_pos e]; simp
              · rw [if_neg e]; exact hB4 q hq hh
            · intro q hq hqf
              rw [valV_put]
              by_cases e : kt q = kt x
              · rw [if_pos e]; simp
              · rw [if_neg e]
                rw [take_snoc hx] at hq
                rcases List.mem_append.mp hq with hq | hq
                · exact hC4 q hq hqf
                · exact absurd (by rw [List.mem_singleton.mp hq]) e
          refine iteT ⟨_, rfl, F, rfl, .inl ⟨_, .inl hF5⟩, _, rfl, valV kvs (kt x), .inl ⟨_, kt x, .inl hF5, rfl, rfl⟩, ?_⟩
          cases ev : valV kvs (kt x) with
          | none =>
            refine ⟨_, rfl, t, rfl, ht6, fun H6 s6 => ⟨9, (siz t : Nat), rfl, ?_⟩⟩
            rw [if_pos (by omega)]
            exact ⟨_, rfl, _, rfl, F, _, rfl, .inl ⟨_, kt x, s6 _ _ hF5, rfl, lt_small (by omega), rfl⟩, fin (siz t) H6 s6 att⟩
          | some y =>
            obtain ⟨v, rfl, hv⟩ := hA4 x hxm y ev
            refine ⟨_, rfl, t, rfl, ht6, fun H6 s6 => ⟨(v : Nat), (siz t : Nat), rfl, ?_⟩⟩
            refine ⟨_, rfl, _, rfl, F, _, rfl, .inl ⟨_, kt x, s6 _ _ hF5, rfl, lt_small (by omega), rfl⟩, ?_⟩
            by_cases c : ((siz t : Nat) : Int) < (v : Nat)
            · rw [if_pos c]; exact fin (siz t) H6 s6 att
            · rw [if_neg c]; exact fin v H6 s6 hv
      · rintro σ H4 ⟨v4, kvs, rfl, sb4, hd4, hr4, hF4, hkl4, hA4, hB4, hC4⟩
        rw [List.length_map] at hC4 hkl4
        rw [List.take_length] at hC4
        refine ⟨_, _, kvs, rfl, sb4, hd4, hF4, by omega, hA4, fun x hx ⟨q, hq, h1, h2⟩ => ?_⟩
        rw [take_snoc ht] at hq
        rcases List.mem_append.mp hq with hq | hq
        · exact hB4 x hx ⟨q, hq, h1, h2⟩
        · rw [List.mem_singleton.mp hq] at h2
          exact hC4 x hx h2
  · rintro σ H2 ⟨v3, v4, kvs, rfl, sb, hd2, hF2, hkl, hA, hB⟩
    have el : (sta f n (pats n).reverse).length = (pats n).reverse.length := List.length_map _
    rw [el, List.take_length] at hB
    refine ⟨_, rfl, k F kvs od H2 sb hd2 hF (fun e => hdF e.symm) hF2 fun x hx => ?_⟩
    cases ev : valV kvs (kt x) with
    | none => exact absurd ev (hB x hx ⟨x, List.mem_reverse.mpr (ins_pats hx), by rw [st_input hf hx]; simp, Fit.refl x⟩)
    | some y =>
      obtain ⟨v, rfl, hv⟩ := hA x hx y ev
      exact ⟨v, rfl, hv⟩
end
end Lk

set_option Elab.async false
set_option linter.all false
set_option maxRecDepth 100000
set_option maxHeartbeats 4000000
/-! LkW14: the law's blocks. -/
namespace Lk
open PySem PySem.Spec PyProof.Rows L2
/-- the places of the ones -/
def supp (n : Nat) (x : Pat) : List Nat := (List.range n).filter fun k => gt x k == 49
def blks (n : Nat) : List (List Nat) := ((ins n).map (supp n)).filter fun B => !B.isEmpty
theorem supp_len (n : Nat) (x : Pat) : (supp n x).length ≤ n := Nat.le_trans (List.length_filter_le _ _) (by rw [List.length_range]; exact Nat.le_refl _)
theorem supp_lt {n : Nat} {x : Pat} {i : Nat} (h : i ∈ supp n x) : i < n := List.mem_range.mp (List.mem_filter.mp h).1
theorem mem_blks {n : Nat} {B : List Nat} (h : B ∈ blks n) : ∀ i ∈ B, i < n := fun i hi => by
  obtain ⟨h1, _⟩ := List.mem_filter.mp h
  obtain ⟨x, _, rfl⟩ := List.mem_map.mp h1
  exact supp_lt hi
theorem blks_len {n : Nat} (hn : n ≤ 6) : (blks n).length ≤ 64 := by
  refine Nat.le_trans (List.length_filter_le _ _) ?_
  rw [List.length_map, length_ins]
  exact Nat.pow_le_pow_right (n := 2) (by decide) hn
theorem nat_back : ∀ l : List Nat, (l.map fun i : Nat => (i : Int)).map Int.toNat = l
  | [] => rfl
  | a :: l => by
    rw [List.map_cons, List.map_cons, nat_back l]; rfl
theorem map_nat_iv (l : List Nat) : (l.map fun i : Nat => (i : Int)).map V.int = iv l := by rw [List.map_map]; rfl
theorem shT_iv (l : List Nat) : SeqAt.shaped (.tuple (l.map fun i : Nat => PyData.int (i : Int))) = true := by
  have := shTI (l.map fun i : Nat => (i : Int))
  rw [List.map_map] at this
  exact this
section
variable {P : Program} {w : World} {K : PySem.W.Frag} {mg : Str → Option Value} {base : Heap}
/-- the refs of blocks -/
abbrev rfs (bs : List (Addr × List Nat)) : List V := bs.map fun b => .ref b.1
def spBlocks : Sp := fun vs H Q _ => ∃ n : Nat, vs = [.int (n : Nat)] ∧ n ≤ 6 ∧ ∀ (r : Addr) (bs : List (Addr × List Nat)) (H' : Hp), Same H H' → H r = none → H' r = some (.lst (rfs bs)) → (∀ b ∈ bs, H' b.1 = some (.tup (iv b.2))) → (bs.map (·.2)).Perm (blks n) → Q (.ref r) H'
theorem sc_law_blocks : FnScope ["_law_many", "_law_found", "_law_text", "_law_block", "_law_k"] ["_law_many"] (defScope s_law_blocks) := ⟨rfl, rfl, rfl, by decide +kernel, rfl, by decide +kernel, by decide +kernel⟩
theorem sc_law_turning : FnScope ["_law_worths_here", "_law_text", "_law_many", "_law_block"] ["_law_worths_here", "_law_text", "_law_many"] (defScope s_law_turning) := ⟨rfl, rfl, rfl, by decide +kernel, rfl, by decide +kernel, by decide +kernel⟩
theorem ok_law_blocks (T : TX K mg) (D : DF K mg "_law_blocks" s_law_blocks) (C_law_inputs : Cal P w K mg base 2 "_law_inputs" spInputs) : Cal P w K mg base 3 "_law_blocks" spBlocks := by
  refine mkCal D sc_law_blocks (fun _ _ _ _ _ _ us hl => match us, hl with | [_], _ => rfl) (fun vs H Q E h => ?_) (fun fa cdv A outer s H vs Q E hr h => ?_)
  · obtain ⟨n, rfl, _⟩ := h; rfl
  obtain ⟨n, rfl, hn, k⟩ := h
  have hi64 : (ins n).length ≤ 64 := by rw [length_ins]; exact Nat.pow_le_pow_right (n := 2) (by decide) hn
  refine ⟨_, (pss_cons (ps_set (i := 1) sc_law_blocks.nd rfl (Or.inl rfl) (pe_lst pa_nil))
      (pss_cons (ps_for PassesOwn.never rfl (pi_list (pe_c C_law_inputs (by exact hr) (by decide) (by rfl) (pa_cons (pv 0) pa_nil))) (pg_name (i := 2) sc_law_blocks.nd rfl (Or.inr rfl) (Or.inl rfl)) (pss_cons (ps_set (i := 3) sc_law_blocks.nd rfl (Or.inl rfl) (pe_tupleOf (by rfl) T.f_tuple (pe_lc (own := [("_law_k", 4)]) rfl sc_law_blocks.nd (pi_range1 (by rfl) T.f_range (pa_cons (pv 0) pa_nil)) (blkOk_by (own := [("_law_k", 4)]) (N := ["_law_many", "_law_found", "_law_text", "_law_block", "_law_k"]) (sc := defScope s_law_blocks) (by decide +kernel)) (fun _ _ _ _ _ => (pg_name (i := 4) sc_law_blocks.nd rfl (Or.inl rfl) (Or.inr rfl))) (fun _ _ _ _ _ => (pts_one (pt_cmpR op_eq (pe_ix ix_str (pv 2) (pv 4) (by intro _ _; rfl)) pe_str (nomark _)))) (fun _ _ _ _ _ => (pv 4)))))
      (pss_one (ps_if (pt_cmpR (op_neD hr.units) (pv 3) (pe_tup pa_nil) (nomark _)) (pss_one (ps_expr (pe_bm PySem.F.plainAttrs_list PySem.F.slot_list_append PySem.F.type_list_append mt_append (pv 1) (pa_cons (pv 3) pa_nil)))) pss_nil))))
      (pss_one (ps_ret (pe_callB (cr_sortedTup hr.units) (by rfl) T.f_sorted (by decide +kernel) (pa_cons (pv 1) pa_nil)))))), ?_⟩
  refine ⟨Nat.zero_le _, fun F hF => ⟨_, rfl, n, rfl, hn, fun r H1 s1 r0 hr1 => ⟨r, rfl, ⟨_, SqL.of hr1⟩, ?_⟩⟩⟩
  have s0 : Same H H1 := (same_new hF _).trans s1
  have hrF : r ≠ F := fun e => by rw [e, upd_same] at r0; cases r0
  have hF1 := s1 _ _ (upd_same (H := H) (a := F) (o := .lst []))
  refine for_it (walk_list (xs := (ins n).map vt)) (fun i σ H' => ∃ (v2 v3 v4 : Option V) (bs : List (Addr × List Nat)), σ = [some (.int (n : Nat)), some (.ref F), v2, v3, v4] ∧ Same H H' ∧ H' r = some (.lst ((ins n).map vt)) ∧ H' F = some (.lst (rfs bs)) ∧ bs.length ≤ i ∧ (∀ b ∈ bs, H' b.1 = some (.tup (iv b.2))) ∧
      bs.map (·.2) = (((ins n).take i).map (supp n)).filter fun B => !B.isEmpty)
    ⟨_, _, _, [], rfl, s0, hr1, hF1, Nat.le_refl _, (by intro b hb; cases hb), rfl⟩ (fun i σ H' _ z => by obtain ⟨_, _, _, _, _, _, h, _⟩ := z; exact SqL.of h) ?_ ?_
  · rintro i x σ H0 H2 hi ⟨v2, v3, v4, bs, rfl, s2, hr2, hF2, hbl, hbt, hbe⟩ ⟨rfl, e⟩
    rw [List.getElem?_map] at e
    obtain ⟨x, hx, rfl⟩ := Option.map_eq_some_iff.mp e
    have hxm := List.mem_of_getElem? hx
    have hxl := len_ins hxm
    have hi64' : i < 64 := by
      have h1 : i < ((ins n).map vt).length := hi
      rw [List.length_map] at h1
      omega
    refine ⟨_, rfl, _, rfl, by omega, by omega, fun D hD => lc_new (walk_rg (n := n)) hD (fun i => ((List.range i).filter fun i => gt x i == 49).map fun i => .int (i : Nat)) rfl (fun i hi => ?_) (fun _ _ => trivial) (fun i y H0 H' K1 K0 hi s3 y k1 k0 => ?_) (fun H3 s3 h3 => ?_)⟩
    · exact Nat.le_trans (filter_le _ _) (by omega)
    · obtain ⟨rfl, rfl⟩ := y
      have hi' : i < x.length := by omega
      refine ⟨rfl, ?_⟩
      refine ⟨_, rfl, _, rfl, tx x, _, gt x i, rfl, rfl, len6 (n := 6) (by omega), atI_gt hi', rfl, _, rfl, ?_⟩
      have e : decide (V.str (⟨#[gt x i]⟩ : Str) = V.str "1") = (gt x i == 49) := by rw [t1, dec_1]; rfl
      rw [e]
      refine ite2 (fun h => ?_) (fun h => ?_)
      · refine ⟨_, rfl, k1 _ _ (Same.refl _) ?_⟩
        rw [filter_range, if_pos h]
      · refine k0 _ (Same.refl _) ?_
        rw [filter_range, if_neg h, List.append_nil]
    · refine .inl ⟨D, _, rfl, SqL.of h3, fun t ht => ?_⟩
      have s4 := snew s3 ht (.tup (iv (supp n x)))
      refine ⟨_, rfl, Nat.zero_le _, fun e5 he5 => ?_⟩
      have s5 := snew s4 he5 (.tup [])
      have ht5 : (upd (upd H3 t (.tup (iv (supp n x)))) e5 (.tup [])) t = some (.tup (iv (supp n x))) := same_new he5 _ _ _ upd_same
      refine ⟨_, _, .tup (SqT.of ht5) (dp_iv (supp n x)), .tup (SqT.of upd_same) .nil, shT_iv _, shT0, _, rfl, ?_⟩
      rw [eqv_nilT]
      have hF5 := s5 _ _ hF2
      have hb5 : ∀ b ∈ bs, (upd (upd H3 t (.tup (iv (supp n x)))) e5 (.tup [])) b.1 = some (.tup (iv b.2)) := fun b hb => s5 _ _ (hbt b hb)
      have es : (((ins n).take (i + 1)).map (supp n)).filter (fun B => !B.isEmpty) = ((((ins n).take i).map (supp n)).filter fun B => !B.isEmpty) ++ (if (!(supp n x).isEmpty) = true then [supp n x] else []) := by
        rw [take_snoc hx, List.map_append, List.filter_append]
        congr 1
        by_cases c : (!(supp n x).isEmpty) = true
        · rw [if_pos c]; exact List.filter_cons_of_pos c
        · rw [if_neg c]; exact List.filter_cons_of_neg c
      have ee : ((supp n x).map fun i : Nat => PyData.int (i : Int)).isEmpty = (supp n x).isEmpty := by cases supp n x <;> rfl
      rw [ee]
      refine ite2 (fun h => ?_) (fun h => ?_)
      · refine ⟨_, rfl, .inl ⟨rfl, _, SqL.of hF5⟩, _, rfl, F, _, _, rfl, rfl, hF5, lt_small (by rw [List.length_map]; omega), ?_⟩
        refine ⟨_, _, _, bs ++ [(t, supp n x)], rfl, schg (s2.trans s5) hF _, ?_, by rw [upd_same]; show some (HO.lst (_ ++ _)) = some (HO.lst (List.map _ (bs ++ [(t, supp n x)]))); rw [List.map_append]; rfl, by rw [List.length_append]; show bs.length + 1 ≤ _; omega, ?_, ?_⟩
        · rw [upd_ne hrF]; exact s5 _ _ hr2
        · intro b hb
          rw [upd_ne (fun e => by
            rcases List.mem_append.mp hb with hb | hb
            · have := hb5 b hb
              rw [e, hF5] at this; cases this
            · rw [List.mem_singleton.mp hb] at e
              rw [← e] at hF5
              rw [ht5] at hF5; cases hF5)]
          rcases List.mem_append.mp hb with hb | hb
          · exact hb5 b hb
          · rw [List.mem_singleton.mp hb]; exact ht5
        · rw [List.map_append, hbe, es, if_pos h]; rfl
      · refine ⟨_, _, _, bs, rfl, s2.trans s5, s5 _ _ hr2, hF5, by omega, hb5, ?_⟩
        rw [hbe, es, if_neg h, List.append_nil]
  · rintro σ H2 ⟨v2, v3, v4, bs, rfl, s2, hr2, hF2, hbl, hbt, hbe⟩
    rw [List.length_map] at hbl hbe
    rw [List.take_length] at hbe
    refine ⟨_, rfl, F, bs.map fun b => (b.1, b.2.map fun i : Nat => (i : Int)), rfl, SqL.of (by rw [hF2, List.map_map]; rfl), by rw [List.length_map]; omega, ?_, fun ys p pm hp => ?_⟩
    · intro b hb
      obtain ⟨c, hc, rfl⟩ := List.mem_map.mp hb
      refine ⟨SqT.of (by rw [map_nat_iv]; exact hbt c hc), ?_⟩
      have : c.2 ∈ bs.map (·.2) := List.mem_map.mpr ⟨c, hc, rfl⟩
      rw [hbe] at this
      have h2 := (List.mem_filter.mp this).2
      intro z
      have z2 := List.map_eq_nil_iff.mp z
      rw [z2] at h2; cases h2
    · have hys : ∃ cs : List (Addr × List Nat), cs.Perm bs ∧ ys = cs.map fun b => (b.1, b.2.map fun i : Nat => (i : Int)) := by
        refine ⟨ys.map fun b => (b.1, b.2.map Int.toNat), ?_, ?_⟩
        · have := pm.map fun b : Addr × List Int => (b.1, b.2.map Int.toNat)
          refine this.trans ?_
          rw [List.map_map]
          have e : ((fun b : Addr × List Int => (b.1, b.2.map Int.toNat)) ∘ fun b : Addr × List Nat => (b.1, b.2.map fun i : Nat => (i : Int))) = id := by
            funext b
            show (b.1, (b.2.map fun i : Nat => (i : Int)).map Int.toNat) = b
            rw [nat_back]
          rw [e, List.map_id]
        · rw [List.map_map]
          have : ∀ y ∈ ys, ((fun b : Addr × List Nat => (b.1, b.2.map fun i : Nat => (i : Int))) ∘ fun b : Addr × List Int => (b.1, b.2.map Int.toNat)) y = y := fun y hy => by
            obtain ⟨c, hc, rfl⟩ := List.mem_map.mp (pm.subset hy)
            show (c.1, ((c.2.map fun i : Nat => (i : Int)).map Int.toNat).map fun i : Nat => (i : Int)) = (c.1, c.2.map fun i : Nat => (i : Int))
            rw [nat_back]
          rw [List.map_congr_left this, List.map_id']
      obtain ⟨cs, pc, rfl⟩ := hys
      rw [List.map_map]
      have sp := same_new hp (.lst (rfs cs))
      refine k p cs _ (s2.trans sp) (s2.free hp) upd_same (fun b hb => sp _ _ (hbt b (pc.subset hb))) ?_
      have := pc.map (·.2)
      rw [hbe] at this
      exact this
end
end Lk

set_option Elab.async false
set_option linter.all false
set_option maxRecDepth 100000
set_option maxHeartbeats 4000000
/-! LkW15: the law's turning blocks; the most apart. -/
namespace Lk
open PySem PySem.Spec PyProof.Rows L2
theorem blk_le {n : Nat} {B : List Nat} (h : B ∈ blks n) : B.length ≤ n := by
  obtain ⟨h1, _⟩ := List.mem_filter.mp h
  obtain ⟨x, _, rfl⟩ := List.mem_map.mp h1
  exact supp_len n x
/-! ### plain: the greatest number of disjoint blocks -/
def zer (n : Nat) : Pat := List.replicate n 48
theorem zer_mem (n : Nat) : zer n ∈ ins n := mem_stg.mpr ⟨List.length_replicate, fun c hc => by rw [List.eq_of_mem_replicate hc]; decide⟩
theorem mul_zero {n : Nat} (h : n ≤ 6) : Txt.mul "0" (n : Int) = tx (zer n) := by
  have hc : n = 0 ∨ n = 1 ∨ n = 2 ∨ n = 3 ∨ n = 4 ∨ n = 5 ∨ n = 6 := by omega
  rcases hc with h | h | h | h | h | h | h <;> subst h <;> decide +kernel
theorem gt_zer {n i : Nat} (h : i < n) : gt (zer n) i = 48 := by
  have := gt_mem (p := zer n) (i := i) (by rw [zer, List.length_replicate]; exact h)
  exact List.eq_of_mem_replicate this
theorem turn_app (x : Pat) (B C : List Nat) : turn x (B ++ C) = turn (turn x B) C := by
  unfold turn
  rw [List.foldl_append]
theorem turn_out {k : Nat} : ∀ {B : List Nat} {x : Pat}, (∀ i ∈ B, i < x.length) → k ∉ B → gt (turn x B) k = gt x k
  | [], x, _, _ => rfl
  | i :: B, x, h, hk => by
    rw [turn_cons, turn_out (by intro j hj; rw [List.length_set]; exact h j (List.mem_cons_of_mem _ hj)) (fun m => hk (List.mem_cons_of_mem _ m)), gt_ne (h i List.mem_cons_self) (fun e => hk (by rw [e]; exact List.mem_cons_self))]
abbrev Dis (B C : List Nat) : Prop := ∀ i ∈ B, i ∉ C
/-- for each choice of disjoint blocks the dict holds at least their number -/
def Low (n : Nat) (Ls : List (List Nat)) (us : List Pat) (g : Pat → Nat) : Prop := ∀ Bs : List (List Nat), Bs.Sublist Ls → Bs.Pairwise Dis → turn (zer n) Bs.flatten ∈ us ∧ Bs.length ≤ g (turn (zer n) Bs.flatten)
theorem low_step {n : Nat} {L : List (List Nat)} {B0 : List Nat} {us us' : List Pat} {g g' : Pat → Nat} (h : Low n L us g) (hL : ∀ B ∈ L, ∀ i ∈ B, i < n) (hB : ∀ i ∈ B0, i < n) (h1 : ∀ u ∈ us, u ∈ us' ∧ g u ≤ g' u)
    (h2 : ∀ u ∈ us, (∀ k ∈ B0, gt u k ≠ 49) → turn u B0 ∈ us' ∧ g u + 1 ≤ g' (turn u B0)) : Low n (L ++ [B0]) us' g' := fun Bs hs hd => by
  obtain ⟨B1, B2, rfl, s1, s2⟩ := List.sublist_append_iff.mp hs
  have d1 := (List.pairwise_append.mp hd)
  obtain ⟨m1, l1⟩ := h B1 s1 d1.1
  have hc : B2 = [] ∨ B2 = [B0] := by
    cases s2 with
    | cons _ s => cases s; exact .inl rfl
    | cons_cons _ s => cases s; exact .inr rfl
  rcases hc with rfl | rfl
  · rw [List.append_nil]
    exact ⟨(h1 _ m1).1, Nat.le_trans l1 (h1 _ m1).2⟩
  · have hfl : ∀ i ∈ B1.flatten, i < (zer n).length := fun i hi => by
      obtain ⟨B, hB1, hi⟩ := List.mem_flatten.mp hi
      rw [zer, List.length_replicate]
      exact hL B (s1.subset hB1) i hi
    have e : turn (zer n) (B1 ++ [B0]).flatten = turn (turn (zer n) B1.flatten) B0 := by
      rw [List.flatten_append, turn_app]
      congr 1
      simp
    obtain ⟨m2, l2⟩ := h2 _ m1 fun k hk => by
      rw [turn_out hfl (fun m => by
        obtain ⟨B, hB1, hi⟩ := List.mem_flatten.mp m
        exact d1.2.2 B hB1 B0 (List.mem_singleton.mpr rfl) k hi hk), gt_zer (hB k hk)]
      decide
    rw [e]
    refine ⟨m2, ?_⟩
    rw [List.length_append]
    show B1.length + 1 ≤ _
    omega
def dst (us : List Pat) (g : Pat → Nat) : List (Key × V) := us.map fun u => (kt u, .int (g u : Nat))
theorem val_dst (us : List Pat) (g : Pat → Nat) (q : Pat) : valV (dst us g) (kt q) = if q ∈ us then some (.int (g q : Nat)) else none := valV_map q us
theorem dst_put (us : List Pat) (g : Pat → Nat) (u : Pat) (v : Nat) (hn : us.Nodup) : ∃ us', putK (dst us g) (kt u) (.int (v : Nat)) = dst us' (fun p => if p = u then v else g p) ∧ us'.Nodup ∧ ∀ p, p ∈ us' ↔ p ∈ us ∨ p = u := by
  by_cases h : u ∈ us
  · refine ⟨us, ?_, hn, fun p => ⟨.inl, fun z => z.elim id fun e => by rw [e]; exact h⟩⟩
    unfold putK
    rw [valV_any, val_dst, if_pos h, Option.isSome_some, if_pos rfl, dst, dst, List.map_map]
    refine List.map_congr_left fun p _ => ?_
    show (if kt p = kt u then (kt p, V.int (v : Nat)) else (kt p, V.int (g p : Nat))) = (kt p, V.int ((if p = u then v else g p : Nat) : Int))
    by_cases e : p = u
    · rw [e, if_pos rfl, if_pos rfl]
    · rw [if_neg (fun z => e (kt_inj z)), if_neg e]
  · refine ⟨us ++ [u], ?_, ?_, fun p => by simp⟩
    · rw [dst, putK_snoc h, dst, List.map_append]
      congr 1
      · refine List.map_congr_left fun p hp => ?_
        rw [if_neg (fun e => h (by rw [← e]; exact hp))]
      · show _ = [(kt u, V.int ((if u = u then v else g u : Nat) : Int))]
        rw [if_pos rfl]
    · rw [List.nodup_append]
      exact ⟨hn, by simp, fun a ha b hb => by rw [List.mem_singleton.mp hb]; exact fun e => h (by rw [← e]; exact ha)⟩
section
variable {P : Program} {w : World} {K : PySem.W.Frag} {mg : Str → Option Value} {base : Heap}
def spTurning : Sp := fun vs H Q _ => ∃ (d : Addr) (f : Pat → Int) (n : Nat) (x : Pat), vs = [.ref d, vt x, .int (n : Nat)] ∧ Rd H d (.dK (wor f n)) ∧ x ∈ ins n ∧ n ≤ 6 ∧ ∀ (r : Addr) (bs : List (Addr × List Nat)) (H' : Hp), Same H H' → H r = none → H' r = some (.lst (rfs bs)) → (∀ b ∈ bs, H' b.1 = some (.tup (iv b.2))) →
  (∀ b ∈ bs, (∀ i ∈ b.2, i < n) ∧ b.2.length ≤ 6) → (∀ B ∈ blks n, Sens f x B → B ∈ bs.map (·.2)) → bs.length ≤ 64 → Q (.ref r) H'
theorem sc_law_most_apart : FnScope ["_law_some", "_law_many", "_law_best", "_law_block", "_law_used", "_law_k", "_law_wide"] ["_law_some", "_law_many"] (defScope s_law_most_apart) := ⟨rfl, rfl, rfl, by decide +kernel, rfl, by decide +kernel, by decide +kernel⟩
theorem ok_law_turning (T : TX K mg) (D : DF K mg "_law_turning" s_law_turning) (C_law_blocks : Cal P w K mg base 3 "_law_blocks" spBlocks) (C_law_turned : Cal P w K mg base 3 "_law_turned" (spTurned K)) : Cal P w K mg base 4 "_law_turning" spTurning := by
  refine mkCal D sc_law_turning (fun _ _ _ _ _ _ us hl => match us, hl with | [_, _, _], _ => rfl) (fun vs H Q E h => ?_) (fun fa cdv A outer s H vs Q E hr h => ?_)
  · obtain ⟨d, f, n, x, rfl, _⟩ := h; rfl
  obtain ⟨d, f, n, x, rfl, hd, hx, hn, k⟩ := h
  refine ⟨_, (pss_one (ps_ret (pe_lc (own := [("_law_block", 3)]) rfl sc_law_turning.nd (pi_list (pe_c C_law_blocks (by exact hr) (by decide) (by rfl) (pa_cons (pv 2) pa_nil))) (blkOk_by (own := [("_law_block", 3)]) (N := ["_law_worths_here", "_law_text", "_law_many", "_law_block"]) (sc := defScope s_law_turning) (by decide +kernel)) (fun _ _ _ _ _ => (pg_name (i := 3) sc_law_turning.nd rfl (Or.inl rfl) (Or.inr rfl))) (fun _ _ _ _ _ => (pts_one (pt_cmpR op_ne (pe_dget (by exact hu_of hr) (pv 0) (pe_c C_law_turned (by exact hr) (by decide) (by rfl) (pa_cons (pv 1) (pa_cons (pv 3) pa_nil))) (by intro _ _; rfl)) (pe_dget (by exact hu_of hr) (pv 0) (pv 1) (by intro _ _; rfl)) (nomark _)))) (fun _ _ _ _ _ => (pv 3))))), ?_⟩
  refine ⟨_, rfl, n, rfl, hn, fun r bs H1 s1 r0 hr1 hb1 pm => ⟨r, rfl, ⟨_, SqL.of hr1⟩, fun D hD => ?_⟩⟩
  have hbl : ∀ b ∈ bs, ∀ i ∈ b.2, i < n := fun b hb => mem_blks (pm.subset (List.mem_map.mpr ⟨b, hb, rfl⟩))
  have hlen : bs.length ≤ 64 := by
    have := pm.length_eq
    rw [List.length_map] at this
    have := blks_len hn
    omega
  refine lc_new (walk_list (xs := rfs bs)) hD (fun i => rfs ((bs.take i).filter fun b => !decide (f (turn x b.2) = f x))) rfl (fun i hi => ?_) (fun H' s' => SqL.of (s' _ _ hr1)) (fun i y H0 H' K1 K0 hi s3 y k1 k0 => ?_) (fun H3 s3 h3 => ?_)
  · rw [List.length_map]
    refine Nat.le_trans (List.length_filter_le _ _) ?_
    rw [List.length_take]; omega
  · obtain ⟨rfl, e⟩ := y
    rw [List.getElem?_map] at e
    obtain ⟨b, hb, rfl⟩ := Option.map_eq_some_iff.mp e
    have hbm := List.mem_of_getElem? hb
    refine ⟨rfl, ?_⟩
    refine ⟨_, rfl, _, rfl, _, rfl, x, b.1, n, b.2, rfl, hn, hx, SqT.of (s3 _ _ (hb1 b hbm)), hbl b hbm, fun H5 s5 => ?_⟩
    have hd5 := srd (s1.trans (s3.trans s5)) hd
    refine ⟨d, .int (f (turn x b.2)), rfl, .inl ⟨_, kt (turn x b.2), hd5, rfl, by rw [wor, valV_map, if_pos (turn_ins hx (hbl b hbm))]⟩, _, rfl, _, rfl, d, .int (f x), rfl, .inl ⟨_, kt x, hd5, rfl, by rw [wor, valV_map, if_pos hx]⟩, rfl, _, rfl, ?_⟩
    rw [dec_i]
    refine ite2 (fun h => ?_) (fun h => ?_)
    · refine ⟨_, rfl, k1 _ _ s5 ?_⟩
      show List.map _ _ = List.map _ _ ++ _
      rw [fil_snoc _ _ hb, if_pos h]
    · refine k0 _ s5 ?_
      show List.map _ _ = List.map _ _
      rw [fil_snoc _ _ hb, if_neg h, List.append_nil]
  · rw [List.length_map, List.take_length] at h3
    refine k D _ H3 (s1.trans s3) (s1.free hD) h3 (fun b hb => s3 _ _ (hb1 b (List.mem_filter.mp hb).1)) (fun b hb => ⟨hbl b (List.mem_filter.mp hb).1, Nat.le_trans (blk_le (pm.subset (List.mem_map.mpr ⟨b, (List.mem_filter.mp hb).1, rfl⟩))) hn⟩) (fun B hB hs => ?_) (Nat.le_trans (List.length_filter_le _ _) hlen)
    obtain ⟨b, hb, rfl⟩ := List.mem_map.mp (pm.symm.subset hB)
    exact List.mem_map.mpr ⟨b, List.mem_filter.mpr ⟨hb, by rw [decide_eq_false hs]; rfl⟩, rfl⟩
def spApart (K : PySem.W.Frag) : Sp := fun vs H Q _ => ∃ (a : Addr) (n : Nat) (bs : List (Addr × List Nat)), vs = [.ref a, .int (n : Nat)] ∧ n ≤ 6 ∧ SqL K H a (rfs bs) ∧ (∀ b ∈ bs, H b.1 = some (.tup (iv b.2))) ∧ (∀ b ∈ bs, (∀ i ∈ b.2, i < n) ∧ b.2.length ≤ 6) ∧ bs.length ≤ 64 ∧
  ∀ (m : Nat) (H' : Hp), Same H H' → (∀ Bs : List (List Nat), Bs.Sublist (bs.map (·.2)) → Bs.Pairwise Dis → Bs.length ≤ m) → Q (.int (m : Nat)) H'
theorem ok_law_most_apart (T : TX K mg) (D : DF K mg "_law_most_apart" s_law_most_apart) (C_law_turned : Cal P w K mg base 3 "_law_turned" (spTurned K)) : Cal P w K mg base 4 "_law_most_apart" (spApart K) := by
  refine mkCal D sc_law_most_apart (fun _ _ _ _ _ _ us hl => match us, hl with | [_, _], _ => rfl) (fun vs H Q E h => ?_) (fun fa cdv A outer s H vs Q E hr h => ?_)
  · obtain ⟨a, n, bs, rfl, _⟩ := h; rfl
  obtain ⟨a, n, bs, rfl, hn, ha, hbt, hbl, hb64, k⟩ := h
  refine ⟨_, (pss_cons (ps_set (i := 2) sc_law_most_apart.nd rfl (Or.inr rfl) (pe_disp (pps_cons (pe_op op_mulS pe_str (pv 1)) pe_int pps_nil) (by rfl) (by rfl) (fun z => by cases z) (by decide)))
      (pss_cons (ps_for PassesOwn.never rfl (pi_list (pv 0)) (pg_name (i := 3) sc_law_most_apart.nd rfl (Or.inl rfl) (Or.inr rfl)) (pss_one (ps_for PassesOwn.never rfl (pi_list (pe_callB (call_sortedDA rfl hr.units) (by rfl) T.f_sorted (by decide +kernel) (pa_cons (pv 2) pa_nil))) (pg_name (i := 4) sc_law_most_apart.nd rfl (Or.inr rfl) (Or.inl rfl)) (pss_one (ps_if (pt_cmpR (op_eqD hr.units) (pe_lc (own := [("_law_k", 5)]) rfl sc_law_most_apart.nd (pi_tup (pv 3)) (blkOk_by (own := [("_law_k", 5)]) (N := ["_law_some", "_law_many", "_law_best", "_law_block", "_law_used", "_law_k", "_law_wide"]) (sc := defScope s_law_most_apart) (by decide +kernel)) (fun _ _ _ _ _ => (pg_name (i := 5) sc_law_most_apart.nd rfl (Or.inl rfl) (Or.inr rfl))) (fun _ _ _ _ _ => (pts_one (pt_cmpR op_eq (pe_ix ix_str (pv 4) (pv 5) (by intro _ _; rfl)) pe_str (nomark _)))) (fun _ _ _ _ _ => (pv 5))) (pe_lst pa_nil) (nomark _)) (pss_cons (ps_set (i := 6) sc_law_most_apart.nd rfl (Or.inl rfl) (pe_c C_law_turned (by exact hr) (by decide) (by rfl) (pa_cons (pv 4) (pa_cons (pv 3) pa_nil))))
      (pss_one (ps_dput (hu_of hr) (pv 2) (pv 6) (pe_callB (call_max2 rfl) (by rfl) T.f_max (by decide +kernel) (pa_cons (pe_dget2 (by exact hu_of hr) (pv 2) (pv 6) pe_int ⟨rfl, rfl, rfl, rfl⟩) (pa_cons (pe_op op_add (pe_dget (by exact hu_of hr) (pv 2) (pv 4) (by intro _ _; rfl)) pe_int) pa_nil))) rfl))) pss_nil)))))
      (pss_one (ps_ret (pe_callB (cr_max rfl) (by rfl) T.f_max (by decide +kernel) (pa_cons (pe_lc (own := [("_law_used", 4)]) rfl sc_law_most_apart.nd (pi_keys (pe_frz (pv 2))) (blkOk_by (own := [("_law_used", 4)]) (N := ["_law_some", "_law_many", "_law_best", "_law_block", "_law_used", "_law_k", "_law_wide"]) (sc := defScope s_law_most_apart) (by decide +kernel)) (fun _ _ _ _ _ => (pg_name (i := 4) sc_law_most_apart.nd rfl (Or.inl rfl) (Or.inr rfl))) (fun _ _ _ _ _ => pts_nil) (fun _ _ _ _ _ => (pe_dget (by exact hu_of hr) (pv 2) (pv 4) (by intro _ _; rfl)))) pa_nil)))))), ?_⟩
  refine fun F hF => ⟨_, rfl, _, _, rfl, rfl, mul_ok hn _ rfl, ?_⟩
  rw [mul_zero hn]
  refine ⟨upd_same, [(kt (zer n), .int 0)], rfl, by show 1 ≤ 15; decide, ?_⟩
  have e0 : mergeK [] [(kt (zer n), V.int 0)] = dst [zer n] (fun _ => 0) := rfl
  rw [e0]
  have s0 : Same H (upd (upd H F (.dK [])) F (.dK (dst [zer n] fun _ => 0))) := schg (same_new hF _) hF _
  have ins64 : ∀ us : List Pat, us.Nodup → (∀ u ∈ us, u ∈ ins n) → us.length ≤ 64 := fun us h1 h2 => by
    have := nodup_le h1 h2
    rw [length_ins] at this
    exact Nat.le_trans this (Nat.pow_le_pow_right (n := 2) (by decide) hn)
  refine ⟨_, rfl, a, rfl, ⟨_, s0.seq ha⟩, for_it (walk_list (xs := rfs bs)) (fun j σ H' => ∃ (v3 v4 v5 v6 : Option V) (us : List Pat) (g : Pat → Nat), σ = [some (.ref a), some (.int (n : Nat)), some (.ref F), v3, v4, v5, v6] ∧ Same H H' ∧ H' F = some (.dK (dst us g)) ∧ us.Nodup ∧ (∀ u ∈ us, u ∈ ins n) ∧ Low n ((bs.map (·.2)).take j) us g)
    ⟨_, _, _, _, [zer n], fun _ => 0, rfl, s0, upd_same, by simp, fun u hu => (by rw [List.mem_singleton.mp hu]; exact zer_mem n), fun Bs hs _ => ?_⟩ (fun i σ H' _ z => by obtain ⟨_, _, _, _, _, _, _, z, _⟩ := z; exact z.seq ha) ?_ ?_⟩
  · have e : Bs = [] := by
      rw [List.take_zero] at hs
      exact List.sublist_nil.mp hs
    rw [e]
    exact ⟨List.mem_singleton.mpr rfl, Nat.le_refl _⟩
  · rintro j y σ H0 H1 hj ⟨v3, v4, v5, v6, us, g, rfl, s1, hF1, hnd, hin, hlow⟩ ⟨rfl, e⟩
    rw [List.getElem?_map] at e
    obtain ⟨b, hb, rfl⟩ := Option.map_eq_some_iff.mp e
    have hbm := List.mem_of_getElem? hb
    have hB : ∀ i ∈ b.2, i < n := (hbl b hbm).1
    have ek : (dst us g).map (·.1) = (us.map tx).map Sum.inr := by rw [dst, List.map_map, List.map_map]; rfl
    have hus := ins64 us hnd hin
    refine ⟨_, rfl, F, _, us.map tx, rfl, .inl hF1, ek, by rw [List.length_map]; omega, fun ys p pm _ hp => ?_⟩
    have hzs : ∃ zs : List Pat, zs.Perm us ∧ ys = zs.map tx := by
      refine ⟨ys.map fun s => s.cps.toList, ?_, ?_⟩
      · have := pm.map fun s : Str => s.cps.toList
        rw [List.map_map] at this
        have e : ((fun s : Str => s.cps.toList) ∘ tx) = id := rfl
        rw [e, List.map_id] at this
        exact this
      · rw [List.map_map]
        have e : (tx ∘ fun s : Str => s.cps.toList) = id := rfl
        rw [e, List.map_id]
    obtain ⟨zs, pz, rfl⟩ := hzs
    have ez : (zs.map tx).map V.str = zs.map vt := by rw [List.map_map]; rfl
    rw [ez]
    have hpF : p ≠ F := fun e => by rw [e, hF1] at hp; cases hp
    refine ⟨p, rfl, ⟨_, SqL.of upd_same⟩, for_it (walk_list (xs := zs.map vt)) (fun i σ H' => ∃ (v4 v5 v6 : Option V) (us' : List Pat) (g' : Pat → Nat), σ = [some (.ref a), some (.int (n : Nat)), some (.ref F), some (.ref b.1), v4, v5, v6] ∧ Same H H' ∧ H' p = some (.lst (zs.map vt)) ∧ H' F = some (.dK (dst us' g')) ∧ us'.Nodup ∧ (∀ u ∈ us', u ∈ ins n) ∧
        (∀ u ∈ us, u ∈ us' ∧ g u ≤ g' u) ∧ ∀ u ∈ zs.take i, (∀ k ∈ b.2, gt u k ≠ 49) → turn u b.2 ∈ us' ∧ g u + 1 ≤ g' (turn u b.2))
      ⟨_, _, _, us, g, rfl, snew s1 hp _, upd_same, by rw [upd_ne (fun e => hpF e.symm)]; exact hF1, hnd, hin, fun u hu => ⟨hu, Nat.le_refl _⟩, fun u hu => (by rw [List.take_zero] at hu; cases hu)⟩ (fun i σ H' _ z => by obtain ⟨_, _, _, _, _, _, _, z, _⟩ := z; exact SqL.of z) ?_ ?_⟩
    · rintro i y σ H0 H2 hi ⟨v4, v5, v6, us', g', rfl, s2, hp2, hF2, hnd', hin', hup, hdo⟩ ⟨rfl, e⟩
      rw [List.getElem?_map] at e
      obtain ⟨u, hu, rfl⟩ := Option.map_eq_some_iff.mp e
      have huz := List.mem_of_getElem? hu
      have huu : u ∈ us := pz.subset huz
      have hui := hin u huu
      have hul := len_ins hui
      have ht2 := s2 _ _ (hbt b hbm)
      refine ⟨_, rfl, b.1, rfl, ⟨_, SqT.of ht2⟩, fun D hD => lc_new (walk_tup (xs := iv b.2)) hD (fun i => iv ((b.2.take i).filter fun k => gt u k == 49)) rfl (fun i hi => ?_) (fun H' s' => SqT.of (s' _ _ ht2)) (fun i y H0 H' K1 K0 hi s3 y k1 k0 => ?_) (fun H3 s3 h3 => ?_)⟩
      · rw [iv_len] at hi ⊢
        refine Nat.le_trans (List.length_filter_le _ _) ?_
        rw [List.length_take]
        have := (hbl b hbm).2
        omega
      · obtain ⟨rfl, e⟩ := y
        rw [iv, List.getElem?_map] at e
        obtain ⟨c, hc, rfl⟩ := Option.map_eq_some_iff.mp e
        have hcn := hB c (List.mem_of_getElem? hc)
        refine ⟨rfl, ?_⟩
        refine ⟨_, rfl, _, rfl, tx u, _, gt u c, rfl, rfl, len6 (n := 6) (by omega), atI_gt (by omega), rfl, _, rfl, ?_⟩
        have e3 : decide (V.str (⟨#[gt u c]⟩ : Str) = V.str "1") = (gt u c == 49) := by rw [t1, dec_1]; rfl
        rw [e3]
        refine ite2 (fun h => ?_) (fun h => ?_)
        · refine ⟨_, rfl, k1 _ _ (Same.refl _) ?_⟩
          rw [iv_ft _ hc, if_pos h]
        · refine k0 _ (Same.refl _) ?_
          rw [iv_ft _ hc, if_neg h, List.append_nil]
      rw [iv_len, List.take_length] at h3
      refine ⟨Nat.zero_le _, fun e4 he4 => ?_⟩
      have s4 := snew s3 he4 (.lst [])
      have h34 := same_new he4 (.lst []) _ _ h3
      refine ⟨_, _, .lst (SqL.of h34) (dp_iv _), .lst (SqL.of upd_same) .nil, shL_iv _, shL0, _, rfl, ?_⟩
      rw [eqv_nilL]
      have ee : ((b.2.filter fun k => gt u k == 49).map fun i : Nat => PyData.int (i : Int)).isEmpty = (b.2.filter fun k => gt u k == 49).isEmpty := by cases (b.2.filter fun k => gt u k == 49) <;> rfl
      rw [ee]
      refine ite2 (fun h => ?_) (fun h => ?_)
      · refine ⟨_, rfl, _, rfl, u, b.1, n, b.2, rfl, hn, hui, SqT.of (s4 _ _ ht2), hB, fun H5 s5 => ?_⟩
        have hwi : turn u b.2 ∈ ins n := turn_ins hui hB
        have hF5 := s5 _ _ (s4 _ _ hF2)
        obtain ⟨huu', hgu⟩ := hup u huu
        obtain ⟨us2, ep, hnd2, hm2⟩ := dst_put us' g' (turn u b.2) (max (if turn u b.2 ∈ us' then g' (turn u b.2) else 0) (g' u + 1)) hnd'
        have hus' := ins64 us' hnd' hin'
        refine ⟨_, rfl, F, rfl, .inl ⟨_, .inl hF5⟩, _, rfl, _, .inl ⟨_, kt (turn u b.2), .inl hF5, rfl, rfl⟩, _, rfl, _, rfl, F, .int (g' u : Nat), rfl, .inl ⟨_, kt u, .inl hF5, rfl, by rw [val_dst, if_pos huu']⟩, _, _, rfl, rfl, ((if turn u b.2 ∈ us' then g' (turn u b.2) else 0 : Nat) : Int), ((g' u : Nat) : Int) + 1, ?_, _, rfl, _, rfl, F, _, rfl, .inl ⟨_, kt (turn u b.2), hF5, rfl, lt_small (by rw [dst, List.length_map]; omega), rfl⟩, ?_⟩
        · rw [val_dst]
          by_cases c : turn u b.2 ∈ us'
          · rw [if_pos c, if_pos c]; rfl
          · rw [if_neg c, if_neg c]; rfl
        have ev : (if ((g' u : Nat) : Int) + 1 > ((if turn u b.2 ∈ us' then g' (turn u b.2) else 0 : Nat) : Int) then ((g' u : Nat) : Int) + 1 else ((if turn u b.2 ∈ us' then g' (turn u b.2) else 0 : Nat) : Int)) = ((max (if turn u b.2 ∈ us' then g' (turn u b.2) else 0) (g' u + 1) : Nat) : Int) := by
          generalize (if turn u b.2 ∈ us' then g' (turn u b.2) else 0) = z
          split <;> omega
        refine ⟨_, _, _, us2, fun p => if p = turn u b.2 then max (if turn u b.2 ∈ us' then g' (turn u b.2) else 0) (g' u + 1) else g' p, rfl, schg (s2.trans (s4.trans s5)) hF _, by rw [upd_ne hpF]; exact s5 _ _ (s4 _ _ hp2), ?_, hnd2, fun q hq => ?_, fun q hq => ?_, fun q hq hk => ?_⟩
        · rw [upd_same, ← ep]
          exact congrArg (fun z : Int => some (HO.dK (putK (dst us' g') (kt (turn u b.2)) (.int z)))) ev
        · rcases (hm2 q).mp hq with z | z
          · exact hin' q z
          · rw [z]; exact hwi
        · obtain ⟨z1, z2⟩ := hup q hq
          refine ⟨(hm2 q).mpr (.inl z1), ?_⟩
          show g q ≤ if q = turn u b.2 then _ else g' q
          split
          · rename_i eq
            rw [← eq, if_pos z1]
            omega
          · exact z2
        · rw [take_snoc hu] at hq
          rcases List.mem_append.mp hq with hq | hq
          · obtain ⟨z1, z2⟩ := hdo q hq hk
            refine ⟨(hm2 _).mpr (.inl z1), ?_⟩
            show _ ≤ if turn q b.2 = turn u b.2 then _ else g' (turn q b.2)
            split
            · rename_i eq
              rw [eq] at z1 z2
              rw [if_pos z1]
              omega
            · exact z2
          · rw [List.mem_singleton.mp hq]
            refine ⟨(hm2 _).mpr (.inr rfl), ?_⟩
            show _ ≤ if turn u b.2 = turn u b.2 then _ else _
            rw [if_pos rfl]
            omega
      · refine ⟨_, _, _, us', g', rfl, s2.trans s4, s4 _ _ hp2, s4 _ _ hF2, hnd', hin', hup, fun q hq hk => ?_⟩
        rw [take_snoc hu] at hq
        rcases List.mem_append.mp hq with hq | hq
        · exact hdo q hq hk
        · rw [List.mem_singleton.mp hq] at hk
          refine absurd ?_ h
          rw [List.isEmpty_iff, List.filter_eq_nil_iff]
          intro c hc z
          exact hk c hc (by simpa using z)
    · rintro σ H2 ⟨v4, v5, v6, us', g', rfl, s2, hp2, hF2, hnd', hin', hup, hdo⟩
      rw [List.length_map, List.take_length] at hdo
      refine ⟨_, _, _, _, us', g', rfl, s2, hF2, hnd', hin', ?_⟩
      have e2 : (bs.map (·.2))[j]? = some b.2 := by rw [List.getElem?_map, hb]; rfl
      rw [take_snoc e2]
      refine low_step hlow (fun B hB' => ?_) hB hup fun u hu hk => hdo u (pz.symm.subset hu) hk
      obtain ⟨c, hc, rfl⟩ := List.mem_map.mp (List.mem_of_mem_take hB')
      exact (hbl c hc).1
  · rintro σ H1 ⟨v3, v4, v5, v6, us, g, rfl, s1, hF1, hnd, hin, hlow⟩
    have hus := ins64 us hnd hin
    have el : (rfs bs).length = (bs.map (·.2)).length := by rw [List.length_map, List.length_map]
    rw [el, List.take_length] at hlow
    refine ⟨_, rfl, F, .dK (dst us g), rfl, hF1, trivial, fun od => ⟨F, od, rfl, .inl ⟨_, upd_same, fun D hD => ?_⟩⟩⟩
    have s2 : Same H (upd H1 F (.frz od (.dK (dst us g)))) := schg s1 hF _
    refine lc_new (walk_keys (kvs := dst us g)) hD (fun i => ((us.take i).map fun u => V.int (g u : Nat))) rfl (fun i hi => ?_) (fun H' s' => s' _ _ upd_same) (fun i y H0 H' K1 K0 hi s3 y k1 k0 => ?_) (fun H3 s3 h3 => ?_)
    · rw [List.length_map, List.length_take]; omega
    · obtain ⟨rfl, k', v', e, rfl⟩ := y
      rw [dst, List.getElem?_map] at e
      obtain ⟨u, hu, e⟩ := Option.map_eq_some_iff.mp e
      obtain ⟨rfl, rfl⟩ := Prod.mk.inj e
      refine ⟨rfl, yes ⟨_, rfl, _, rfl, F, .int (g u : Nat), rfl, .inl ⟨_, kt u, .inr ⟨od, s3 _ _ upd_same⟩, rfl, by rw [val_dst, if_pos (List.mem_of_getElem? hu)]⟩, k1 _ _ (Same.refl _) ?_⟩⟩
      rw [take_snoc hu, List.map_append]; rfl
    · have el2 : (dst us g).length = us.length := List.length_map _
      rw [el2, List.take_length] at h3
      have hne : us ≠ [] := fun e => by
        have := (hlow [] (List.nil_sublist _) List.Pairwise.nil).1
        rw [e] at this; cases this
      refine ⟨D, us.map fun u => ((g u : Nat) : Int), rfl, SqL.of (by rw [h3, List.map_map]; rfl), by rw [List.length_map]; exact List.length_pos_iff.mpr hne, fun m hm hle => ?_⟩
      obtain ⟨u, hu, rfl⟩ := List.mem_map.mp hm
      refine k (g u) H3 (s2.trans s3) fun Bs hs hd => ?_
      obtain ⟨m1, l1⟩ := hlow Bs hs hd
      have := hle _ (List.mem_map.mpr ⟨_, m1, rfl⟩)
      omega
end
end Lk

set_option Elab.async false
set_option linter.all false
set_option maxRecDepth 100000
set_option maxHeartbeats 4000000
/-! LkW16: the law's products: they run. -/
namespace Lk
open PySem PySem.Spec PyProof.Rows L2
theorem flat_iv (l : List Nat) : (iv l).all flatV = true := by
  rw [List.all_eq_true]
  intro x hx
  obtain ⟨i, _, rfl⟩ := List.mem_map.mp hx
  rfl
theorem kV_iv (B : List Nat) : (B.map fun i : Nat => (Sum.inl (i : Int) : Key)).map kV = iv B := by
  rw [List.map_map]; rfl
theorem iv_isEmpty (l : List Nat) : (l.map fun i : Nat => PyData.int (i : Int)).isEmpty = l.isEmpty := by cases l <;> rfl
section
variable {P : Program} {w : World} {K : PySem.W.Frag} {mg : Str → Option Value} {base : Heap}
def spProducts : Sp := fun vs H Q _ => ∃ (d : Addr) (f : Pat → Int) (n : Nat), vs = [.ref d, .int (n : Nat)] ∧ Rd H d (.dK (wor f n)) ∧ Bi f ∧ n ≤ 6 ∧ ∀ (r : Addr) (kvs : List (List Key × V)) (H' : Hp), Same H H' → H' r = some (.dT kvs) → H r = none → kvs.length ≤ 65 → Q (.ref r) H'
theorem sc_law_products : FnScope ["_law_worths_here", "_law_many", "_law_found", "_law_block", "_law_total", "_law_text", "_law_ones", "_law_k"] ["_law_worths_here", "_law_many"] (defScope s_law_products) := ⟨rfl, rfl, rfl, by decide +kernel, rfl, by decide +kernel, by decide +kernel⟩
theorem ok_law_products (T : TX K mg) (D : DF K mg "_law_products" s_law_products) (C_law_blocks : Cal P w K mg base 3 "_law_blocks" spBlocks) (C_law_inputs : Cal P w K mg base 2 "_law_inputs" spInputs) : Cal P w K mg base 4 "_law_products" spProducts := by
  refine mkCal D sc_law_products (fun _ _ _ _ _ _ us hl => match us, hl with | [_, _], _ => rfl) (fun vs H Q E h => ?_) (fun fa cdv A outer s H vs Q E hr h => ?_)
  · obtain ⟨d, f, n, rfl, _⟩ := h; rfl
  obtain ⟨d, f, n, rfl, hd, hf, hn, k⟩ := h
  have hi64 : (ins n).length ≤ 64 := by rw [length_ins]; exact Nat.pow_le_pow_right (n := 2) (by decide) hn
  refine ⟨_, (pss_cons (ps_set (i := 2) sc_law_products.nd rfl (Or.inl rfl) pe_dnewT)
      (pss_cons (ps_for PassesOwn.never rfl (pi_list (pe_op op_cat (pe_lst (pa_cons (pe_tup pa_nil) pa_nil)) (pe_c C_law_blocks (by exact hr) (by decide) (by rfl) (pa_cons (pv 1) pa_nil)))) (pg_name (i := 3) sc_law_products.nd rfl (Or.inr rfl) (Or.inl rfl)) (pss_cons (ps_set (i := 4) sc_law_products.nd rfl (Or.inl rfl) pe_int)
      (pss_cons (ps_for PassesOwn.never rfl (pi_list (pe_c C_law_inputs (by exact hr) (by decide) (by rfl) (pa_cons (pv 1) pa_nil))) (pg_name (i := 5) sc_law_products.nd rfl (Or.inr rfl) (Or.inl rfl)) (pss_cons (ps_setLc (i := 6) (own := [("_law_k", 7)]) rfl sc_law_products.nd rfl rfl (sw_true rfl rfl rfl (by decide +kernel)) (pi_range1 (by rfl) T.f_range (pa_cons (pv 1) pa_nil)) (blkOk_by (own := [("_law_k", 7)]) (N := ["_law_worths_here", "_law_many", "_law_found", "_law_block", "_law_total", "_law_text", "_law_ones", "_law_k"]) (sc := defScope s_law_products) (by decide +kernel)) (fun _ _ _ _ _ => (pg_name (i := 7) sc_law_products.nd rfl (Or.inl rfl) (Or.inr rfl))) (fun _ _ _ _ _ => (pts_one (pt_cmpR op_eq (pe_ix ix_str (pv 5) (pv 7) (by intro _ _; rfl)) pe_str (nomark _)))) (fun _ _ _ _ _ => (pv 7)))
      (pss_one (ps_if (pt_cmpR (op_eqD hr.units) (pe_lc (own := [("_law_k", 7)]) rfl sc_law_products.nd (pi_list (pv 6)) (blkOk_by (own := [("_law_k", 7)]) (N := ["_law_worths_here", "_law_many", "_law_found", "_law_block", "_law_total", "_law_text", "_law_ones", "_law_k"]) (sc := defScope s_law_products) (by decide +kernel)) (fun _ _ _ _ _ => (pg_name (i := 7) sc_law_products.nd rfl (Or.inl rfl) (Or.inr rfl))) (fun _ _ _ _ _ => (pts_one (pt_cmpR (op_notIn_seqK (K := K)) (pv 7) (pv 3) (by with_unfolding_all rfl)))) (fun _ _ _ _ _ => (pv 7))) (pe_lst pa_nil) (nomark _)) (pss_one (ps_set (i := 4) sc_law_products.nd rfl (Or.inl rfl) (pe_op op_add (pv 4) (pe_op op_mul (pe_dget (by exact hu_of hr) (pv 0) (pv 5) (by intro _ _; rfl)) (pe_ix ix_list (pe_lst (pa_cons pe_int (pa_cons (pe_un un_neg pe_int) pa_nil))) (pe_op op_mod (pe_op op_sub (pe_callB call_len_seq (by rfl) T.f_len PySem.boot_len (pa_cons (pv 3) pa_nil)) (pe_callB call_len_seq (by rfl) T.f_len PySem.boot_len (pa_cons (pv 6) pa_nil))) pe_int) (by intro _ _; rfl)))))) pss_nil))))
      (pss_one (ps_if (pt_cmpR op_ne (pv 4) pe_int (nomark _)) (pss_one (ps_dput (hu_of hr) (pv 2) (pv 3) (pv 4) rfl)) pss_nil)))))
      (pss_one (ps_ret (pv 2))))), ?_⟩
  refine fun F hF => ?_
  have sF := same_new hF (.dT [])
  refine ⟨by show 0 ≤ sizeLine; decide, fun t0 ht0 => ⟨by show 1 ≤ sizeLine; decide, fun l0 hl0 => ⟨_, rfl, n, rfl, hn, fun r bs H1 s1 r0 hr1 hb1 pm => ?_⟩⟩⟩
  have st := snew sF ht0 (.tup [])
  have sl := snew st hl0 (.lst [.ref t0])
  have hl1 := s1 _ _ (upd_same (H := upd (upd H F (.dT [])) t0 (.tup [])) (a := l0) (o := .lst [.ref t0]))
  have ht1 := s1 _ _ ((same_new hl0 (.lst [V.ref t0])) _ _ (upd_same (H := upd H F (.dT [])) (a := t0) (o := .tup [])))
  have hF1 := s1 _ _ ((same_new hl0 (.lst [V.ref t0])) _ _ ((same_new ht0 (.tup [])) _ _ (upd_same (H := H) (a := F) (o := .dT []))))
  have hlen : bs.length ≤ 64 := by
    have := pm.length_eq
    rw [List.length_map] at this
    have := blks_len hn
    omega
  refine ⟨l0, r, _, _, rfl, rfl, hl1, hr1, ?_, fun p hp => ?_⟩
  · rw [List.length_map]; exact fits_small (by show 1 + bs.length ≤ 1000000; omega)
  -- all blocks
  have hall : ∀ b ∈ ((t0, []) :: bs : List (Addr × List Nat)), H1 b.1 = some (.tup (iv b.2)) ∧ b.2.length ≤ 6 := fun b hb => by
    rcases List.mem_cons.mp hb with rfl | hb
    · exact ⟨ht1, Nat.zero_le _⟩
    · exact ⟨hb1 b hb, Nat.le_trans (blk_le (pm.subset (List.mem_map.mpr ⟨b, hb, rfl⟩))) hn⟩
  have s01 := sl.trans s1
  have hpF : p ≠ F := fun e => by rw [e, hF1] at hp; cases hp
  have s02 := snew s01 hp (.lst (rfs ((t0, []) :: bs)))
  refine ⟨p, rfl, ⟨_, SqL.of upd_same⟩, for_it (walk_list (xs := rfs ((t0, []) :: bs))) (fun j σ H' => ∃ (v3 v4 v5 v6 v7 : Option V) (kvs : List (List Key × V)), σ = [some (.ref d), some (.int (n : Nat)), some (.ref F), v3, v4, v5, v6, v7] ∧ Same H H' ∧ H' p = some (.lst (rfs ((t0, []) :: bs))) ∧ H' F = some (.dT kvs) ∧ kvs.length ≤ j ∧ (∀ b ∈ ((t0, []) :: bs : List (Addr × List Nat)), H' b.1 = some (.tup (iv b.2))))
    ⟨_, _, _, _, _, [], rfl, s02, upd_same, by rw [upd_ne (fun e => hpF e.symm)]; exact hF1, Nat.le_refl _, fun b hb => same_new hp _ _ _ (hall b hb).1⟩ (fun i σ H' _ z => by obtain ⟨_, _, _, _, _, _, _, _, z, _⟩ := z; exact SqL.of z) ?_ ?_⟩
  · rintro j y σ H0 H2 hj ⟨v3, v4, v5, v6, v7, kvs, rfl, s2, hp2, hF2, hkl, hb2⟩ ⟨rfl, e⟩
    rw [List.getElem?_map] at e
    obtain ⟨b, hb, rfl⟩ := Option.map_eq_some_iff.mp e
    have hbm := List.mem_of_getElem? hb
    have hbl := (hall b hbm).2
    have hbH : H b.1 = none ∨ True := .inr trivial
    refine ⟨_, rfl, n, rfl, hn, fun r3 H3 s3 r30 hr3 => ⟨r3, rfl, ⟨_, SqL.of hr3⟩, ?_⟩⟩
    refine for_it (walk_list (xs := (ins n).map vt)) (fun i σ H' => ∃ (v5 v6 v7 : Option V) (tot : Int), σ = [some (.ref d), some (.int (n : Nat)), some (.ref F), some (.ref b.1), some (.int tot), v5, v6, v7] ∧ Same H2 H' ∧ H' r3 = some (.lst ((ins n).map vt)))
      ⟨_, _, _, _, rfl, s3, hr3⟩ (fun i σ H' _ z => by obtain ⟨_, _, _, _, _, _, z⟩ := z; exact SqL.of z) ?_ ?_
    · rintro i y σ H0 H4 hi ⟨v5, v6, v7, tot, rfl, s4, hr4⟩ ⟨rfl, e⟩
      rw [List.getElem?_map] at e
      obtain ⟨x, hx, rfl⟩ := Option.map_eq_some_iff.mp e
      have hxm := List.mem_of_getElem? hx
      have hxl := len_ins hxm
      refine ⟨_, rfl, _, rfl, by omega, by omega, fun D hD => lc_new (walk_rg (n := n)) hD (fun i => ((List.range i).filter fun i => gt x i == 49).map fun i => .int (i : Nat)) rfl (fun i hi => ?_) (fun _ _ => trivial) (fun i y H0 H' K1 K0 hi s3 y k1 k0 => ?_) (fun H5 s5 h5 => ?_)⟩
      · exact Nat.le_trans (filter_le _ _) (by omega)
      · obtain ⟨rfl, rfl⟩ := y
        have hi' : i < x.length := by omega
        refine ⟨rfl, ?_⟩
        refine ⟨_, rfl, _, rfl, tx x, _, gt x i, rfl, rfl, len6 (n := 6) (by omega), atI_gt hi', rfl, _, rfl, ?_⟩
        have e : decide (V.str (⟨#[gt x i]⟩ : Str) = V.str "1") = (gt x i == 49) := by rw [t1, dec_1]; rfl
        rw [e]
        refine ite2 (fun h => ?_) (fun h => ?_)
        · refine ⟨_, rfl, k1 _ _ (Same.refl _) ?_⟩
          rw [filter_range, if_pos h]
        · refine k0 _ (Same.refl _) ?_
          rw [filter_range, if_neg h, List.append_nil]
      have h5' : H5 D = some (.lst (iv (supp n x))) := h5
      have hsl := supp_len n x
      have hbt5 := s5 _ _ (s4 _ _ (hb2 b hbm))
      refine ⟨_, rfl, D, rfl, ⟨_, SqL.of h5'⟩, fun D6 hD6 => lc_new (walk_list (xs := iv (supp n x))) hD6 (fun i => iv (((supp n x).take i).filter fun k => !inV (.int (k : Nat)) (iv b.2))) rfl (fun i hi => ?_) (fun H' s' => SqL.of (s' _ _ h5')) (fun i y H0 H' K1 K0 hi s6 y k1 k0 => ?_) (fun H6 s6 h6 => ?_)⟩
      · rw [iv_len]
        refine Nat.le_trans (List.length_filter_le _ _) ?_
        rw [List.length_take]; omega
      · obtain ⟨rfl, e⟩ := y
        rw [iv, List.getElem?_map] at e
        obtain ⟨c, hc, rfl⟩ := Option.map_eq_some_iff.mp e
        refine ⟨rfl, ?_⟩
        refine ⟨_, rfl, _, rfl, b.1, _, rfl, .inr (SqT.of (s6 _ _ hbt5)), rfl, flat_iv _, _, rfl, ?_⟩
        refine ite2 (fun h => ?_) (fun h => ?_)
        · refine ⟨_, rfl, k1 _ _ (Same.refl _) ?_⟩
          have h' : (!inV (.int (c : Nat)) (iv b.2)) = true := h
          rw [iv_ft _ hc, if_pos h']
        · refine k0 _ (Same.refl _) ?_
          have h' : ¬ (!inV (.int (c : Nat)) (iv b.2)) = true := h
          rw [iv_ft _ hc, if_neg h', List.append_nil]
      rw [iv_len, List.take_length] at h6
      refine ⟨Nat.zero_le _, fun e7 he7 => ?_⟩
      have s7 : Same H4 (upd H6 e7 (.lst [])) := (s5.trans s6).trans (same_new he7 _)
      have h67 := same_new he7 (.lst []) _ _ h6
      refine ⟨_, _, .lst (SqL.of h67) (dp_iv _), .lst (SqL.of upd_same) .nil, shL_iv _, shL0, _, rfl, ?_⟩
      refine ite2 (fun h => ?_) (fun h => ?_)
      · have hd7 := srd (s2.trans (s4.trans s7)) hd
        have hone : -(2 ^ 64 : Int) < f x ∧ f x < 2 ^ 64 := by
          rcases hf x with e | e <;> rw [e] <;> decide
        have hb7 := s7 _ _ (s4 _ _ (hb2 b hbm))
        have h57 := same_new he7 (.lst []) _ _ (s6 _ _ h5')
        refine ⟨_, rfl, _, rfl, _, rfl, d, .int (f x), rfl, .inl ⟨_, kt x, hd7, rfl, by rw [wor, valV_map, if_pos hxm]⟩, _, rfl, by show 2 ≤ sizeLine; decide, fun g8 hg8 => ?_⟩
        have s8 := same_new hg8 (.lst [.int 1, .int (-1)])
        obtain ⟨m, em, hm⟩ := emod_nat (x := ((iv b.2).length : Int) - ((iv (supp n x)).length : Int)) (m := 2) (by decide)
        have hv : ∃ v : Int, atI [V.int 1, V.int (-1)] ((((iv b.2).length : Int) - ((iv (supp n x)).length : Int)) % 2) = some (.int v) := by
          rw [em]
          have hc : m = 0 ∨ m = 1 := by omega
          rcases hc with rfl | rfl
          · exact ⟨1, atI_nat (j := 0) rfl⟩
          · exact ⟨-1, atI_nat (j := 1) rfl⟩
        obtain ⟨v, hv⟩ := hv
        refine ⟨_, rfl, b.1, _, rfl, .inr (SqT.of (s8 _ _ hb7)), _, rfl, D, _, rfl, .inl (SqL.of (s8 _ _ h57)), _, _, rfl, rfl, _, _, rfl, rfl, by show (0 : Int) < 2; decide, g8, _, _, .int v, rfl, rfl, SqL.of upd_same, hv, _, _, rfl, rfl, .inl hone, _, _, rfl, rfl, ?_⟩
        exact ⟨_, _, _, _, rfl, s4.trans (s7.trans s8), s8 _ _ (s7 _ _ hr4)⟩
      · exact ⟨_, _, _, tot, rfl, s4.trans s7, s7 _ _ hr4⟩
    · rintro σ H4 ⟨v5, v6, v7, tot, rfl, s4, hr4⟩
      have hF4 := s4 _ _ hF2
      have hb4 : ∀ c ∈ ((t0, []) :: bs : List (Addr × List Nat)), H4 c.1 = some (.tup (iv c.2)) := fun c hc => s4 _ _ (hb2 c hc)
      refine ⟨_, rfl, rfl, _, rfl, ?_⟩
      have hj65 : j ≤ 64 := by
        have h1 : j < (rfs ((t0, []) :: bs)).length := hj
        rw [List.length_map, List.length_cons] at h1
        omega
      refine ite2 (fun h => ?_) (fun h => ?_)
      · have l1 := length_putK kvs (b.2.map fun i : Nat => (Sum.inl (i : Int) : Key)) (.int tot)
        refine ⟨_, rfl, _, rfl, _, rfl, F, _, rfl, .inr ⟨kvs, _, b.1, hF4, rfl, by rw [kV_iv]; exact hb4 b hbm, lt_small (by omega), rfl⟩, ?_⟩
        refine ⟨_, _, _, _, _, _, rfl, schg (s2.trans s4) hF _, by rw [upd_ne hpF]; exact s4 _ _ hp2, upd_same, by omega, fun c hc => ?_⟩
        rw [upd_ne (fun e => by have := hb4 c hc; rw [e, hF4] at this; cases this)]
        exact hb4 c hc
      · exact ⟨_, _, _, _, _, kvs, rfl, s2.trans s4, s4 _ _ hp2, hF4, by omega, hb4⟩
  · rintro σ H2 ⟨v3, v4, v5, v6, v7, kvs, rfl, s2, hp2, hF2, hkl, hb2⟩
    refine ⟨_, rfl, k F kvs H2 s2 hF2 hF ?_⟩
    rw [List.length_map, List.length_cons] at hkl
    omega
end
end Lk

set_option Elab.async false
set_option linter.all false
set_option maxRecDepth 100000
set_option maxHeartbeats 4000000
/-! LkW17: the law's looks at a tree. -/
namespace Lk
open PySem PySem.Spec PyProof.Rows L2
/-- a tree as data -/
def trD : Tr → PyData
  | .lf b => .int b
  | .nd i l h => .tuple [.int (i : Nat), trD l, trD h]
theorem trD_lay : ∀ t : Tr, (trD t).canLay0 = true
  | .lf b => rfl
  | .nd i l h => by
    simp only [trD, PyData.canLay0, PyData.canLayAll0, trD_lay l, trD_lay h, Bool.and_self]
theorem trD_depth : ∀ t : Tr, (trD t).depth ≤ dep t
  | .lf b => by simp [trD, PyData.depth]
  | .nd i l h => by
    have h1 := trD_depth l
    have h2 := trD_depth h
    simp only [trD, PyData.depth, PyData.depthAll, dep]
    omega
theorem trDs_shaped : ∀ ts : List Tr, (∀ t ∈ ts, dep t ≤ 20) → PyData.canLayAll0 (ts.map trD) = true ∧ PyData.depthAll (ts.map trD) ≤ 20
  | [], _ => ⟨rfl, by simp [PyData.depthAll]⟩
  | t :: ts, h => by
    obtain ⟨h1, h2⟩ := trDs_shaped ts fun t ht => h t (List.mem_cons_of_mem _ ht)
    have h3 := trD_depth t
    have h4 := h t List.mem_cons_self
    refine ⟨?_, ?_⟩
    · simp only [List.map_cons, PyData.canLayAll0, trD_lay t, h1, Bool.and_self]
    · simp only [List.map_cons, PyData.depthAll]
      omega
theorem shL_tr {ts : List Tr} (h : ∀ t ∈ ts, dep t ≤ 20) : SeqAt.shaped (.list (ts.map trD)) = true := by
  obtain ⟨h1, h2⟩ := trDs_shaped ts h
  unfold SeqAt.shaped
  rw [Bool.and_eq_true, decide_eq_true_iff]
  refine ⟨by simp only [PyData.canLay0]; exact h1, ?_⟩
  simp only [PyData.depth]
  omega
theorem dp_tr {K : PySem.W.Frag} {H : Hp} : ∀ {t : Tr} {v : V}, TreeAt H t v → Dp K H v (trD t)
  | .lf b, v, h => by
    have e : v = .int b := h
    rw [e]; exact .int b
  | .nd i l h, v, ⟨a, x, y, e, h1, h2, h3⟩ => by
    rw [e]
    exact .tup (SqT.of h1) (.cons (.int _) (.cons (dp_tr h2) (.cons (dp_tr h3) .nil)))
theorem dp_trs {K : PySem.W.Frag} {H : Hp} : ∀ {ps : List (V × Tr)}, (∀ p ∈ ps, TreeAt H p.2 p.1) → DpAll K H (ps.map (·.1)) ((ps.map (·.2)).map trD)
  | [], _ => .nil
  | p :: ps, h => .cons (dp_tr (h p List.mem_cons_self)) (dp_trs fun q hq => h q (List.mem_cons_of_mem _ hq))
/-- what is stored in a list leaves a tree as it is -/
theorem TreeAt.upd {H : Hp} {L : Addr} {l : List V} (hL : H L = some (.lst l)) (o : HO) : ∀ {t : Tr} {v : V}, TreeAt H t v → TreeAt (upd H L o) t v
  | .lf _, _, h => h
  | .nd i l h, v, ⟨a, x, y, e, h1, h2, h3⟩ => ⟨a, x, y, e, by rw [upd_ne (fun e => by rw [e, hL] at h1; cases h1)]; exact h1, TreeAt.upd hL o h2, TreeAt.upd hL o h3⟩
theorem cnt_pos : ∀ t : Tr, 1 ≤ cnt t
  | .lf _ => Nat.le_refl _
  | .nd i l h => by show 1 ≤ 1 + cnt l + cnt h; omega
theorem len_cnt : ∀ qs : List (V × Tr), qs.length ≤ (qs.map fun p => cnt p.2).sum
  | [] => Nat.le_refl _
  | q :: qs => by
    have := len_cnt qs
    have := cnt_pos q.2
    rw [List.length_cons, List.map_cons, List.sum_cons]
    omega
section
variable {P : Program} {w : World} {K : PySem.W.Frag} {mg : Str → Option Value} {base : Heap}
theorem sc_law_path : FnScope ["_law_tree", "_law_text", "_law_found", "_law_k"] ["_law_tree", "_law_text"] (defScope s_law_path) := ⟨rfl, rfl, rfl, by decide +kernel, rfl, by decide +kernel, by decide +kernel⟩
theorem sc_law_is_right : FnScope ["_law_worths_here", "_law_tree", "_law_many", "_law_text"] ["_law_worths_here", "_law_tree", "_law_many"] (defScope s_law_is_right) := ⟨rfl, rfl, rfl, by decide +kernel, rfl, by decide +kernel, by decide +kernel⟩
theorem sc_law_is_whole : FnScope ["_law_value"] ["_law_value"] (defScope s_law_is_whole) := ⟨rfl, rfl, rfl, by decide +kernel, rfl, by decide +kernel, by decide +kernel⟩
theorem sc_law_is_tree : FnScope ["_law_tree", "_law_many", "_law_line", "_law_k", "_law_node"] ["_law_tree", "_law_many"] (defScope s_law_is_tree) := ⟨rfl, rfl, rfl, by decide +kernel, rfl, by decide +kernel, by decide +kernel⟩
def spPath : Sp := fun vs H Q _ => ∃ (v : V) (x : Pat) (t : Tr) (n : Nat), vs = [v, vt x] ∧ n ≤ 6 ∧ x ∈ ins n ∧ TreeAt H t v ∧ Snd n t ∧ dep t ≤ 6 ∧
  ∀ (r l : Addr) (H' : Hp), Same H H' → H' r = some (.tup [.ref l, .int (pth t x).2]) → H' l = some (.lst (iv (pth t x).1)) → Q (.ref r) H'
theorem ok_law_path (T : TX K mg) (D : DF K mg "_law_path" s_law_path) : Cal P w K mg base 1 "_law_path" spPath := by
  refine mkCal D sc_law_path (fun _ _ _ _ _ _ us hl => match us, hl with | [_, _], _ => rfl) (fun vs H Q E h => ?_) (fun fa cdv A outer s H vs Q E hr h => ?_)
  · obtain ⟨v, x, t, n, rfl, _⟩ := h; rfl
  obtain ⟨v, x, t, n, rfl, hn, hx, ht, hs, hd, k⟩ := h
  have hxl := len_ins hx
  refine ⟨_, (pss_cons (ps_set (i := 2) sc_law_path.nd rfl (Or.inl rfl) (pe_lst pa_nil))
      (pss_cons (ps_for PassesOwn.never rfl (pi_range1 (by rfl) T.f_range (pa_cons pe_int pa_nil)) (pg_name (i := 3) sc_law_path.nd rfl (Or.inl rfl) (Or.inr rfl)) (pss_cons (ps_if (pt_not (pt_val (pe_callB call_isi (by rfl) T.f_isinstance (by decide +kernel) (pa_cons (pv 0) (pa_cons (pe_tyv (n := "tuple") (by rfl) T.f_tuple (by decide +kernel)) pa_nil))))) (pss_one (ps_ret (pe_tup (pa_cons (pv 2) (pa_cons (pv 0) pa_nil))))) pss_nil)
      (pss_cons (ps_expr (pe_bm PySem.F.plainAttrs_list PySem.F.slot_list_append PySem.F.type_list_append mt_append (pv 2) (pa_cons (pe_ix ix_seq (pv 0) pe_int (by intro _ _; rfl)) pa_nil)))
      (pss_one (ps_set (i := 0) sc_law_path.nd rfl (Or.inl rfl) (pe_ix ix_seq (pv 0) (pe_op op_add pe_int (pe_callTy call_int_str (by rfl) T.f_int (by decide +kernel) (pa_cons (pe_ix ix_str (pv 1) (pe_ix ix_seq (pv 0) pe_int (by intro _ _; rfl)) (by intro _ _; rfl)) pa_nil))) (by intro _ _; rfl)))))))
      (pss_one (ps_ret (pe_tup (pa_cons (pv 2) (pa_cons pe_non pa_nil))))))), ?_⟩
  refine ⟨Nat.zero_le _, fun F hF => ?_⟩
  have sF := same_new hF (.lst [])
  refine ⟨_, rfl, by decide, by decide, for_it (walk_rg (n := 40)) (fun i σ H' => ∃ (v' : V) (v3 : Option V) (t' : Tr) (done : List Nat), σ = [some v', some (vt x), some (.ref F), v3] ∧ Same H H' ∧ TreeAt H' t' v' ∧ Snd n t' ∧ H' F = some (.lst (iv done)) ∧ done.length = i ∧ dep t' + i ≤ dep t ∧ (pth t x).1 = done ++ (pth t' x).1 ∧ (pth t x).2 = (pth t' x).2)
    ⟨v, _, t, [], rfl, sF, ht.same sF, hs, upd_same, rfl, Nat.le_refl _, rfl, rfl⟩ (fun _ _ _ _ _ => trivial) ?_ ?_⟩
  · rintro i y σ H0 H1 hi ⟨v', v3, t', done, rfl, s1, ht1, hs1, hF1, hdl, hdd, e1, e2⟩ ⟨rfl, rfl⟩
    cases t' with
    | lf b =>
      have ev : v' = .int b := ht1
      subst ev
      refine ⟨_, rfl, _, _, _, _, false, rfl, .ty "tuple", .base (.int b), kit_ty (by decide +kernel), false, rfl, iteT ?_⟩
      refine ⟨_, rfl, _, rfl, by show 2 ≤ sizeLine; decide, fun r hr0 => ?_⟩
      have s2 := same_new hr0 (.tup [.ref F, .int b])
      have e1' : (pth t x).1 = done := by rw [e1]; exact List.append_nil _
      have e2' : (pth t x).2 = b := e2
      exact k r F _ (s1.trans s2) (by rw [upd_same, e2']) (by rw [e1']; exact s2 _ _ hF1)
    | nd m l h =>
      obtain ⟨a, xv, yv, rfl, ha, hl, hh⟩ := ht1
      obtain ⟨hm, hsl, hsh⟩ := hs1
      have hd1 : 1 + max (dep l) (dep h) + i ≤ dep t := hdd
      have haF : a ≠ F := fun e => by rw [e, hF1] at ha; cases ha
      refine ⟨_, rfl, _, _, _, _, true, rfl, .ty "tuple", .base (.tup ha), kit_ty (by decide +kernel), true, rfl, iteF ?_⟩
      refine ⟨_, rfl, .inl ⟨rfl, _, SqL.of hF1⟩, _, rfl, .inr (.inl ⟨a, _, 0, _, rfl, rfl, SqT.of ha, atI_nat (j := 0) rfl, F, _, _, rfl, rfl, hF1, lt_small (by rw [iv_len]; omega), ?_⟩)⟩
      have hF2 := upd_same (H := H1) (a := F) (o := .lst (iv done ++ [V.int (m : Nat)]))
      have ha2 : (upd H1 F (.lst (iv done ++ [V.int (m : Nat)]))) a = some (.tup [.int (m : Nat), xv, yv]) := by rw [upd_ne haF]; exact ha
      have eF : (upd H1 F (.lst (iv done ++ [V.int (m : Nat)]))) F = some (.lst (iv (done ++ [m]))) := by rw [upd_same, iv, iv, List.map_append]; rfl
      have hc : gt x m = 48 ∨ gt x m = 49 := (mem_ins.mp hx).2 m hm
      have hl2 := hl.upd hF1 (.lst (iv done ++ [V.int (m : Nat)]))
      have hh2 := hh.upd hF1 (.lst (iv done ++ [V.int (m : Nat)]))
      refine ⟨_, rfl, _, rfl, _, rfl, .inr (.inl ⟨a, _, 0, _, rfl, rfl, SqT.of ha2, atI_nat (j := 0) rfl, tx x, _, gt x m, rfl, rfl, len6 (n := 6) (by omega), atI_gt (by omega), ?_⟩)⟩
      rcases hc with hc | hc
      · rw [hc]
        refine ⟨tx [48], 0, rfl, int0, by decide, _, _, rfl, rfl, .inr (.inl ⟨a, _, 1, _, rfl, rfl, SqT.of ha2, atI_nat (j := 1) rfl, ?_⟩)⟩
        have ep : pth (.nd m l h) x = (m :: (pth l x).1, (pth l x).2) := by
          show (if gt x m = 49 then _ else _) = _
          rw [if_neg (by rw [hc]; decide)]
        refine ⟨xv, _, l, done ++ [m], rfl, schg s1 hF _, hl2, hsl, eF, by rw [List.length_append, hdl]; rfl, by omega, ?_, by rw [e2, ep]⟩
        rw [e1, ep, List.append_assoc]; rfl
      · rw [hc]
        refine ⟨tx [49], 1, rfl, int1, by decide, _, _, rfl, rfl, .inr (.inl ⟨a, _, 2, _, rfl, rfl, SqT.of ha2, atI_nat (j := 2) rfl, ?_⟩)⟩
        have ep : pth (.nd m l h) x = (m :: (pth h x).1, (pth h x).2) := by
          show (if gt x m = 49 then _ else _) = _
          rw [if_pos hc]
        refine ⟨yv, _, h, done ++ [m], rfl, schg s1 hF _, hh2, hsh, eF, by rw [List.length_append, hdl]; rfl, by omega, ?_, by rw [e2, ep]⟩
        rw [e1, ep, List.append_assoc]; rfl
  · rintro σ H1 ⟨v', v3, t', done, rfl, s1, ht1, hs1, hF1, hdl, hdd, e1, e2⟩
    exact absurd hdd (by omega)
def spWhole : Sp := fun vs H Q _ => ∃ i : Int, vs = [.int i] ∧ Q (.bl true) H
theorem ok_law_is_whole (T : TX K mg) (D : DF K mg "_law_is_whole" s_law_is_whole) : Cal P w K mg base 1 "_law_is_whole" spWhole := by
  refine mkCal D sc_law_is_whole (fun _ _ _ _ _ _ us hl => match us, hl with | [_], _ => rfl) (fun vs H Q E h => ?_) (fun fa cdv A outer s H vs Q E hr h => ?_)
  · obtain ⟨i, rfl, _⟩ := h; rfl
  obtain ⟨i, rfl, k⟩ := h
  refine ⟨_, (pss_one (ps_ret (pe_and (pe_callB call_isi (by rfl) T.f_isinstance (by decide +kernel) (pa_cons (pv 0) (pa_cons (pe_tyv (n := "int") (by rfl) T.f_int (by decide +kernel)) pa_nil))) (pe_one (pe_not (pe_callB call_isi (by rfl) T.f_isinstance (by decide +kernel) (pa_cons (pv 0) (pa_cons (pe_tyv (n := "bool") (by rfl) T.f_bool (by decide +kernel)) pa_nil)))))))), ?_⟩
  refine ⟨_, rfl, _, _, _, _, true, rfl, .ty "int", .base (.int i), kit_ty (by decide +kernel), true, rfl, iteT ?_⟩
  exact ⟨_, rfl, _, _, _, _, false, rfl, .ty "bool", .base (.int i), kit_ty (by decide +kernel), false, rfl, k⟩
def spIsTree : Sp := fun vs H Q _ => ∃ (v : V) (t : Tr) (n : Nat), vs = [v, .int (n : Nat)] ∧ TreeAt H t v ∧ Snd n t ∧ dep t ≤ 6 ∧ cnt t < 400 ∧ RetS H Q (.bl true)
theorem inV01 {b : Int} (h : b = 0 ∨ b = 1) : inV (.int b) [.int 0, .int 1] = true := by
  rcases h with rfl | rfl <;> decide +kernel
theorem ok_law_is_tree (T : TX K mg) (D : DF K mg "_law_is_tree" s_law_is_tree) (C_law_is_whole : Cal P w K mg base 1 "_law_is_whole" spWhole) : Cal P w K mg base 2 "_law_is_tree" spIsTree := by
  refine mkCal D sc_law_is_tree (fun _ _ _ _ _ _ us hl => match us, hl with | [_, _], _ => rfl) (fun vs H Q E h => ?_) (fun fa cdv A outer s H vs Q E hr h => ?_)
  · obtain ⟨v, t, n, rfl, _⟩ := h; rfl
  obtain ⟨v, t, n, rfl, ht, hs, hd, hc, k⟩ := h
  refine ⟨_, (pss_cons (ps_set (i := 2) sc_law_is_tree.nd rfl (Or.inl rfl) (pe_lst (pa_cons (pv 0) pa_nil)))
      (pss_cons (ps_for PassesOwn.never rfl (pi_range1 (by rfl) T.f_range (pa_cons pe_int pa_nil)) (pg_name (i := 3) sc_law_is_tree.nd rfl (Or.inl rfl) (Or.inr rfl)) (pss_cons (ps_if (pt_cmpR (op_eqD hr.units) (pv 2) (pe_lst pa_nil) (nomark _)) (pss_one (ps_ret pe_bl)) pss_nil)
      (pss_cons (ps_set (i := 4) sc_law_is_tree.nd rfl (Or.inl rfl) (pe_bm0 PySem.F.plainAttrs_list PySem.F.slot_list_pop PySem.F.type_list_pop mt_pop (pv 2)))
      (pss_one (ps_if (pt_val (pe_callB call_isi (by rfl) T.f_isinstance (by decide +kernel) (pa_cons (pv 4) (pa_cons (pe_tyv (n := "tuple") (by rfl) T.f_tuple (by decide +kernel)) pa_nil)))) (pss_cons (ps_if (PW.pt (pw_or (pt_cmpR op_ne (pe_callB call_len_seq (by rfl) T.f_len PySem.boot_len (pa_cons (pv 4) pa_nil)) pe_int (nomark _)) (pw_or (pt_not (pt_val (pe_c C_law_is_whole (by exact hr) (by decide) (by rfl) (pa_cons (pe_ix ix_seq (pv 4) pe_int (by intro _ _; rfl)) pa_nil)))) (pw_or1 (pt_not (pt_chain op_le op_lt pe_int (pe_ix ix_seq (pv 4) pe_int (by intro _ _; rfl)) (pv 1))))))) (pss_one (ps_ret pe_bl)) pss_nil)
      (pss_cons (ps_expr (pe_bm PySem.F.plainAttrs_list PySem.F.slot_list_append PySem.F.type_list_append mt_append (pv 2) (pa_cons (pe_ix ix_seq (pv 4) pe_int (by intro _ _; rfl)) pa_nil)))
      (pss_one (ps_expr (pe_bm PySem.F.plainAttrs_list PySem.F.slot_list_append PySem.F.type_list_append mt_append (pv 2) (pa_cons (pe_ix ix_seq (pv 4) pe_int (by intro _ _; rfl)) pa_nil)))))) (pss_one (ps_if (PW.pt (pw_or (pt_not (pt_val (pe_c C_law_is_whole (by exact hr) (by decide) (by rfl) (pa_cons (pv 4) pa_nil)))) (pw_or1 (pt_cmpR op_notIn_seq (pv 4) (pe_lst (pa_cons pe_int (pa_cons pe_int pa_nil))) (by with_unfolding_all rfl))))) (pss_one (ps_ret pe_bl)) pss_nil)))))))
      (pss_one (ps_ret pe_bl)))), ?_⟩
  refine ⟨_, rfl, by show 1 ≤ sizeLine; decide, fun F hF => ?_⟩
  have sF := same_new hF (.lst [v])
  refine ⟨_, rfl, by decide, by decide, for_it (walk_rg (n := 400)) (fun i σ H' => ∃ (v3 v4 : Option V) (ps : List (V × Tr)), σ = [some v, some (.int (n : Nat)), some (.ref F), v3, v4] ∧ Same H H' ∧ H' F = some (.lst (ps.map (·.1))) ∧ (∀ p ∈ ps, TreeAt H' p.2 p.1 ∧ Snd n p.2 ∧ dep p.2 ≤ 6) ∧ (ps.map fun p => cnt p.2).sum + i = cnt t)
    ⟨_, _, [(v, t)], rfl, sF, upd_same, fun p hp => (by rw [List.mem_singleton.mp hp]; exact ⟨ht.same sF, hs, hd⟩), rfl⟩ (fun _ _ _ _ _ => trivial) ?_ ?_⟩
  · rintro i y σ H0 H1 hi ⟨v3, v4, ps, rfl, s1, hF1, hps, hsum⟩ ⟨rfl, rfl⟩
    refine ⟨_, rfl, Nat.zero_le _, fun e2 he2 => ?_⟩
    have s2 := same_new he2 (.lst [])
    have hF2 := s2 _ _ hF1
    have hps2 : ∀ p ∈ ps, TreeAt (upd H1 e2 (.lst [])) p.2 p.1 ∧ Snd n p.2 ∧ dep p.2 ≤ 6 := fun p hp => ⟨(hps p hp).1.same s2, (hps p hp).2⟩
    refine ⟨_, _, .lst (SqL.of hF2) (dp_trs fun p hp => (hps2 p hp).1), .lst (SqL.of upd_same) .nil, shL_tr (fun t ht => ?_), shL0, _, rfl, ?_⟩
    · obtain ⟨p, hp, rfl⟩ := List.mem_map.mp ht
      have := (hps p hp).2.2
      omega
    rw [eqv_nilL]
    rcases List.eq_nil_or_concat ps with rfl | ⟨qs, p, rfl⟩
    · exact iteT (k _ (s1.trans s2))
    · have e0 : (((qs ++ [p]).map (·.2)).map trD).isEmpty = false := by
        rw [List.map_append, List.map_append]
        cases h : (qs.map (·.2)).map trD <;> rfl
      rw [List.concat_eq_append] at hF2 hps2 hsum ⊢
      rw [e0]
      refine iteF ?_
      have hpm := hps2 p (by simp)
      have sm : ((qs ++ [p]).map fun p => cnt p.2).sum = (qs.map fun p => cnt p.2).sum + cnt p.2 := by
        rw [List.map_append, List.sum_append]; simp
      rw [sm] at hsum
      have ed : ((qs ++ [p]).map (·.1) : List V).dropLast = qs.map (·.1) := by rw [List.map_append]; exact List.dropLast_concat
      refine ⟨_, rfl, .inl ⟨rfl, _, SqL.of hF2⟩, F, _, p.1, rfl, rfl, hF2, by simp, ?_⟩
      rw [ed]
      have hF3 := upd_same (H := upd H1 e2 (.lst [])) (a := F) (o := .lst (qs.map (·.1)))
      have s3 := schg (s1.trans s2) hF (.lst (qs.map (·.1)))
      have hq3 : ∀ q ∈ qs, TreeAt (upd (upd H1 e2 (.lst [])) F (.lst (qs.map (·.1)))) q.2 q.1 ∧ Snd n q.2 ∧ dep q.2 ≤ 6 := fun q hq => by
        have := hps2 q (by simp [hq])
        exact ⟨this.1.upd hF2 _, this.2⟩
      have hp3 := hpm.1.upd hF2 (.lst (qs.map (·.1)))
      obtain ⟨pv, pt⟩ := p
      cases pt with
      | lf b =>
        have ev : pv = .int b := hpm.1
        subst ev
        have hb : b = 0 ∨ b = 1 := hpm.2.1
        refine ⟨_, rfl, _, _, _, _, false, rfl, .ty "tuple", .base (.int b), kit_ty (by decide +kernel), false, rfl, iteF ?_⟩
        refine ⟨_, rfl, b, rfl, true, rfl, iteF ?_⟩
        refine ⟨_, rfl, by show 2 ≤ sizeLine; decide, fun l4 hl4 => ?_⟩
        have s4 := same_new hl4 (.lst [.int 0, .int 1])
        refine ⟨l4, _, rfl, .inl (SqL.of upd_same), rfl, rfl, _, rfl, ?_⟩
        rw [inV01 hb]
        refine iteF ⟨_, _, qs, rfl, s3.trans s4, s4 _ _ hF3, fun q hq => ⟨(hq3 q hq).1.same s4, (hq3 q hq).2⟩, ?_⟩
        have hsum' : (qs.map fun p => cnt p.2).sum + 1 + i = cnt t := hsum
        omega
      | nd m l h =>
        obtain ⟨a, xv, yv, rfl, ha, hl, hh⟩ := hp3
        obtain ⟨hm, hsl, hsh⟩ := hpm.2.1
        have hd1 : 1 + max (dep l) (dep h) ≤ 6 := hpm.2.2
        have haF : a ≠ F := fun e => by rw [e, hF3] at ha; cases ha
        refine ⟨_, rfl, _, _, _, _, true, rfl, .ty "tuple", .base (.tup ha), kit_ty (by decide +kernel), true, rfl, iteT ?_⟩
        refine ⟨_, rfl, a, _, rfl, .inr (SqT.of ha), rfl, _, rfl, iteF ?_⟩
        refine ⟨_, rfl, .inr (.inl ⟨a, _, 0, _, rfl, rfl, SqT.of ha, atI_nat (j := 0) rfl, (m : Nat), rfl, true, rfl, iteF ?_⟩)⟩
        refine ⟨_, rfl, .inr (.inl ⟨a, _, 0, _, rfl, rfl, SqT.of ha, atI_nat (j := 0) rfl, _, _, rfl, rfl, _, rfl, ?_⟩)⟩
        rw [decide_eq_true (p := (0 : Int) ≤ (m : Nat)) (by omega)]
        refine iteT ⟨_, rfl, _, _, rfl, rfl, _, rfl, ?_⟩
        have hmn : decide (((m : Nat) : Int) < (n : Nat)) = true := decide_eq_true (by omega)
        show (if (!decide (((m : Nat) : Int) < (n : Nat))) = true then _ else _)
        rw [hmn]
        have hql := len_cnt qs
        have hcn : cnt (.nd m l h) = 1 + cnt l + cnt h := rfl
        have hsum' : (qs.map fun p => cnt p.2).sum + cnt (.nd m l h) + i = cnt t := hsum
        refine iteF ⟨_, rfl, .inl ⟨rfl, _, SqL.of hF3⟩, _, rfl, .inr (.inl ⟨a, _, 1, _, rfl, rfl, SqT.of ha, atI_nat (j := 1) rfl, F, _, _, rfl, rfl, hF3, lt_small (by rw [List.length_map]; omega), ?_⟩)⟩
        have hF4 := upd_same (H := upd (upd H1 e2 (.lst [])) F (.lst (qs.map (·.1)))) (a := F) (o := .lst (qs.map (·.1) ++ [xv]))
        have ha4 : (upd (upd (upd H1 e2 (.lst [])) F (.lst (qs.map (·.1)))) F (.lst (qs.map (·.1) ++ [xv]))) a = some (.tup [.int (m : Nat), xv, yv]) := by rw [upd_ne haF]; exact ha
        refine ⟨_, rfl, .inl ⟨rfl, _, SqL.of hF4⟩, _, rfl, .inr (.inl ⟨a, _, 2, _, rfl, rfl, SqT.of ha4, atI_nat (j := 2) rfl, F, _, _, rfl, rfl, hF4, lt_small (by rw [List.length_append, List.length_map]; show qs.length + 1 ≤ _; omega), ?_⟩)⟩
        refine ⟨_, _, qs ++ [(xv, l), (yv, h)], rfl, schg (schg s3 hF _) hF _, by rw [upd_same, List.append_assoc, List.map_append]; rfl, fun q hq => ?_, ?_⟩
        · rcases List.mem_append.mp hq with hq | hq
          · exact ⟨((hq3 q hq).1.upd hF3 _).upd hF4 _, (hq3 q hq).2⟩
          · have hq' : q = (xv, l) ∨ q = (yv, h) := by simpa using hq
            rcases hq' with rfl | rfl
            · exact ⟨(hl.upd hF3 _).upd hF4 _, hsl, by show dep l ≤ 6; omega⟩
            · exact ⟨(hh.upd hF3 _).upd hF4 _, hsh, by show dep h ≤ 6; omega⟩
        · have e5 : ((qs ++ [(xv, l), (yv, h)]).map fun p => cnt p.2).sum = (qs.map fun p => cnt p.2).sum + (cnt l + cnt h) := by
            rw [List.map_append, List.sum_append]; simp
          rw [e5]
          omega
  · rintro σ H1 ⟨v3, v4, ps, rfl, s1, hF1, hps, hsum⟩
    exact absurd hsum (by omega)
def spRight : Sp := fun vs H Q _ => ∃ (d : Addr) (v : V) (t : Tr) (n : Nat) (f : Pat → Int), vs = [.ref d, v, .int (n : Nat)] ∧ Rd H d (.dK (wor f n)) ∧ n ≤ 6 ∧ TreeAt H t v ∧ Snd n t ∧ dep t ≤ 6 ∧ cnt t < 400 ∧ (∀ x ∈ ins n, (pth t x).2 = f x) ∧ RetS H Q (.bl true)
theorem ok_law_is_right (T : TX K mg) (D : DF K mg "_law_is_right" s_law_is_right) (C_law_is_tree : Cal P w K mg base 2 "_law_is_tree" spIsTree) (C_law_inputs : Cal P w K mg base 2 "_law_inputs" spInputs) (C_law_path : Cal P w K mg base 1 "_law_path" spPath) : Cal P w K mg base 3 "_law_is_right" spRight := by
  refine mkCal D sc_law_is_right (fun _ _ _ _ _ _ us hl => match us, hl with | [_, _, _], _ => rfl) (fun vs H Q E h => ?_) (fun fa cdv A outer s H vs Q E hr h => ?_)
  · obtain ⟨d, v, t, n, f, rfl, _⟩ := h; rfl
  obtain ⟨d, v, t, n, f, rfl, hd, hn, ht, hs, hdp, hc, hr1, k⟩ := h
  refine ⟨_, (pss_cons (ps_if (pt_not (pt_val (pe_c C_law_is_tree (by exact hr) (by decide) (by rfl) (pa_cons (pv 1) (pa_cons (pv 2) pa_nil))))) (pss_one (ps_ret pe_bl)) pss_nil)
      (pss_cons (ps_for PassesOwn.never rfl (pi_list (pe_c C_law_inputs (by exact hr) (by decide) (by rfl) (pa_cons (pv 2) pa_nil))) (pg_name (i := 3) sc_law_is_right.nd rfl (Or.inl rfl) (Or.inr rfl)) (pss_one (ps_if (pt_cmpR op_ne (pe_ix ix_tup (pe_c C_law_path (by exact hr) (by decide) (by rfl) (pa_cons (pv 1) (pa_cons (pv 3) pa_nil))) pe_int (by intro _ _; rfl)) (pe_dget (by exact hu_of hr) (pv 0) (pv 3) (by intro _ _; rfl)) (nomark _)) (pss_one (ps_ret pe_bl)) pss_nil)))
      (pss_one (ps_ret pe_bl)))), ?_⟩
  refine ⟨_, rfl, _, rfl, v, t, n, rfl, ht, hs, hdp, hc, fun H1 s1 => ?_⟩
  refine ⟨true, rfl, iteF ?_⟩
  refine ⟨_, rfl, n, rfl, hn, fun r H2 s2 r0 hr2 => ⟨r, rfl, ⟨_, SqL.of hr2⟩, for_it (walk_list (xs := (ins n).map vt)) (fun i σ H' => ∃ v3 : Option V, σ = [some (.ref d), some v, some (.int (n : Nat)), v3] ∧ Same H H' ∧ H' r = some (.lst ((ins n).map vt))) ⟨_, rfl, s1.trans s2, hr2⟩ (fun i σ H' _ z => by obtain ⟨_, _, _, z⟩ := z; exact SqL.of z) ?_ ?_⟩⟩
  · rintro i y σ H0 H3 hi ⟨v3, rfl, s3, hr3⟩ ⟨rfl, e⟩
    rw [List.getElem?_map] at e
    obtain ⟨x, hx, rfl⟩ := Option.map_eq_some_iff.mp e
    have hxm := List.mem_of_getElem? hx
    refine ⟨_, rfl, _, rfl, v, x, t, n, rfl, hn, hxm, ht.same s3, hs, hdp, fun r4 l4 H4 s4 hr4 hl4 => ?_⟩
    refine ⟨r4, _, 1, _, rfl, rfl, SqT.of hr4, atI_nat (j := 1) rfl, ?_⟩
    refine ⟨_, rfl, _, rfl, d, .int (f x), rfl, .inl ⟨_, kt x, srd (s3.trans s4) hd, rfl, by rw [wor, valV_map, if_pos hxm]⟩, rfl, _, rfl, ?_⟩
    rw [dec_i, hr1 x hxm, decide_eq_true rfl]
    exact iteF ⟨_, rfl, s3.trans s4, s4 _ _ hr3⟩
  · rintro σ H3 ⟨v3, rfl, s3, hr3⟩
    exact k _ s3
end
end Lk

set_option Elab.async false
set_option linter.all false
set_option maxRecDepth 100000
set_option maxHeartbeats 4000000
/-! LkW18: the law's tables. -/
namespace Lk
open PySem PySem.Spec PyProof.Rows L2
theorem joinL_signs : ∀ tb : List Nat, TL.joinL [] (tb.map fun c => [c]) = tb
  | [] => rfl
  | [c] => rfl
  | c :: d :: r => by
    have := joinL_signs (d :: r)
    show [c] ++ ([] ++ TL.joinL [] ((d :: r).map fun c => [c])) = _
    rw [this]; rfl
theorem join_signs (tb : List Nat) : Txt.join (tx []) (tb.map fun c => tx [c]) = tx tb := by
  refine ext_tx ?_
  rw [TL.join_eq]
  have h := TL.tl_join (tx []) (tb.map fun c => tx [c])
  rw [List.map_map] at h
  have e : (TL.tl ∘ fun c => tx [c]) = fun c => [c] := rfl
  rw [e] at h
  have h2 : TL.joinL (TL.tl (tx [])) (tb.map fun c => [c]) = tb := joinL_signs tb
  exact h.trans h2
theorem at_iv {ks : List Nat} {i : Int} (h1 : -(ks.length : Int) ≤ i) (h2 : i < ks.length) : ∃ k ∈ ks, atI (iv ks) i = some (.int (k : Nat)) := by
  have key : ∀ j : Nat, j < ks.length → ixN (iv ks).length i = some j → ∃ k ∈ ks, atI (iv ks) i = some (.int (k : Nat)) := fun j hj e => by
    refine ⟨ks[j], List.getElem_mem hj, ?_⟩
    unfold atI
    rw [e]
    show (iv ks)[j]? = _
    rw [iv, List.getElem?_map, List.getElem?_eq_getElem hj]; rfl
  by_cases h0 : 0 ≤ i
  · refine key i.toNat (by omega) ?_
    unfold ixN
    rw [iv_len, if_pos h0, if_pos h2]
  · refine key (i + ks.length).toNat (by omega) ?_
    unfold ixN
    rw [iv_len, if_neg h0, if_pos h1]
theorem cut_take (xs : List V) {k : Nat} (h : k ≤ xs.length) : cutV xs none (some (k : Int)) = xs.take k := by
  unfold cutV
  rw [HT.sIx_none, HT.sIx_nat, List.drop_zero, Nat.sub_zero, Nat.min_eq_left h]
theorem two_at {K : PySem.W.Frag} {H : Hp} {l : Addr} {g : Bool} {Q : VK} (h : H l = some (.lst [.str "0", .str "1"])) (q : ∀ c : Nat, c = 48 ∨ c = 49 → Q (vt [c]) H) : rIxL K (.ref l) (.int (if g = true then 1 else 0)) H Q := by
  cases g with
  | false => exact ⟨l, _, 0, .str "0", rfl, rfl, SqL.of h, atI_nat (j := 0) rfl, by rw [t0]; exact q 48 (.inl rfl)⟩
  | true => exact ⟨l, _, 1, .str "1", rfl, rfl, SqL.of h, atI_nat (j := 1) rfl, by rw [t1]; exact q 49 (.inr rfl)⟩
/-- signs 0 and 1 alone -/
abbrev Bits (tb : List Nat) : Prop := ∀ c ∈ tb, c ∈ [48, 49]
theorem bits_snoc {tb : List Nat} {c : Nat} (h : Bits tb) (hc : c = 48 ∨ c = 49) : Bits (tb ++ [c]) := fun d hd => by
  rcases List.mem_append.mp hd with hd | hd
  · exact h d hd
  · rw [List.mem_singleton.mp hd]
    rcases hc with rfl | rfl <;> decide
theorem trk {H H' : Hp} {b : Addr} {av : List Addr} (h : ∀ a ∈ av, H a ≠ none) (hb : H' b ≠ none) (s : SameBut b H H') : ∀ a ∈ av, H' a ≠ none := fun a ha z => by
  by_cases e : a = b
  · rw [e] at z; exact hb z
  · cases q : H a with
    | none => exact h a ha q
    | some o => rw [s a o e q] at z; cases z
theorem BagAt.ne {H : Hp} {b : Addr} {av : List Addr} (h : BagAt H b av) : H b ≠ none := by
  obtain ⟨o, ho⟩ := h.at_
  rw [ho]; simp
section
variable {P : Program} {w : World} {K : PySem.W.Frag} {mg : Str → Option Value} {base : Heap}
def spRule : Sp := fun vs H Q _ => ∃ (b : Addr) (n : Nat) (way : Int) (av : List Addr), vs = [.ref b, .int (n : Nat), .int way] ∧ 0 < n ∧ n ≤ 6 ∧ BagAt H b av ∧ (∀ a ∈ av, H a ≠ none) ∧
  ∀ (tb : List Nat) (H' : Hp), tb.length = 2 ^ n → Bits tb → SameBut b H H' → BagAt H' b av → Q (vt tb) H'
theorem sc_law_rule : FnScope ["_law_bag_here", "_law_many", "_law_way", "_law_some", "_law_cut", "_law_piece", "_law_table_here", "_law_text", "_law_ones", "_law_k", "_law_good"] ["_law_bag_here", "_law_many", "_law_way"] (defScope s_law_rule) := ⟨rfl, rfl, rfl, by decide +kernel, rfl, by decide +kernel, by decide +kernel⟩
theorem sc_law_table : FnScope ["_law_bag_here", "_law_many", "_law_way", "_law_table_here", "_law_share", "_law_bits", "_law_k", "_law_at"] ["_law_bag_here", "_law_many"] (defScope s_law_table) := ⟨rfl, rfl, rfl, by decide +kernel, rfl, by decide +kernel, by decide +kernel⟩
theorem ok_law_rule (T : TX K mg) (D : DF K mg "_law_rule" s_law_rule) (C_law_mixed : Cal P w K mg base 2 "_law_mixed" (spMixed K)) (C_law_draw : Cal P w K mg base 1 "_law_draw" (spDraw K)) (C_law_inputs : Cal P w K mg base 2 "_law_inputs" spInputs) : Cal P w K mg base 3 "_law_rule" spRule := by
  refine mkCal D sc_law_rule (fun _ _ _ _ _ _ us hl => match us, hl with | [_, _, _], _ => rfl) (fun vs H Q E h => ?_) (fun fa cdv A outer s H vs Q E hr h => ?_)
  · obtain ⟨b, n, way, av, rfl, _⟩ := h; rfl
  obtain ⟨b, n, way, av, rfl, hn0, hn, hb, htr, k⟩ := h
  have hi64 : (ins n).length ≤ 64 := by rw [length_ins]; exact Nat.pow_le_pow_right (n := 2) (by decide) hn
  refine ⟨_, (pss_cons (ps_set (i := 3) sc_law_rule.nd rfl (Or.inl rfl) (pe_c C_law_mixed (by exact hr) (by decide) (by rfl) (pa_cons (pv 0) (pa_cons (pe_listRg rfl (by rfl) T.f_list (prg_1 (by rfl) T.f_range (pv 1))) pa_nil))))
      (pss_cons (ps_set (i := 4) sc_law_rule.nd rfl (Or.inl rfl) (pe_c C_law_draw (by exact hr) (by decide) (by rfl) (pa_cons (pv 0) (pa_cons (pe_op op_add (pv 1) pe_int) pa_nil))))
      (pss_cons (ps_set (i := 5) sc_law_rule.nd rfl (Or.inl rfl) (pe_slice sl_list (pv 3) po_none (po_some (pe_op op_add pe_int (pe_c C_law_draw (by exact hr) (by decide) (by rfl) (pa_cons (pv 0) (pa_cons (pv 1) pa_nil)))))))
      (pss_cons (ps_set (i := 6) sc_law_rule.nd rfl (Or.inl rfl) pe_str)
      (pss_cons (ps_for PassesOwn.never rfl (pi_list (pe_c C_law_inputs (by exact hr) (by decide) (by rfl) (pa_cons (pv 1) pa_nil))) (pg_name (i := 7) sc_law_rule.nd rfl (Or.inr rfl) (Or.inl rfl)) (pss_cons (ps_setLc (i := 8) (own := [("_law_k", 9)]) rfl sc_law_rule.nd rfl rfl (sw_true rfl rfl rfl (by decide +kernel)) (pi_list (pv 5)) (blkOk_by (own := [("_law_k", 9)]) (N := ["_law_bag_here", "_law_many", "_law_way", "_law_some", "_law_cut", "_law_piece", "_law_table_here", "_law_text", "_law_ones", "_law_k", "_law_good"]) (sc := defScope s_law_rule) (by decide +kernel)) (fun _ _ _ _ _ => (pg_name (i := 9) sc_law_rule.nd rfl (Or.inl rfl) (Or.inr rfl))) (fun _ _ _ _ _ => (pts_one (pt_cmpR op_eq (pe_ix ix_str (pv 7) (pv 9) (by intro _ _; rfl)) pe_str (nomark _)))) (fun _ _ _ _ _ => (pv 9)))
      (pss_cons (ps_set (i := 10) sc_law_rule.nd rfl (Or.inl rfl) (pe_cmpR op_ge (pe_m1 PySem.F.slot_str_count PySem.F.type_str_count mt_count (pv 7) pe_str) (pv 4) (nomark _)))
      (pss_cons (ps_if (pt_cmpR op_eq (pv 2) pe_int (nomark _)) (pss_one (ps_set (i := 10) sc_law_rule.nd rfl (Or.inl rfl) (pe_cmpR op_eq (pe_op op_mod (pe_callB call_len_seq (by rfl) T.f_len PySem.boot_len (pa_cons (pv 8) pa_nil)) pe_int) pe_int (nomark _)))) pss_nil)
      (pss_cons (ps_if (pt_cmpR op_eq (pv 2) pe_int (nomark _)) (pss_one (ps_set (i := 10) sc_law_rule.nd rfl (Or.inl rfl) (pe_or (pe_cmpR op_eq (pe_callB call_len_seq (by rfl) T.f_len PySem.boot_len (pa_cons (pv 8) pa_nil)) (pe_callB call_len_seq (by rfl) T.f_len PySem.boot_len (pa_cons (pv 5) pa_nil)) (nomark _)) (pe_one (pe_cmpR op_eq (pe_ix ix_str (pv 7) (pe_ix ix_list (pv 3) (pe_un un_neg pe_int) (by intro _ _; rfl)) (by intro _ _; rfl)) pe_str (nomark _)))))) pss_nil)
      (pss_cons (ps_if (pt_cmpR op_eq (pv 2) pe_int (nomark _)) (pss_one (ps_set (i := 10) sc_law_rule.nd rfl (Or.inl rfl) (pe_cmpR op_eq (pe_ix ix_str (pv 7) (pe_ix ix_list (pe_lst (pa_cons (pe_ix ix_list (pv 3) (pe_un un_neg pe_int) (by intro _ _; rfl)) (pa_cons (pe_ix ix_list (pv 3) (pe_op op_fdiv (pe_callB call_len_seq (by rfl) T.f_len PySem.boot_len (pa_cons (pv 3) pa_nil)) pe_int) (by intro _ _; rfl)) pa_nil))) (pe_callTy call_int_str (by rfl) T.f_int (by decide +kernel) (pa_cons (pe_ix ix_str (pv 7) (pe_ix ix_list (pv 3) pe_int (by intro _ _; rfl)) (by intro _ _; rfl)) pa_nil)) (by intro _ _; rfl)) (by intro _ _; rfl)) pe_str (nomark _)))) pss_nil)
      (pss_one (ps_set (i := 6) sc_law_rule.nd rfl (Or.inl rfl) (pe_op op_add_str (pv 6) (pe_ix ix_list (pe_lst (pa_cons pe_str (pa_cons pe_str pa_nil))) (pe_callTy call_int1 (by rfl) T.f_int (by decide +kernel) (pa_cons (pv 10) pa_nil)) (by intro _ _; rfl)))))))))))
      (pss_one (ps_ret (pv 6)))))))), ?_⟩
  refine ⟨_, rfl, _, rfl, n, rfl, RgOk.of_le (by omega) (by omega) (by omega) (by omega), fun q hq => ?_⟩
  have sq := same_new hq (.lst (rgV 0 n))
  have hqb : q ≠ b := fun e => hb.ne (e ▸ hq)
  have erg : rgV 0 (n : Nat) = iv (List.range n) := by
    unfold rgV iv
    have : ((n : Int) - 0).toNat = n := by omega
    rw [this]
    exact List.map_congr_left fun i _ => congrArg V.int (Int.zero_add _)
  refine ⟨b, q, rgV 0 n, av, rfl, hb.same sq, fun a ha z => htr a ha (sq.free z), SqL.of upd_same, hqb, by rw [erg, iv_len, List.length_range]; omega, fun S ys H1 sb1 bag1 S0 hSb pm hS1 => ?_⟩
  rw [erg] at pm
  have hks : ∃ ks : List Nat, ys = iv ks ∧ ks.length = n ∧ ∀ c ∈ ks, c < n := by
    refine ⟨ys.map fun v => match v with | .int i => i.toNat | _ => 0, ?_, ?_, ?_⟩
    · rw [iv, List.map_map]
      have : ∀ v ∈ ys, ((fun i : Nat => V.int (i : Nat)) ∘ fun v => match v with | V.int i => i.toNat | _ => 0) v = v := fun v hv => by
        obtain ⟨i, _, rfl⟩ := List.mem_map.mp (pm.subset hv)
        rfl
      rw [List.map_congr_left this, List.map_id']
    · have := pm.length_eq
      rw [List.length_map]
      rw [iv_len, List.length_range] at this
      exact this
    · intro c hc
      obtain ⟨v, hv, rfl⟩ := List.mem_map.mp hc
      obtain ⟨i, hi, rfl⟩ := List.mem_map.mp (pm.subset hv)
      exact List.mem_range.mp hi
  obtain ⟨ks, rfl, hkl, hkn⟩ := hks
  have sb01 : SameBut b H H1 := (sbut sq).trans sb1
  have bag1' : BagAt H1 b av := bag1.less fun a ha => List.mem_cons_of_mem _ ha
  refine ⟨_, rfl, _, rfl, _, _, rfl, rfl, b, n + 2, av, rfl, by omega, by omega, bag1', trk htr bag1'.ne sb01, fun cut H2 _ sb2 bag2 => ?_⟩
  have sb02 := sb01.trans sb2
  have hS2 := sb2 _ _ hSb hS1
  refine ⟨_, rfl, _, rfl, _, rfl, b, n, av, rfl, hn0, by omega, bag2, trk htr bag2.ne sb02, fun d H3 hd sb3 bag3 => ?_⟩
  have sb03 := sb02.trans sb3
  have hS3 := sb3 _ _ hSb hS2
  refine ⟨_, _, rfl, rfl, _, rfl, S, _, rfl, SqL.of hS3, fun pc hpc => ?_⟩
  have ecut : cutV (iv ks) none (some (1 + (d : Nat))) = iv (ks.take (1 + d)) := by
    have := cut_take (iv ks) (k := 1 + d) (by rw [iv_len]; omega)
    rw [show ((1 + d : Nat) : Int) = 1 + (d : Nat) by omega] at this
    rw [this, iv, iv, List.map_take]
  rw [ecut]
  have hpn : ∀ c ∈ ks.take (1 + d), c < n := fun c hc => hkn c (List.mem_of_mem_take hc)
  have hpl : (ks.take (1 + d)).length ≤ 6 := by rw [List.length_take]; omega
  generalize ks.take (1 + d) = ps at hpn hpl
  have hS3' := same_new hpc (.lst (iv ps)) _ _ hS3
  refine ⟨_, rfl, n, rfl, hn, fun r H7 s7 r0 hr7 => ⟨r, rfl, ⟨_, SqL.of hr7⟩, ?_⟩⟩
  have hpc7 := s7 _ _ (upd_same (H := H3) (a := pc) (o := .lst (iv ps)))
  have hS7 := s7 _ _ hS3'
  have s37 : Same H3 H7 := (same_new hpc _).trans s7
  rw [te]
  refine for_it (walk_list (xs := (ins n).map vt)) (fun i σ H' => ∃ (v7 v8 v9 v10 : Option V) (tb : List Nat), σ = [some (V.ref b), some (.int (n : Nat)), some (.int way), some (.ref S), some (.int (cut : Nat)), some (.ref pc), some (vt tb), v7, v8, v9, v10] ∧ Same H7 H' ∧ tb.length = i ∧ Bits tb)
    ⟨_, _, _, _, [], rfl, Same.refl _, rfl, fun c hc => nomatch hc⟩ (fun i σ H' _ z => by obtain ⟨_, _, _, _, _, _, z, _⟩ := z; exact SqL.of (z _ _ hr7)) ?_ ?_
  · rintro i y σ H0 H4 hi ⟨v7, v8, v9, v10, tb, rfl, s4, htl, hbits⟩ ⟨rfl, e⟩
    rw [List.getElem?_map] at e
    obtain ⟨x, hx, rfl⟩ := Option.map_eq_some_iff.mp e
    have hxm := List.mem_of_getElem? hx
    have hxl := len_ins hxm
    have hi64' : i < 64 := by
      have h1 : i < ((ins n).map vt).length := hi
      rw [List.length_map] at h1
      omega
    have hpc4 := s4 _ _ hpc7
    refine ⟨_, rfl, pc, rfl, ⟨_, SqL.of hpc4⟩, fun D hD => lc_new (walk_list (xs := iv ps)) hD (fun i => iv ((ps.take i).filter fun k => gt x k == 49)) rfl (fun i hi => ?_) (fun H' s' => SqL.of (s' _ _ hpc4)) (fun i y H0 H' K1 K0 hi s6 y k1 k0 => ?_) (fun H8 s48 h8 => ?_)⟩
    · rw [iv_len]
      refine Nat.le_trans (List.length_filter_le _ _) ?_
      rw [List.length_take]; omega
    · obtain ⟨rfl, e⟩ := y
      rw [iv, List.getElem?_map] at e
      obtain ⟨c, hc, rfl⟩ := Option.map_eq_some_iff.mp e
      have hcn := hpn c (List.mem_of_getElem? hc)
      refine ⟨rfl, ?_⟩
      refine ⟨_, rfl, _, rfl, tx x, _, gt x c, rfl, rfl, len6 (n := 6) (by omega), atI_gt (by omega), rfl, _, rfl, ?_⟩
      have e3 : decide (V.str (⟨#[gt x c]⟩ : Str) = V.str "1") = (gt x c == 49) := by rw [t1, dec_1]; rfl
      rw [e3]
      refine ite2 (fun h => ?_) (fun h => ?_)
      · refine ⟨_, rfl, k1 _ _ (Same.refl _) ?_⟩
        rw [iv_ft _ hc, if_pos h]
      · refine k0 _ (Same.refl _) ?_
        rw [iv_ft _ hc, if_neg h, List.append_nil]
    have s8 := s4.trans s48
    have hpc8 := s8 _ _ hpc7
    have hS8 := s8 _ _ hS7
    refine ⟨_, rfl, ⟨_, rfl⟩, tx x, "1", rfl, rfl, _, rfl, _, _, rfl, rfl, ?_⟩
    by_cases w1 : way = 1
    · refine ⟨_, rfl, rfl, _, rfl, ?_⟩
      rw [dec_i (i := way), decide_eq_true w1]
      refine iteT ⟨_, rfl, D, _, rfl, .inl (SqL.of h8), _, _, rfl, rfl, by show (0 : Int) < 2; decide, rfl, ?_⟩
      refine ⟨_, rfl, rfl, _, rfl, ?_⟩
      rw [dec_i (i := way), decide_eq_false (p := way = 2) (by omega)]
      refine iteF ⟨_, rfl, rfl, _, rfl, ?_⟩
      rw [dec_i (i := way), decide_eq_false (p := way = 3) (by omega)]
      refine iteF ?_
      refine ⟨_, rfl, by show 2 ≤ sizeLine; decide, fun l9 hl9 => ⟨_, rfl, .inr ⟨_, rfl, two_at upd_same fun c hc => ?_⟩⟩⟩
      refine ⟨tx tb, tx [c], rfl, rfl, by rw [tx_len, tx_len]; exact fits_small (by show _ + 1 ≤ _; omega), ?_⟩
      rw [tx_app]
      exact ⟨_, _, _, _, tb ++ [c], rfl, s8.trans (same_new hl9 _), by rw [List.length_append, htl]; rfl, bits_snoc hbits hc⟩
    · refine ⟨_, rfl, rfl, _, rfl, ?_⟩
      rw [dec_i (i := way), decide_eq_false w1]
      refine iteF ⟨_, rfl, rfl, _, rfl, ?_⟩
      by_cases w2 : way = 2
      · rw [dec_i (i := way), decide_eq_true w2]
        refine iteT ⟨_, rfl, D, _, rfl, .inl (SqL.of h8), _, rfl, pc, _, rfl, .inl (SqL.of hpc8), rfl, _, rfl, ?_⟩
        refine ite2 (fun h => ?_) (fun h => ?_)
        · refine ⟨_, rfl, rfl, _, rfl, ?_⟩
          rw [dec_i (i := way), decide_eq_false (p := way = 3) (by omega)]
          refine iteF ?_
          refine ⟨_, rfl, by show 2 ≤ sizeLine; decide, fun l9 hl9 => ⟨_, rfl, .inr ⟨_, rfl, two_at upd_same fun c hc => ?_⟩⟩⟩
          refine ⟨tx tb, tx [c], rfl, rfl, by rw [tx_len, tx_len]; exact fits_small (by show _ + 1 ≤ _; omega), ?_⟩
          rw [tx_app]
          exact ⟨_, _, _, _, tb ++ [c], rfl, s8.trans (same_new hl9 _), by rw [List.length_append, htl]; rfl, bits_snoc hbits hc⟩
        · obtain ⟨k1, hk1, ek1⟩ := at_iv (ks := ks) (i := -1) (by omega) (by omega)
          have hk1n := hkn k1 hk1
          refine ⟨_, rfl, _, rfl, _, rfl, S, _, _, _, rfl, rfl, SqL.of hS8, ek1, tx x, _, gt x k1, rfl, rfl, len6 (n := 6) (by omega), atI_gt (by omega), rfl, ?_⟩
          refine ⟨_, rfl, rfl, _, rfl, ?_⟩
          rw [dec_i (i := way), decide_eq_false (p := way = 3) (by omega)]
          refine iteF ?_
          refine ⟨_, rfl, by show 2 ≤ sizeLine; decide, fun l9 hl9 => ⟨_, rfl, .inr ⟨_, rfl, two_at upd_same fun c hc => ?_⟩⟩⟩
          refine ⟨tx tb, tx [c], rfl, rfl, by rw [tx_len, tx_len]; exact fits_small (by show _ + 1 ≤ _; omega), ?_⟩
          rw [tx_app]
          exact ⟨_, _, _, _, tb ++ [c], rfl, s8.trans (same_new hl9 _), by rw [List.length_append, htl]; rfl, bits_snoc hbits hc⟩
      · rw [dec_i (i := way), decide_eq_false w2]
        refine iteF ⟨_, rfl, rfl, _, rfl, ?_⟩
        by_cases w3 : way = 3
        · rw [dec_i (i := way), decide_eq_true w3]
          obtain ⟨k1, hk1, ek1⟩ := at_iv (ks := ks) (i := -1) (by omega) (by omega)
          obtain ⟨k2, hk2, ek2⟩ := at_iv (ks := ks) (i := ((iv ks).length : Int) / 2) (by rw [iv_len]; omega) (by rw [iv_len]; omega)
          obtain ⟨k3, hk3, ek3⟩ := at_iv (ks := ks) (i := 0) (by omega) (by omega)
          have hk1n := hkn k1 hk1
          have hk2n := hkn k2 hk2
          have hk3n := hkn k3 hk3
          refine iteT ⟨_, rfl, _, rfl, _, rfl, S, _, _, _, rfl, rfl, SqL.of hS8, ek1, _, rfl, _, rfl, S, _, rfl, .inl (SqL.of hS8), _, _, rfl, rfl, ⟨by decide, by decide⟩, S, _, _, _, rfl, rfl, SqL.of hS8, ek2, by show 2 ≤ sizeLine; decide, fun l5 hl5 => ?_⟩
          have s5 := same_new hl5 (.lst [.int (k1 : Nat), .int (k2 : Nat)])
          replace s8 := s8.trans s5
          have hS5 := s5 _ _ hS8
          refine ⟨_, rfl, _, rfl, S, _, _, _, rfl, rfl, SqL.of hS5, ek3, tx x, _, gt x k3, rfl, rfl, len6 (n := 6) (by omega), atI_gt (by omega), ?_⟩
          have hc3 : gt x k3 = 48 ∨ gt x k3 = 49 := (mem_ins.mp hxm).2 k3 hk3n
          rcases hc3 with hc3 | hc3
          · rw [hc3]
            refine ⟨tx [48], 0, rfl, int0, by decide, l5, _, _, _, rfl, rfl, SqL.of upd_same, atI_nat (j := 0) rfl, tx x, _, gt x k1, rfl, rfl, len6 (n := 6) (by omega), atI_gt (by omega), rfl, ?_⟩
            refine ⟨_, rfl, by show 2 ≤ sizeLine; decide, fun l9 hl9 => ⟨_, rfl, .inr ⟨_, rfl, two_at upd_same fun c hc => ?_⟩⟩⟩
            refine ⟨tx tb, tx [c], rfl, rfl, by rw [tx_len, tx_len]; exact fits_small (by show _ + 1 ≤ _; omega), ?_⟩
            rw [tx_app]
            exact ⟨_, _, _, _, tb ++ [c], rfl, s8.trans (same_new hl9 _), by rw [List.length_append, htl]; rfl, bits_snoc hbits hc⟩
          · rw [hc3]
            refine ⟨tx [49], 1, rfl, int1, by decide, l5, _, _, _, rfl, rfl, SqL.of upd_same, atI_nat (j := 1) rfl, tx x, _, gt x k2, rfl, rfl, len6 (n := 6) (by omega), atI_gt (by omega), rfl, ?_⟩
            refine ⟨_, rfl, by show 2 ≤ sizeLine; decide, fun l9 hl9 => ⟨_, rfl, .inr ⟨_, rfl, two_at upd_same fun c hc => ?_⟩⟩⟩
            refine ⟨tx tb, tx [c], rfl, rfl, by rw [tx_len, tx_len]; exact fits_small (by show _ + 1 ≤ _; omega), ?_⟩
            rw [tx_app]
            exact ⟨_, _, _, _, tb ++ [c], rfl, s8.trans (same_new hl9 _), by rw [List.length_append, htl]; rfl, bits_snoc hbits hc⟩
        · rw [dec_i (i := way), decide_eq_false w3]
          refine iteF ?_
          refine ⟨_, rfl, by show 2 ≤ sizeLine; decide, fun l9 hl9 => ⟨_, rfl, .inr ⟨_, rfl, two_at upd_same fun c hc => ?_⟩⟩⟩
          refine ⟨tx tb, tx [c], rfl, rfl, by rw [tx_len, tx_len]; exact fits_small (by show _ + 1 ≤ _; omega), ?_⟩
          rw [tx_app]
          exact ⟨_, _, _, _, tb ++ [c], rfl, s8.trans (same_new hl9 _), by rw [List.length_append, htl]; rfl, bits_snoc hbits hc⟩
  · rintro σ H4 ⟨v7, v8, v9, v10, tb, rfl, s4, htl, hbits⟩
    have sf : Same H3 H4 := s37.trans s4
    exact ⟨_, rfl, k tb H4 (by rw [htl, List.length_map, length_ins]) hbits (sb03.trans (sbut sf)) (bag3.same sf)⟩
end
end Lk

set_option Elab.async false
set_option linter.all false
set_option maxRecDepth 100000
set_option maxHeartbeats 4000000
/-! LkW19: the law's tables, drawn. -/
namespace Lk
open PySem PySem.Spec PyProof.Rows L2
theorem two_ix {K : PySem.W.Frag} {H : Hp} {l : Addr} {e : Nat} {Q : VK} (he : e < 2) (h : SqL K H l [.str "0", .str "1"]) (q : ∀ c : Nat, c = 48 ∨ c = 49 → Q (vt [c]) H) : rIxL K (.ref l) (.int (e : Nat)) H Q := by
  have hc : e = 0 ∨ e = 1 := by omega
  rcases hc with rfl | rfl
  · exact ⟨l, _, 0, .str "0", rfl, rfl, h, atI_nat (j := 0) rfl, by rw [t0]; exact q 48 (.inl rfl)⟩
  · exact ⟨l, _, 1, .str "1", rfl, rfl, h, atI_nat (j := 1) rfl, by rw [t1]; exact q 49 (.inr rfl)⟩
theorem bits_ix {K : PySem.W.Frag} {H : Hp} {l : Addr} {e : Nat} {Q : VK} (he : e < 2) (h : SqL K H l [.str "01", .str "10"]) (q : ∀ p : List Nat, p.length = 2 → Bits p → Q (vt p) H) : rIxL K (.ref l) (.int (e : Nat)) H Q := by
  have hc : e = 0 ∨ e = 1 := by omega
  rcases hc with rfl | rfl
  · exact ⟨l, _, 0, .str "01", rfl, rfl, h, atI_nat (j := 0) rfl, by rw [t01]; exact q [48, 49] rfl (by decide)⟩
  · exact ⟨l, _, 1, .str "10", rfl, rfl, h, atI_nat (j := 1) rfl, by rw [t10]; exact q [49, 48] rfl (by decide)⟩
theorem share_ix {K : PySem.W.Frag} {H : Hp} {l : Addr} {x : Int} {Q : VK} (h : SqL K H l [.int 2, .int 2, .int 3, .int 5]) (q : ∀ m : Nat, 0 < m → m ≤ 1000 → Q (.int (m : Nat)) H) : rIxL K (.ref l) (.int (x % 4)) H Q := by
  obtain ⟨m, em, hm⟩ := emod_nat (x := x) (m := 4) (by decide)
  rw [em]
  have hc : m = 0 ∨ m = 1 ∨ m = 2 ∨ m = 3 := by omega
  rcases hc with rfl | rfl | rfl | rfl
  · exact ⟨l, _, 0, _, rfl, rfl, h, atI_nat (j := 0) rfl, q 2 (by decide) (by decide)⟩
  · exact ⟨l, _, 1, _, rfl, rfl, h, atI_nat (j := 1) rfl, q 2 (by decide) (by decide)⟩
  · exact ⟨l, _, 2, _, rfl, rfl, h, atI_nat (j := 2) rfl, q 3 (by decide) (by decide)⟩
  · exact ⟨l, _, 3, _, rfl, rfl, h, atI_nat (j := 3) rfl, q 5 (by decide) (by decide)⟩
theorem pick_ix {H : Hp} {p : List Nat} {g : Bool} {Q : VK} (hl : p.length = 2) (hb : Bits p) (q : ∀ c : Nat, c = 48 ∨ c = 49 → Q (vt [c]) H) : rIxS (vt p) (.int (if g = true then 1 else 0)) H Q := by
  have h2 : ∀ i, i < 2 → gt p i = 48 ∨ gt p i = 49 := fun i hi => by
    have := hb (gt p i) (gt_mem (by omega))
    simpa using this
  cases g with
  | false => exact ⟨tx p, 0, gt p 0, rfl, rfl, len6 (n := 2) (by omega), atI_gt (i := 0) (by omega), q _ (h2 0 (by decide))⟩
  | true => exact ⟨tx p, 1, gt p 1, rfl, rfl, len6 (n := 2) (by omega), atI_gt (i := 1) (by omega), q _ (h2 1 (by decide))⟩
theorem sum_signs : ∀ tb : List Nat, ((tb.map fun c => tx [c]).map (·.length)).sum = tb.length
  | [] => rfl
  | c :: tb => by
    rw [List.map_cons, List.map_cons, List.sum_cons, sum_signs tb, List.length_cons, tx_len]
    show 1 + tb.length = _
    omega
theorem bits_set {tb : List Nat} {i c : Nat} (h : Bits tb) (hc : c = 48 ∨ c = 49) : Bits (tb.set i c) := fun d hd => by
  rcases List.mem_or_eq_of_mem_set hd with hd | hd
  · exact h d hd
  · rw [hd]
    rcases hc with rfl | rfl <;> decide
section
variable {P : Program} {w : World} {K : PySem.W.Frag} {mg : Str → Option Value} {base : Heap}
def spTable : Sp := fun vs H Q _ => ∃ (b : Addr) (n : Nat), vs = [.ref b, .int (n : Nat)] ∧ n ≤ 6 ∧ BagAt H b [] ∧
  ∀ (tb : List Nat) (H' : Hp), tb.length = 2 ^ n → Bits tb → SameBut b H H' → BagAt H' b [] → Q (vt tb) H'
theorem ok_law_table (T : TX K mg) (D : DF K mg "_law_table" s_law_table) (C_law_rule : Cal P w K mg base 3 "_law_rule" spRule) (C_law_draw : Cal P w K mg base 1 "_law_draw" (spDraw K)) (C_law_inputs : Cal P w K mg base 2 "_law_inputs" spInputs) : Cal P w K mg base 4 "_law_table" spTable := by
  refine mkCal D sc_law_table (fun _ _ _ _ _ _ us hl => match us, hl with | [_, _], _ => rfl) (fun vs H Q E h => ?_) (fun fa cdv A outer s H vs Q E hr h => ?_)
  · obtain ⟨b, n, rfl, _⟩ := h; rfl
  obtain ⟨b, n, rfl, hn, hb, k⟩ := h
  have hn64 : 2 ^ n ≤ 64 := Nat.pow_le_pow_right (n := 2) (by decide) hn
  have hn1 : 0 < 2 ^ n := Nat.pow_pos (by decide)
  have hil := length_ins n
  refine ⟨_, (pss_cons (ps_set (i := 2) sc_law_table.nd rfl (Or.inl rfl) (pe_c C_law_draw (by exact hr) (by decide) (by rfl) (pa_cons (pv 0) (pa_cons pe_int pa_nil))))
      (pss_cons (ps_if (PW.pt (pw_and (pt_cmpR op_gt (pv 1) pe_int (nomark _)) (pw_and1 (pt_cmpR op_lt (pv 2) pe_int (nomark _))))) (pss_one (ps_set (i := 3) sc_law_table.nd rfl (Or.inl rfl) (pe_c C_law_rule (by exact hr) (by decide) (by rfl) (pa_cons (pv 0) (pa_cons (pv 1) (pa_cons (pv 2) pa_nil)))))) (pss_cons (ps_set (i := 4) sc_law_table.nd rfl (Or.inr rfl) (pe_ix ix_list (pe_lst (pa_cons pe_int (pa_cons pe_int (pa_cons pe_int (pa_cons pe_int pa_nil))))) (pe_op op_mod (pe_callTy call_int1 (by rfl) T.f_int (by decide +kernel) (pa_cons (pv 2) pa_nil)) pe_int) (by intro _ _; rfl)))
      (pss_cons (ps_set (i := 5) sc_law_table.nd rfl (Or.inr rfl) (pe_ix ix_list (pe_lst (pa_cons pe_str (pa_cons pe_str pa_nil))) (pe_c C_law_draw (by exact hr) (by decide) (by rfl) (pa_cons (pv 0) (pa_cons pe_int pa_nil))) (by intro _ _; rfl)))
      (pss_one (ps_set (i := 3) sc_law_table.nd rfl (Or.inl rfl) (pe_join pe_str (pe_lc (own := [("_law_k", 6)]) rfl sc_law_table.nd (pi_range1 (by rfl) T.f_range (pa_cons (pe_callB call_len_seq (by rfl) T.f_len PySem.boot_len (pa_cons (pe_c C_law_inputs (by exact hr) (by decide) (by rfl) (pa_cons (pv 1) pa_nil)) pa_nil)) pa_nil)) (blkOk_by (own := [("_law_k", 6)]) (N := ["_law_bag_here", "_law_many", "_law_way", "_law_table_here", "_law_share", "_law_bits", "_law_k", "_law_at"]) (sc := defScope s_law_table) (by decide +kernel)) (fun _ _ _ _ _ => (pg_name (i := 6) sc_law_table.nd rfl (Or.inl rfl) (Or.inr rfl))) (fun _ _ _ _ _ => pts_nil) (fun _ _ _ _ _ => (pe_ix ix_str (pv 5) (pe_callTy call_int1 (by rfl) T.f_int (by decide +kernel) (pa_cons (pe_cmpR op_eq (pe_c C_law_draw (by exact hr) (by decide) (by rfl) (pa_cons (pv 0) (pa_cons (pv 4) pa_nil))) pe_int (nomark _)) pa_nil)) (by intro _ _; rfl))))))))))
      (pss_cons (ps_for PassesOwn.never rfl (pi_range1 (by rfl) T.f_range (pa_cons (pe_c C_law_draw (by exact hr) (by decide) (by rfl) (pa_cons (pv 0) (pa_cons pe_int pa_nil))) pa_nil)) (pg_name (i := 6) sc_law_table.nd rfl (Or.inl rfl) (Or.inr rfl)) (pss_cons (ps_set (i := 7) sc_law_table.nd rfl (Or.inl rfl) (pe_c C_law_draw (by exact hr) (by decide) (by rfl) (pa_cons (pv 0) (pa_cons (pe_callB call_len_str (by rfl) T.f_len PySem.boot_len (pa_cons (pv 3) pa_nil)) pa_nil))))
      (pss_one (ps_if (pt_cmpR op_eq (pe_c C_law_draw (by exact hr) (by decide) (by rfl) (pa_cons (pv 0) (pa_cons pe_int pa_nil))) pe_int (nomark _)) (pss_one (ps_set (i := 3) sc_law_table.nd rfl (Or.inl rfl) (pe_op op_add_str (pe_op op_add_str (pe_slice sl_str (pv 3) po_none (po_some (pv 7))) (pe_ix ix_list (pe_lst (pa_cons pe_str (pa_cons pe_str pa_nil))) (pe_c C_law_draw (by exact hr) (by decide) (by rfl) (pa_cons (pv 0) (pa_cons pe_int pa_nil))) (by intro _ _; rfl))) (pe_slice sl_str (pv 3) (po_some (pe_op op_add (pv 7) pe_int)) po_none)))) pss_nil))))
      (pss_one (ps_ret (pv 3)))))), ?_⟩
  refine ⟨_, rfl, b, 8, [], rfl, by decide, by decide, hb, (fun a ha => nomatch ha), fun way H1 hway sb1 bag1 => ?_⟩
  refine ⟨_, rfl, _, _, rfl, rfl, _, rfl, ?_⟩
  refine ite2 (fun h1 => ?_) (fun h1 => ?_)
  · have hn0 : 0 < n := by
      have := of_decide_eq_true h1
      omega
    refine ⟨_, rfl, _, _, rfl, rfl, _, rfl, ?_⟩
    refine ite2 (fun h2 => ?_) (fun h2 => ?_)
    · refine ⟨_, rfl, _, rfl, _, rfl, b, n, (way : Nat), [], rfl, hn0, hn, bag1, (fun a ha => nomatch ha), fun tb H5 htl hbits sb5 bag5 => ?_⟩
      have sb05 := sb1.trans sb5
      refine ⟨_, rfl, b, 3, [], rfl, by decide, by decide, bag5, (fun a ha => nomatch ha), fun m H6 hm sb6 bag6 => ⟨_, rfl, by omega, by omega, for_it (walk_rg (n := m)) (fun i σ H' => ∃ (v2 v4 v5 v6 v7 : Option V) (tb : List Nat), σ = [some (V.ref b), some (.int (n : Nat)), v2, some (vt tb), v4, v5, v6, v7] ∧ SameBut b H H' ∧ BagAt H' b [] ∧ tb.length = 2 ^ n ∧ Bits tb)
        ⟨_, _, _, _, _, tb, rfl, sb05.trans sb6, bag6, htl, hbits⟩ (fun _ _ _ _ _ => trivial) ?_ ?_⟩⟩
      · rintro i y σ H0 H7 hi ⟨v2, v4, v5, v6, v7, tb, rfl, sb7, bag7, htl, hbits⟩ ⟨rfl, rfl⟩
        have htx : (tx tb).length = 2 ^ n := (tx_len tb).trans htl
        refine ⟨_, rfl, _, rfl, _, rfl, len6 (n := 64) (by omega), b, (tx tb).length, [], rfl, by omega, by omega, bag7, (fun a ha => nomatch ha), fun at_ H8 hat sb8 bag8 => ?_⟩
        refine ⟨_, rfl, b, 3, [], rfl, by decide, by decide, bag8, (fun a ha => nomatch ha), fun e9 H9 _ sb9 bag9 => ⟨rfl, _, rfl, ?_⟩⟩
        have sb79 := sb7.trans (sb8.trans sb9)
        refine ite2 (fun h => ?_) (fun h => ?_)
        · have hat' : at_ < tb.length := by omega
          refine ⟨_, rfl, _, rfl, _, rfl, tx tb, rfl, len6 (n := 64) (by omega), by show 2 ≤ sizeLine; decide, fun l9 hl9 => ?_⟩
          have hlb : l9 ≠ b := fun e => bag9.ne (e ▸ hl9)
          have s9 := same_new hl9 (.lst [V.str "0", V.str "1"])
          refine ⟨_, rfl, b, 2, [], rfl, by decide, by decide, bag9.same s9, (fun a ha => nomatch ha), fun e10 H10 he10 sb10 bag10 => two_ix he10 (SqL.of (sb10 _ _ hlb upd_same)) fun c hc => ?_⟩
          refine ⟨_, _, rfl, rfl, ?_, ?_⟩
          · rw [tx_cut_to tb (Nat.le_of_lt hat'), tx_len, tx_len, List.length_take]; exact fits_small (by show _ + 1 ≤ _; omega)
          refine ⟨_, rfl, _, rfl, _, _, rfl, rfl, _, rfl, tx tb, rfl, len6 (n := 64) (by omega), _, _, rfl, rfl, ?_, ?_⟩
          · rw [show ((at_ : Nat) : Int) + 1 = ((at_ + 1 : Nat) : Int) by omega, tx_cut_from tb hat', tx_cut_to tb (Nat.le_of_lt hat'), tx_app, tx_len, tx_len, List.length_append, List.length_take, List.length_drop]
            exact fits_small (by show _ + 1 + _ ≤ _; omega)
          · rw [show ((at_ : Nat) : Int) + 1 = ((at_ + 1 : Nat) : Int) by omega, tx_cut_from tb hat', tx_cut_to tb (Nat.le_of_lt hat'), tx_app, tx_app, List.append_assoc]
            have e : tb.take at_ ++ ([c] ++ tb.drop (at_ + 1)) = tb.set at_ c := set_eq hat'
            rw [e]
            exact ⟨_, _, _, _, _, tb.set at_ c, rfl, sb79.trans ((sbut s9).trans sb10), bag10, by rw [List.length_set]; exact htl, bits_set hbits hc⟩
        · exact ⟨_, _, _, _, _, tb, rfl, sb79, bag9, htl, hbits⟩
      · rintro σ H7 ⟨v2, v4, v5, v6, v7, tb, rfl, sb7, bag7, htl, hbits⟩
        exact ⟨_, rfl, k tb H7 htl hbits sb7 bag7⟩
    · skip
      refine ⟨by show 4 ≤ sizeLine; decide, fun l1 hl1 => ⟨_, rfl, .inl ⟨_, rfl, _, _, rfl, rfl, by show (0 : Int) < 4; decide, share_ix (SqL.of upd_same) fun sh hsh0 hsh1 => ?_⟩⟩⟩
      have s1 := same_new hl1 (.lst [V.int 2, V.int 2, V.int 3, V.int 5])
      have bag1' := bag1.same s1
      refine ⟨by show 2 ≤ sizeLine; decide, fun l2 hl2 => ?_⟩
      have hl2b : l2 ≠ b := fun e => bag1'.ne (e ▸ hl2)
      have s2 := same_new hl2 (.lst [V.str "01", V.str "10"])
      refine ⟨_, rfl, b, 2, [], rfl, by decide, by decide, bag1'.same s2, (fun a ha => nomatch ha), fun e3 H3 he3 sb3 bag3 => bits_ix he3 (SqL.of (sb3 _ _ hl2b upd_same)) fun p hp2 hpb => ?_⟩
      have sb03 : SameBut b H H3 := sb1.trans ((sbut (s1.trans s2)).trans sb3)
      refine ⟨⟨_, rfl⟩, _, rfl, n, rfl, hn, fun r H4 s4 r0 hr4 => ⟨r, _, rfl, .inl (SqL.of hr4), _, rfl, by omega, by rw [List.length_map]; omega, fun D hD => lc_but (n := 2 ^ n) (Y := YFn fun i => .int (i : Nat)) (G := fun _ => True) ?_ hD
        (fun i l H' => ∃ tb : List Nat, l = tb.map (fun c => vt [c]) ∧ tb.length = i ∧ Bits tb ∧ SameBut b H4 H' ∧ BagAt H' b [D]) ⟨[], rfl, rfl, (fun c hc => nomatch hc), sbut (same_new hD _), ((bag3.same s4).more hD).same (same_new hD _)⟩ (fun _ _ _ _ _ _ => trivial) (fun i l H' hi z => ?_) (fun i l x H0 H' K1 K0 hi z hDl y k1 k0 => ?_) (fun l H5 z hDl => ?_)⟩⟩
      · have e : (((ins n).map vt).length : Int).toNat = 2 ^ n := by rw [List.length_map, length_ins]; rfl
        rw [e]
        exact walk_rg
      · obtain ⟨tb, rfl, e, _⟩ := z
        rw [List.length_map]; omega
      · obtain ⟨tb, rfl, htl, hbits, sb5, bag5⟩ := z
        obtain ⟨rfl, rfl⟩ := y
        have hDb : D ≠ b := fun e => bag5.ne (by rw [← e] at bag5 ⊢; exact absurd (bag3.same s4).ne (by rw [← e]; exact fun z => z hD))
        refine ⟨rfl, yes ?_⟩
        refine ⟨_, rfl, _, rfl, _, rfl, b, sh, [D], rfl, hsh0, hsh1, bag5, (fun a ha => by rw [List.mem_singleton.mp ha, hDl]; simp), fun e6 H6 _ sb6 bag6 => ⟨rfl, .inr ⟨_, rfl, pick_ix hp2 hpb fun c hc => ?_⟩⟩⟩
        refine k1 _ _ (sb6 _ _ hDb hDl) ⟨tb ++ [c], by rw [List.map_append]; rfl, by rw [List.length_append, htl]; rfl, bits_snoc hbits hc, ?_, bag6.upd hDb (by simp) _⟩
        intro q o hq ho
        rw [upd_ne (fun e => by rw [e, hD] at ho; cases ho)]
        exact sb6 _ _ hq (sb5 _ _ hq ho)
      · obtain ⟨tb, rfl, htl, hbits, sb5, bagD⟩ := z
        refine ⟨"", D, tb.map fun c => tx [c], rfl, rfl, .inl (SqL.of (by rw [hDl, List.map_map]; rfl)), ?_, ?_⟩
        · rw [sum_signs, List.length_map]
          show tb.length + tb.length * 0 ≤ _
          omega
        rw [te, join_signs]
        have sb05 : SameBut b H H5 := sb03.trans ((sbut s4).trans sb5)
        have bag5 : BagAt H5 b [] := bagD.less fun a ha => nomatch ha
        refine ⟨_, rfl, b, 3, [], rfl, by decide, by decide, bag5, (fun a ha => nomatch ha), fun m H6 hm sb6 bag6 => ⟨_, rfl, by omega, by omega, for_it (walk_rg (n := m)) (fun i σ H' => ∃ (v2 v4 v5 v6 v7 : Option V) (tb : List Nat), σ = [some (V.ref b), some (.int (n : Nat)), v2, some (vt tb), v4, v5, v6, v7] ∧ SameBut b H H' ∧ BagAt H' b [] ∧ tb.length = 2 ^ n ∧ Bits tb)
          ⟨_, _, _, _, _, tb, rfl, sb05.trans sb6, bag6, htl, hbits⟩ (fun _ _ _ _ _ => trivial) ?_ ?_⟩⟩
        · rintro i y σ H0 H7 hi ⟨v2, v4, v5, v6, v7, tb, rfl, sb7, bag7, htl, hbits⟩ ⟨rfl, rfl⟩
          have htx : (tx tb).length = 2 ^ n := (tx_len tb).trans htl
          refine ⟨_, rfl, _, rfl, _, rfl, len6 (n := 64) (by omega), b, (tx tb).length, [], rfl, by omega, by omega, bag7, (fun a ha => nomatch ha), fun at_ H8 hat sb8 bag8 => ?_⟩
          refine ⟨_, rfl, b, 3, [], rfl, by decide, by decide, bag8, (fun a ha => nomatch ha), fun e9 H9 _ sb9 bag9 => ⟨rfl, _, rfl, ?_⟩⟩
          have sb79 := sb7.trans (sb8.trans sb9)
          refine ite2 (fun h => ?_) (fun h => ?_)
          · have hat' : at_ < tb.length := by omega
            refine ⟨_, rfl, _, rfl, _, rfl, tx tb, rfl, len6 (n := 64) (by omega), by show 2 ≤ sizeLine; decide, fun l9 hl9 => ?_⟩
            have hlb : l9 ≠ b := fun e => bag9.ne (e ▸ hl9)
            have s9 := same_new hl9 (.lst [V.str "0", V.str "1"])
            refine ⟨_, rfl, b, 2, [], rfl, by decide, by decide, bag9.same s9, (fun a ha => nomatch ha), fun e10 H10 he10 sb10 bag10 => two_ix he10 (SqL.of (sb10 _ _ hlb upd_same)) fun c hc => ?_⟩
            refine ⟨_, _, rfl, rfl, ?_, ?_⟩
            · rw [tx_cut_to tb (Nat.le_of_lt hat'), tx_len, tx_len, List.length_take]; exact fits_small (by show _ + 1 ≤ _; omega)
            refine ⟨_, rfl, _, rfl, _, _, rfl, rfl, _, rfl, tx tb, rfl, len6 (n := 64) (by omega), _, _, rfl, rfl, ?_, ?_⟩
            · rw [show ((at_ : Nat) : Int) + 1 = ((at_ + 1 : Nat) : Int) by omega, tx_cut_from tb hat', tx_cut_to tb (Nat.le_of_lt hat'), tx_app, tx_len, tx_len, List.length_append, List.length_take, List.length_drop]
              exact fits_small (by show _ + 1 + _ ≤ _; omega)
            · rw [show ((at_ : Nat) : Int) + 1 = ((at_ + 1 : Nat) : Int) by omega, tx_cut_from tb hat', tx_cut_to tb (Nat.le_of_lt hat'), tx_app, tx_app, List.append_assoc]
              have e : tb.take at_ ++ ([c] ++ tb.drop (at_ + 1)) = tb.set at_ c := set_eq hat'
              rw [e]
              exact ⟨_, _, _, _, _, tb.set at_ c, rfl, sb79.trans ((sbut s9).trans sb10), bag10, by rw [List.length_set]; exact htl, bits_set hbits hc⟩
          · exact ⟨_, _, _, _, _, tb, rfl, sb79, bag9, htl, hbits⟩
        · rintro σ H7 ⟨v2, v4, v5, v6, v7, tb, rfl, sb7, bag7, htl, hbits⟩
          exact ⟨_, rfl, k tb H7 htl hbits sb7 bag7⟩
  · refine iteF ?_
    refine ⟨by show 4 ≤ sizeLine; decide, fun l1 hl1 => ⟨_, rfl, .inl ⟨_, rfl, _, _, rfl, rfl, by show (0 : Int) < 4; decide, share_ix (SqL.of upd_same) fun sh hsh0 hsh1 => ?_⟩⟩⟩
    have s1 := same_new hl1 (.lst [V.int 2, V.int 2, V.int 3, V.int 5])
    have bag1' := bag1.same s1
    refine ⟨by show 2 ≤ sizeLine; decide, fun l2 hl2 => ?_⟩
    have hl2b : l2 ≠ b := fun e => bag1'.ne (e ▸ hl2)
    have s2 := same_new hl2 (.lst [V.str "01", V.str "10"])
    refine ⟨_, rfl, b, 2, [], rfl, by decide, by decide, bag1'.same s2, (fun a ha => nomatch ha), fun e3 H3 he3 sb3 bag3 => bits_ix he3 (SqL.of (sb3 _ _ hl2b upd_same)) fun p hp2 hpb => ?_⟩
    have sb03 : SameBut b H H3 := sb1.trans ((sbut (s1.trans s2)).trans sb3)
    refine ⟨⟨_, rfl⟩, _, rfl, n, rfl, hn, fun r H4 s4 r0 hr4 => ⟨r, _, rfl, .inl (SqL.of hr4), _, rfl, by omega, by rw [List.length_map]; omega, fun D hD => lc_but (n := 2 ^ n) (Y := YFn fun i => .int (i : Nat)) (G := fun _ => True) ?_ hD
      (fun i l H' => ∃ tb : List Nat, l = tb.map (fun c => vt [c]) ∧ tb.length = i ∧ Bits tb ∧ SameBut b H4 H' ∧ BagAt H' b [D]) ⟨[], rfl, rfl, (fun c hc => nomatch hc), sbut (same_new hD _), ((bag3.same s4).more hD).same (same_new hD _)⟩ (fun _ _ _ _ _ _ => trivial) (fun i l H' hi z => ?_) (fun i l x H0 H' K1 K0 hi z hDl y k1 k0 => ?_) (fun l H5 z hDl => ?_)⟩⟩
    · have e : (((ins n).map vt).length : Int).toNat = 2 ^ n := by rw [List.length_map, length_ins]; rfl
      rw [e]
      exact walk_rg
    · obtain ⟨tb, rfl, e, _⟩ := z
      rw [List.length_map]; omega
    · obtain ⟨tb, rfl, htl, hbits, sb5, bag5⟩ := z
      obtain ⟨rfl, rfl⟩ := y
      have hDb : D ≠ b := fun e => bag5.ne (by rw [← e] at bag5 ⊢; exact absurd (bag3.same s4).ne (by rw [← e]; exact fun z => z hD))
      refine ⟨rfl, yes ?_⟩
      refine ⟨_, rfl, _, rfl, _, rfl, b, sh, [D], rfl, hsh0, hsh1, bag5, (fun a ha => by rw [List.mem_singleton.mp ha, hDl]; simp), fun e6 H6 _ sb6 bag6 => ⟨rfl, .inr ⟨_, rfl, pick_ix hp2 hpb fun c hc => ?_⟩⟩⟩
      refine k1 _ _ (sb6 _ _ hDb hDl) ⟨tb ++ [c], by rw [List.map_append]; rfl, by rw [List.length_append, htl]; rfl, bits_snoc hbits hc, ?_, bag6.upd hDb (by simp) _⟩
      intro q o hq ho
      rw [upd_ne (fun e => by rw [e, hD] at ho; cases ho)]
      exact sb6 _ _ hq (sb5 _ _ hq ho)
    · obtain ⟨tb, rfl, htl, hbits, sb5, bagD⟩ := z
      refine ⟨"", D, tb.map fun c => tx [c], rfl, rfl, .inl (SqL.of (by rw [hDl, List.map_map]; rfl)), ?_, ?_⟩
      · rw [sum_signs, List.length_map]
        show tb.length + tb.length * 0 ≤ _
        omega
      rw [te, join_signs]
      have sb05 : SameBut b H H5 := sb03.trans ((sbut s4).trans sb5)
      have bag5 : BagAt H5 b [] := bagD.less fun a ha => nomatch ha
      refine ⟨_, rfl, b, 3, [], rfl, by decide, by decide, bag5, (fun a ha => nomatch ha), fun m H6 hm sb6 bag6 => ⟨_, rfl, by omega, by omega, for_it (walk_rg (n := m)) (fun i σ H' => ∃ (v2 v4 v5 v6 v7 : Option V) (tb : List Nat), σ = [some (V.ref b), some (.int (n : Nat)), v2, some (vt tb), v4, v5, v6, v7] ∧ SameBut b H H' ∧ BagAt H' b [] ∧ tb.length = 2 ^ n ∧ Bits tb)
        ⟨_, _, _, _, _, tb, rfl, sb05.trans sb6, bag6, htl, hbits⟩ (fun _ _ _ _ _ => trivial) ?_ ?_⟩⟩
      · rintro i y σ H0 H7 hi ⟨v2, v4, v5, v6, v7, tb, rfl, sb7, bag7, htl, hbits⟩ ⟨rfl, rfl⟩
        have htx : (tx tb).length = 2 ^ n := (tx_len tb).trans htl
        refine ⟨_, rfl, _, rfl, _, rfl, len6 (n := 64) (by omega), b, (tx tb).length, [], rfl, by omega, by omega, bag7, (fun a ha => nomatch ha), fun at_ H8 hat sb8 bag8 => ?_⟩
        refine ⟨_, rfl, b, 3, [], rfl, by decide, by decide, bag8, (fun a ha => nomatch ha), fun e9 H9 _ sb9 bag9 => ⟨rfl, _, rfl, ?_⟩⟩
        have sb79 := sb7.trans (sb8.trans sb9)
        refine ite2 (fun h => ?_) (fun h => ?_)
        · have hat' : at_ < tb.length := by omega
          refine ⟨_, rfl, _, rfl, _, rfl, tx tb, rfl, len6 (n := 64) (by omega), by show 2 ≤ sizeLine; decide, fun l9 hl9 => ?_⟩
          have hlb : l9 ≠ b := fun e => bag9.ne (e ▸ hl9)
          have s9 := same_new hl9 (.lst [V.str "0", V.str "1"])
          refine ⟨_, rfl, b, 2, [], rfl, by decide, by decide, bag9.same s9, (fun a ha => nomatch ha), fun e10 H10 he10 sb10 bag10 => two_ix he10 (SqL.of (sb10 _ _ hlb upd_same)) fun c hc => ?_⟩
          refine ⟨_, _, rfl, rfl, ?_, ?_⟩
          · rw [tx_cut_to tb (Nat.le_of_lt hat'), tx_len, tx_len, List.length_take]; exact fits_small (by show _ + 1 ≤ _; omega)
          refine ⟨_, rfl, _, rfl, _, _, rfl, rfl, _, rfl, tx tb, rfl, len6 (n := 64) (by omega), _, _, rfl, rfl, ?_, ?_⟩
          · rw [show ((at_ : Nat) : Int) + 1 = ((at_ + 1 : Nat) : Int) by omega, tx_cut_from tb hat', tx_cut_to tb (Nat.le_of_lt hat'), tx_app, tx_len, tx_len, List.length_append, List.length_take, List.length_drop]
            exact fits_small (by show _ + 1 + _ ≤ _; omega)
          · rw [show ((at_ : Nat) : Int) + 1 = ((at_ + 1 : Nat) : Int) by omega, tx_cut_from tb hat', tx_cut_to tb (Nat.le_of_lt hat'), tx_app, tx_app, List.append_assoc]
            have e : tb.take at_ ++ ([c] ++ tb.drop (at_ + 1)) = tb.set at_ c := set_eq hat'
            rw [e]
            exact ⟨_, _, _, _, _, tb.set at_ c, rfl, sb79.trans ((sbut s9).trans sb10), bag10, by rw [List.length_set]; exact htl, bits_set hbits hc⟩
        · exact ⟨_, _, _, _, _, tb, rfl, sb79, bag9, htl, hbits⟩
      · rintro σ H7 ⟨v2, v4, v5, v6, v7, tb, rfl, sb7, bag7, htl, hbits⟩
        exact ⟨_, rfl, k tb H7 htl hbits sb7 bag7⟩
end
end Lk

set_option Elab.async false
set_option linter.all false
set_option maxRecDepth 100000
set_option maxHeartbeats 4000000
/-! LkW20: the law's numbers. -/
namespace Lk
open PySem PySem.Spec PyProof.Rows L2
def pk (a : Int) (p : Nat × Nat) : Nat := if a = 0 then p.1 else p.2
def bump (a : Int) (p : Nat × Nat) (h : Nat) : Nat × Nat := if a = 0 then (max p.1 h, p.2) else (p.1, max p.2 h)
theorem pk_bump (a : Int) (p : Nat × Nat) (h : Nat) : h ≤ pk a (bump a p h) := by
  unfold pk bump
  by_cases e : a = 0
  · rw [if_pos e, if_pos e]; exact Nat.le_max_right _ _
  · rw [if_neg e, if_neg e]; exact Nat.le_max_right _ _
theorem pk_mono (a c : Int) (p : Nat × Nat) (h : Nat) : pk c p ≤ pk c (bump a p h) := by
  unfold pk bump
  by_cases e : a = 0 <;> by_cases e2 : c = 0 <;> simp [e, e2] <;> exact Nat.le_max_left _ _
def two (p : Nat × Nat) : List V := [.int (p.1 : Nat), .int (p.2 : Nat)]
theorem at_two {a : Int} (ha : a = 0 ∨ a = 1) (p : Nat × Nat) : atI (two p) a = some (.int (pk a p : Nat)) := by
  rcases ha with rfl | rfl
  · exact atI_nat (j := 0) rfl
  · exact atI_nat (j := 1) rfl
theorem ix_two {a : Int} (ha : a = 0 ∨ a = 1) (p : Nat × Nat) : ixN (two p).length a = some (if a = 0 then 0 else 1) := by
  rcases ha with rfl | rfl <;> rfl
theorem two_set {a : Int} (ha : a = 0 ∨ a = 1) (p : Nat × Nat) (h : Nat) : (two p).set (if a = 0 then 0 else 1) (.int (if (h : Int) > (pk a p : Nat) then (h : Int) else (pk a p : Nat))) = two (bump a p h) := by
  have e : (if (h : Int) > (pk a p : Nat) then (h : Int) else ((pk a p : Nat) : Int)) = ((max (pk a p) h : Nat) : Int) := by
    split <;> omega
  rw [e]
  rcases ha with rfl | rfl <;> rfl
/-- what the numbers say -/
structure NumOk (f : Pat → Int) (n D : Nat) (c b : Nat × Nat) : Prop where
  bnd : c.1 ≤ 6 ∧ c.2 ≤ 6
  good : Good f n (blank n) D
  cok : ∀ a, a = 0 ∨ a = 1 → Cok f n a (pk a c)
  bok : ∀ x ∈ ins n, ∀ Bs, Apart f n x Bs → Bs.length ≤ pk (f x) b
/-! ### blocks that are there -/
theorem turn_nil (x : Pat) : turn x [] = x := rfl
theorem sorted_ext : ∀ {l m : List Nat}, l.Pairwise (· < ·) → m.Pairwise (· < ·) → (∀ i, i ∈ l ↔ i ∈ m) → l = m
  | [], [], _, _, _ => rfl
  | [], b :: m, _, _, h => by have := (h b).mpr List.mem_cons_self; cases this
  | a :: l, [], _, _, h => by have := (h a).mp List.mem_cons_self; cases this
  | a :: l, b :: m, hl, hm, h => by
    obtain ⟨l1, l2⟩ := List.pairwise_cons.mp hl
    obtain ⟨m1, m2⟩ := List.pairwise_cons.mp hm
    have e : a = b := by
      rcases List.mem_cons.mp ((h a).mp List.mem_cons_self) with e | e
      · exact e
      · rcases List.mem_cons.mp ((h b).mpr List.mem_cons_self) with e' | e'
        · exact e'.symm
        · have h1 := m1 a e
          have h2 := l1 b e'
          omega
    subst e
    congr 1
    refine sorted_ext l2 m2 fun i => ⟨fun hi => ?_, fun hi => ?_⟩
    · rcases List.mem_cons.mp ((h i).mp (List.mem_cons_of_mem _ hi)) with e | e
      · have := l1 i hi
        omega
      · exact e
    · rcases List.mem_cons.mp ((h i).mpr (List.mem_cons_of_mem _ hi)) with e | e
      · have := m1 i hi
        omega
      · exact e
theorem blk_in {n : Nat} {B : List Nat} (h : Blk n B) (hne : B ≠ []) : B ∈ blks n := by
  have e : supp n (turn (zer n) B) = B := by
    refine sorted_ext (List.Pairwise.filter _ List.pairwise_lt_range) h.1 fun i => ?_
    unfold supp
    rw [List.mem_filter, List.mem_range]
    constructor
    · rintro ⟨h1, h2⟩
      rw [turn_at (x := zer n) (len_ins (zer_mem n)) h.nodup h.2 i] at h2
      by_cases m : i ∈ B
      · exact m
      · rw [if_neg m, gt_zer h1] at h2; cases h2
    · intro m
      refine ⟨h.2 i m, ?_⟩
      rw [turn_at (x := zer n) (len_ins (zer_mem n)) h.nodup h.2 i, if_pos m, gt_zer (h.2 i m)]; rfl
  refine List.mem_filter.mpr ⟨List.mem_map.mpr ⟨turn (zer n) B, turn_ins (zer_mem n) h.2, e⟩, ?_⟩
  cases B with
  | nil => exact absurd rfl hne
  | cons _ _ => rfl
theorem sub_perm : ∀ {Ls Bs : List (List Nat)}, Bs.Nodup → (∀ B ∈ Bs, B ∈ Ls) → ∃ Cs : List (List Nat), Cs.Sublist Ls ∧ Cs.Perm Bs
  | [], Bs, _, h => by
    cases Bs with
    | nil => exact ⟨[], List.Sublist.refl _, List.Perm.refl _⟩
    | cons B _ => have := h B List.mem_cons_self; cases this
  | L :: Ls, Bs, hn, h => by
    by_cases m : L ∈ Bs
    · obtain ⟨Cs, h1, h2⟩ := sub_perm (Ls := Ls) (Bs := Bs.erase L) (hn.erase L) fun B hB => by
        obtain ⟨hne, hB'⟩ := (List.Nodup.mem_erase_iff hn).mp hB
        exact (List.mem_cons.mp (h B hB')).resolve_left hne
      exact ⟨L :: Cs, h1.cons_cons L, (h2.cons L).trans (List.perm_cons_erase m).symm⟩
    · obtain ⟨Cs, h1, h2⟩ := sub_perm (Ls := Ls) hn fun B hB => (List.mem_cons.mp (h B hB)).resolve_left fun e => m (e ▸ hB)
      exact ⟨Cs, h1.cons L, h2⟩
theorem apart_le {f : Pat → Int} {n : Nat} {x : Pat} {Ls Bs : List (List Nat)} {m : Nat} (h : ∀ B ∈ blks n, Sens f x B → B ∈ Ls) (hm : ∀ Cs : List (List Nat), Cs.Sublist Ls → Cs.Pairwise Dis → Cs.length ≤ m) (hA : Apart f n x Bs) : Bs.length ≤ m := by
  have hne : ∀ B ∈ Bs, B ≠ [] := fun B hB e => by
    have := hA.sens B hB
    rw [e] at this
    exact this rfl
  have hnd : Bs.Nodup := by
    have : ∀ Ds : List (List Nat), (∀ B ∈ Ds, B ≠ []) → Ds.Pairwise Dis → Ds.Nodup := fun Ds => by
      induction Ds with
      | nil => exact fun _ _ => List.nodup_nil
      | cons B Ds ih =>
        intro h1 h2
        obtain ⟨p1, p2⟩ := List.pairwise_cons.mp h2
        refine List.nodup_cons.mpr ⟨fun m => ?_, ih (fun C hC => h1 C (List.mem_cons_of_mem _ hC)) p2⟩
        have hB := h1 B List.mem_cons_self
        cases B with
        | nil => exact hB rfl
        | cons i B => exact p1 _ m i List.mem_cons_self List.mem_cons_self
    exact this Bs hne hA.dis
  obtain ⟨Cs, h1, h2⟩ := sub_perm hnd fun B hB => h B (blk_in (hA.blk B hB) (hne B hB)) (hA.sens B hB)
  rw [← h2.length_eq]
  exact hm Cs h1 (h2.symm.pairwise hA.dis fun {B C} r i hi hi' => r i hi' hi)
section
variable {P : Program} {w : World} {K : PySem.W.Frag} {mg : Str → Option Value} {base : Heap}
def spNumbers : Sp := fun vs H Q _ => ∃ (d : Addr) (f : Pat → Int) (n : Nat), vs = [.ref d, .int (n : Nat)] ∧ H d = some (.dK (wor f n)) ∧ Bi f ∧ n ≤ 6 ∧
  ∀ (r t1 t2 t3 : Addr) (D : Nat) (c s b : Nat × Nat) (top : Int) (H' : Hp), SameBut d H H' → Rd H' d (.dK (wor f n)) → H' r = some (.lst [.int (D : Nat), .ref t1, .ref t2, .ref t3, .int top]) → H' t1 = some (.tup (two c)) → H' t2 = some (.tup (two s)) → H' t3 = some (.tup (two b)) → NumOk f n D c b → Q (.ref r) H'
theorem sc_law_numbers : FnScope ["_law_worths_here", "_law_many", "_law_settling_here", "_law_sizes", "_law_couples", "_law_text", "_law_some", "_law_singles", "_law_block", "_law_here", "_law_bit", "_law_k", "_law_couple", "_law_top", "_law_most", "_law_pair"] ["_law_worths_here", "_law_many"] (defScope s_law_numbers) := ⟨rfl, rfl, rfl, by decide +kernel, rfl, by decide +kernel, by decide +kernel⟩
theorem ok_law_numbers (T : TX K mg) (D : DF K mg "_law_numbers" s_law_numbers) (C_law_settling : Cal P w K mg base 3 "_law_settling" spLSet) (C_law_least_sizes : Cal P w K mg base 3 "_law_least_sizes" spLeast) (C_law_turning : Cal P w K mg base 4 "_law_turning" spTurning)
    (C_law_most_apart : Cal P w K mg base 4 "_law_most_apart" (spApart K)) (C_law_products : Cal P w K mg base 4 "_law_products" spProducts) (C_law_needs : Cal P w K mg base 3 "_law_needs" spNeeds) : Cal P w K mg base 5 "_law_numbers" spNumbers := by
  refine mkCal D sc_law_numbers (fun _ _ _ _ _ _ us hl => match us, hl with | [_, _], _ => rfl) (fun vs H Q E h => ?_) (fun fa cdv A outer s H vs Q E hr h => ?_)
  · obtain ⟨d, f, n, rfl, _⟩ := h; rfl
  obtain ⟨d, f, n, rfl, hd, hf, hn, k⟩ := h
  refine ⟨_, (pss_cons (ps_set (i := 2) sc_law_numbers.nd rfl (Or.inl rfl) (pe_c C_law_settling (by exact hr) (by decide) (by rfl) (pa_cons (pv 0) (pa_cons (pv 1) pa_nil))))
      (pss_cons (ps_set (i := 3) sc_law_numbers.nd rfl (Or.inl rfl) (pe_c C_law_least_sizes (by exact hr) (by decide) (by rfl) (pa_cons (pv 2) (pa_cons (pv 1) pa_nil))))
      (pss_cons (ps_set (i := 4) sc_law_numbers.nd rfl (Or.inl rfl) (pe_lst (pa_cons (pe_lst (pa_cons pe_int (pa_cons pe_int pa_nil))) (pa_cons (pe_lst (pa_cons pe_int (pa_cons pe_int pa_nil))) (pa_cons (pe_lst (pa_cons pe_int (pa_cons pe_int pa_nil))) pa_nil)))))
      (pss_cons (ps_for PassesOwn.never rfl (pi_keys (pe_frz (pv 0))) (pg_name (i := 5) sc_law_numbers.nd rfl (Or.inl rfl) (Or.inr rfl)) (pss_cons (ps_set (i := 6) sc_law_numbers.nd rfl (Or.inl rfl) (pe_c C_law_turning (by exact hr) (by decide) (by rfl) (pa_cons (pv 0) (pa_cons (pv 5) (pa_cons (pv 1) pa_nil)))))
      (pss_cons (ps_set (i := 7) sc_law_numbers.nd rfl (Or.inl rfl) (pe_callB call_len_seq (by rfl) T.f_len PySem.boot_len (pa_cons (pe_lc (own := [("_law_block", 8)]) rfl sc_law_numbers.nd (pi_list (pv 6)) (blkOk_by (own := [("_law_block", 8)]) (N := ["_law_worths_here", "_law_many", "_law_settling_here", "_law_sizes", "_law_couples", "_law_text", "_law_some", "_law_singles", "_law_block", "_law_here", "_law_bit", "_law_k", "_law_couple", "_law_top", "_law_most", "_law_pair"]) (sc := defScope s_law_numbers) (by decide +kernel)) (fun _ _ _ _ _ => (pg_name (i := 8) sc_law_numbers.nd rfl (Or.inl rfl) (Or.inr rfl))) (fun _ _ _ _ _ => (pts_one (pt_cmpR op_eq (pe_callB (call_len_seqK (K := K)) (by rfl) T.f_len PySem.boot_len (pa_cons (pv 8) pa_nil)) pe_int (nomark _)))) (fun _ _ _ _ _ => (pv 8))) pa_nil)))
      (pss_cons (ps_set (i := 9) sc_law_numbers.nd rfl (Or.inl rfl) (pe_lst (pa_cons (pe_dget (by exact hu_of hr) (pv 3) (pv 5) (by intro _ _; rfl)) (pa_cons (pv 7) (pa_cons (pe_c C_law_most_apart (by exact hr) (by decide) (by rfl) (pa_cons (pv 6) (pa_cons (pv 1) pa_nil))) pa_nil)))))
      (pss_cons (ps_set (i := 10) sc_law_numbers.nd rfl (Or.inl rfl) (pe_dget (by exact hu_of hr) (pv 0) (pv 5) (by intro _ _; rfl)))
      (pss_one (ps_for PassesOwn.never rfl (pi_range1 (by rfl) T.f_range (pa_cons pe_int pa_nil)) (pg_name (i := 11) sc_law_numbers.nd rfl (Or.inl rfl) (Or.inr rfl)) (pss_cons (ps_set (i := 12) sc_law_numbers.nd rfl (Or.inl rfl) (pe_ix ix_list (pv 4) (pv 11) (by intro _ _; rfl)))
      (pss_one (ps_asg (pe_callB (call_max2 rfl) (by rfl) T.f_max (by decide +kernel) (pa_cons (pe_ix ix_list (pv 12) (pv 10) (by intro _ _; rfl)) (pa_cons (pe_ix ix_list (pv 9) (pv 11) (by intro _ _; rfl)) pa_nil))) (pg_sub (pv 12) (pv 10) set_list (by intro _; rfl))))))))))))
      (pss_cons (ps_set (i := 13) sc_law_numbers.nd rfl (Or.inl rfl) (pe_callB (cr_max rfl) (by rfl) T.f_max (by decide +kernel) (pa_cons (pe_op op_cat (pe_lst (pa_cons pe_int pa_nil)) (pe_lc (own := [("_law_block", 8)]) rfl sc_law_numbers.nd (pi_keys (pe_frz (pe_c C_law_products (by exact hr) (by decide) (by rfl) (pa_cons (pv 0) (pa_cons (pv 1) pa_nil))))) (blkOk_by (own := [("_law_block", 8)]) (N := ["_law_worths_here", "_law_many", "_law_settling_here", "_law_sizes", "_law_couples", "_law_text", "_law_some", "_law_singles", "_law_block", "_law_here", "_law_bit", "_law_k", "_law_couple", "_law_top", "_law_most", "_law_pair"]) (sc := defScope s_law_numbers) (by decide +kernel)) (fun _ _ _ _ _ => (pg_name (i := 8) sc_law_numbers.nd rfl (Or.inl rfl) (Or.inr rfl))) (fun _ _ _ _ _ => pts_nil) (fun _ _ _ _ _ => (pe_callB (call_len_seqK (K := K)) (by rfl) T.f_len PySem.boot_len (pa_cons (pv 8) pa_nil))))) pa_nil)))
      (pss_cons (ps_set (i := 14) sc_law_numbers.nd rfl (Or.inl rfl) (pe_dget (by exact hu_of hr) (pe_c C_law_needs (by exact hr) (by decide) (by rfl) (pa_cons (pv 2) (pa_cons (pv 1) pa_nil))) (pe_op op_mulS pe_str (pv 1)) (by intro _ _; rfl)))
      (pss_one (ps_ret (pe_op op_cat (pe_op op_cat (pe_lst (pa_cons (pv 14) pa_nil)) (pe_lc (own := [("_law_pair", 15)]) rfl sc_law_numbers.nd (pi_list (pv 4)) (blkOk_by (own := [("_law_pair", 15)]) (N := ["_law_worths_here", "_law_many", "_law_settling_here", "_law_sizes", "_law_couples", "_law_text", "_law_some", "_law_singles", "_law_block", "_law_here", "_law_bit", "_law_k", "_law_couple", "_law_top", "_law_most", "_law_pair"]) (sc := defScope s_law_numbers) (by decide +kernel)) (fun _ _ _ _ _ => (pg_name (i := 15) sc_law_numbers.nd rfl (Or.inl rfl) (Or.inr rfl))) (fun _ _ _ _ _ => pts_nil) (fun _ _ _ _ _ => (pe_tupleOfK (K := K) (by rfl) T.f_tuple (pv 15))))) (pe_lst (pa_cons (pv 13) pa_nil))))))))))), ?_⟩
  refine ⟨_, rfl, _, rfl, d, f, n, rfl, .inl hd, hf, hn, fun S H1 s1 S0 hS1 => ?_⟩
  refine ⟨_, rfl, _, rfl, S, f, n, rfl, hS1, hf, hn, fun Z kvs odS H2 sb2 hS2 Z0 hZS hZ2 hatt => ?_⟩
  have s2 : Same H H2 := SameBut.same s1 sb2 S0
  have hd2 := s2 _ _ hd
  refine ⟨by show 2 ≤ sizeLine; decide, fun L0 hL0 => ⟨by show 2 ≤ sizeLine; decide, fun L1 hL1 => ⟨by show 2 ≤ sizeLine; decide, fun L2' hL2 => ⟨by show 3 ≤ sizeLine; decide, fun LL hLL => ?_⟩⟩⟩⟩
  obtain ⟨Ls, z0, z1, z2⟩ : ∃ Ls : Nat → Addr, Ls 0 = L0 ∧ Ls 1 = L1 ∧ Ls 2 = L2' := ⟨fun j => if j = 0 then L0 else if j = 1 then L1 else L2', rfl, rfl, rfl⟩
  have c3 : ∀ j, j < 3 → j = 0 ∨ j = 1 ∨ j = 2 := fun j hj => by omega
  have hn0 : H2 L0 = none := hL0
  have hn1 : H2 L1 = none := (same_new hL0 (.lst [V.int 0, V.int 0])).free hL1
  have hn2 : H2 L2' = none := (snew (same_new hL0 (.lst [V.int 0, V.int 0])) hL1 (.lst [V.int 0, V.int 0])).free hL2
  have d01 : L0 ≠ L1 := fun e => by rw [← e, upd_same] at hL1; cases hL1
  have d12 : L1 ≠ L2' := fun e => by rw [← e, upd_same] at hL2; cases hL2
  have d02 : L0 ≠ L2' := fun e => by rw [← e, upd_ne d01, upd_same] at hL2; cases hL2
  have dL2 : LL ≠ L2' := fun e => by rw [e, upd_same] at hLL; cases hLL
  have dL1 : LL ≠ L1 := fun e => by rw [e, upd_ne d12, upd_same] at hLL; cases hLL
  have dL0 : LL ≠ L0 := fun e => by rw [e, upd_ne d02, upd_ne d01, upd_same] at hLL; cases hLL
  have hLn : ∀ j, j < 3 → H2 (Ls j) = none := fun j hj => by
    rcases c3 j hj with rfl | rfl | rfl
    · rw [z0]; exact hn0
    · rw [z1]; exact hn1
    · rw [z2]; exact hn2
  have hLd : ∀ i j, i < 3 → j < 3 → i ≠ j → Ls i ≠ Ls j := fun i j hi hj hij => by
    rcases c3 i hi with rfl | rfl | rfl <;> rcases c3 j hj with rfl | rfl | rfl <;> simp only [z0, z1, z2] <;> first | exact absurd rfl hij | assumption | (intro e; first | exact d01 e.symm | exact d12 e.symm | exact d02 e.symm)
  have hLLd : ∀ j, j < 3 → LL ≠ Ls j := fun j hj => by
    rcases c3 j hj with rfl | rfl | rfl
    · rw [z0]; exact dL0
    · rw [z1]; exact dL1
    · rw [z2]; exact dL2
  have s3 := snew (snew (snew (same_new hL0 (.lst [V.int 0, V.int 0])) hL1 (.lst [V.int 0, V.int 0])) hL2 (.lst [V.int 0, V.int 0])) hLL (.lst [V.ref L0, V.ref L1, V.ref L2'])
  have hLv : ∀ j, j < 3 → (upd (upd (upd (upd H2 L0 (.lst [V.int 0, V.int 0])) L1 (.lst [V.int 0, V.int 0])) L2' (.lst [V.int 0, V.int 0])) LL (.lst [V.ref L0, V.ref L1, V.ref L2'])) (Ls j) = some (.lst (two (0, 0))) := fun j hj => by
    rw [upd_ne (fun e => hLLd j hj e.symm)]
    rcases c3 j hj with rfl | rfl | rfl
    · rw [z0, upd_ne d02, upd_ne d01, upd_same]; rfl
    · rw [z1, upd_ne d12, upd_same]; rfl
    · rw [z2, upd_same]; rfl
  have hLLv := upd_same (H := upd (upd (upd H2 L0 (.lst [V.int 0, V.int 0])) L1 (.lst [V.int 0, V.int 0])) L2' (.lst [V.int 0, V.int 0])) (a := LL) (o := .lst [V.ref L0, V.ref L1, V.ref L2'])
  generalize upd (upd (upd (upd H2 L0 (.lst [V.int 0, V.int 0])) L1 (.lst [V.int 0, V.int 0])) L2' (.lst [V.int 0, V.int 0])) LL (.lst [V.ref L0, V.ref L1, V.ref L2']) = H3 at s3 hLv hLLv ⊢
  have hd3 := s3 _ _ hd2
  have hS3 := s3 _ _ hS2
  have hZ3 := s3 _ _ hZ2
  have hSd : S ≠ d := fun e => by rw [e, hd] at S0; cases S0
  have hZd : Z ≠ d := fun e => by rw [e, s1 _ _ hd] at Z0; cases Z0
  have hLLdd : LL ≠ d := fun e => by
    have h1 := (snew (snew (same_new hL0 (.lst [V.int 0, V.int 0])) hL1 (.lst [V.int 0, V.int 0])) hL2 (.lst [V.int 0, V.int 0])).free hLL
    rw [e, hd2] at h1; cases h1
  have hLdd : ∀ j, j < 3 → Ls j ≠ d := fun j hj e => by have := hLn j hj; rw [e, hd2] at this; cases this
  have hLS : ∀ j, j < 3 → Ls j ≠ S := fun j hj e => by have := hLn j hj; rw [e, hS2] at this; cases this
  have hLZ : ∀ j, j < 3 → Ls j ≠ Z := fun j hj e => by have := hLn j hj; rw [e, hZ2] at this; cases this
  have hLH : ∀ j, j < 3 → H (Ls j) = none := fun j hj => s2.free (hLn j hj)
  have s03 := s2.trans s3
  refine ⟨_, rfl, d, .dK (wor f n), rfl, hd3, trivial, fun od => ⟨d, od, rfl, .inl ⟨_, upd_same, ?_⟩⟩⟩
  refine for_it (walk_keys (kvs := wor f n)) (fun i σ H' => ∃ (v5 v6 v7 v8 v9 v10 v11 v12 v13 v14 v15 : Option V) (pr : Nat → Nat × Nat), σ = [some (.ref d), some (.int (n : Nat)), some (.ref S), some (.ref Z), some (.ref LL), v5, v6, v7, v8, v9, v10, v11, v12, v13, v14, v15] ∧ SameBut d H H' ∧ H' d = some (.frz od (.dK (wor f n))) ∧
      H' S = some (.frz odS (.dK (sta f n (pats n).reverse))) ∧ H' Z = some (.dK kvs) ∧ H' LL = some (.lst [.ref L0, .ref L1, .ref L2']) ∧ (∀ j, j < 3 → H' (Ls j) = some (.lst (two (pr j)))) ∧
      ((pr 0).1 ≤ 6 ∧ (pr 0).2 ≤ 6) ∧ (∀ x ∈ (ins n).take i, ∃ v, Att f n x v ∧ v ≤ pk (f x) (pr 0)) ∧ ∀ x ∈ (ins n).take i, ∀ Bs, Apart f n x Bs → Bs.length ≤ pk (f x) (pr 2))
    ⟨_, _, _, _, _, _, _, _, _, _, _, fun _ => (0, 0), rfl, (sbut s03).trans (SameBut.upd d _ _), upd_same, by rw [upd_ne hSd]; exact hS3, by rw [upd_ne hZd]; exact hZ3, by rw [upd_ne hLLdd]; exact hLLv, fun j hj => (by rw [upd_ne (hLdd j hj)]; exact hLv j hj), ⟨Nat.zero_le _, Nat.zero_le _⟩,
      fun x hx => (by rw [List.take_zero] at hx; cases hx), fun x hx => (by rw [List.take_zero] at hx; cases hx)⟩ (fun i σ H' _ z => by obtain ⟨_, _, _, _, _, _, _, _, _, _, _, _, _, _, z, _⟩ := z; exact z) ?_ ?_
  · rintro i y σ H0 H5 hi ⟨v5, v6, v7, v8, v9, v10, v11, v12, v13, v14, v15, pr, rfl, sb5, hd5, hS5, hZ5, hLL5, hL5, hN5, hA5, hB5⟩ ⟨rfl, k', v', e, rfl⟩
    rw [wor, List.getElem?_map] at e
    obtain ⟨x, hx, e⟩ := Option.map_eq_some_iff.mp e
    obtain ⟨rfl, rfl⟩ := Prod.mk.inj e
    have hxm := List.mem_of_getElem? hx
    refine ⟨_, rfl, _, rfl, _, rfl, d, f, n, x, rfl, .inr ⟨od, hd5⟩, hxm, hn, fun r bs H7 s7 r0 hr7 hb7 hbok hsens hb64 => ?_⟩
    refine ⟨_, rfl, r, rfl, ⟨_, SqL.of hr7⟩, fun D hD => lc_new (walk_list (xs := rfs bs)) hD (fun i => rfs ((bs.take i).filter fun b => decide (((iv b.2).length : Int) = 1))) rfl (fun i hi => ?_) (fun H' s' => SqL.of (s' _ _ hr7)) (fun i y H0 H' K1 K0 hi s3 y k1 k0 => ?_) (fun H8 s8 h8 => ?_)⟩
    · rw [List.length_map]
      refine Nat.le_trans (List.length_filter_le _ _) ?_
      rw [List.length_take]; omega
    · obtain ⟨rfl, e⟩ := y
      rw [List.getElem?_map] at e
      obtain ⟨b, hb, rfl⟩ := Option.map_eq_some_iff.mp e
      have hbm := List.mem_of_getElem? hb
      refine ⟨rfl, ?_⟩
      refine ⟨_, rfl, b.1, _, rfl, .inr (SqT.of (s3 _ _ (hb7 b hbm))), rfl, _, rfl, ?_⟩
      rw [dec_i]
      refine ite2 (fun h => ?_) (fun h => ?_)
      · refine ⟨_, rfl, k1 _ _ (Same.refl _) ?_⟩
        show List.map _ _ = List.map _ _ ++ _
        rw [fil_snoc _ _ hb, if_pos h]
      · refine k0 _ (Same.refl _) ?_
        show List.map _ _ = List.map _ _
        rw [fil_snoc _ _ hb, if_neg h, List.append_nil]
    obtain ⟨ws, hws⟩ : ∃ ws, H8 D = some (.lst ws) := ⟨_, h8⟩
    refine ⟨D, ws, rfl, .inl (SqL.of hws), ?_⟩
    obtain ⟨v, hv, hatv⟩ := hatt x hxm
    have s58 := s7.trans s8
    refine ⟨_, rfl, _, rfl, Z, .int (v : Nat), rfl, .inl ⟨kvs, kt x, .inl (s58 _ _ hZ5), rfl, hv.symm⟩, _, rfl, _, rfl, _, rfl, r, n, bs, rfl, hn, SqL.of (s8 _ _ hr7), fun b hb => s8 _ _ (hb7 b hb), hbok, hb64, fun m H9 s9 hm => ⟨by show 3 ≤ sizeLine; decide, fun hh hhn => ?_⟩⟩
    have s59 := s58.trans s9
    have s510 := snew s59 hhn (.lst [.int (v : Nat), .int (ws.length : Nat), .int (m : Nat)])
    obtain ⟨hw, w0, w1, w2⟩ : ∃ hw : Nat → Nat, hw 0 = v ∧ hw 1 = ws.length ∧ hw 2 = m := ⟨fun j => if j = 0 then v else if j = 1 then ws.length else m, rfl, rfl, rfl⟩
    have hd10 := s510 _ _ hd5
    have hhL : ∀ j, j < 3 → hh ≠ Ls j := fun j hj e => by
      have := s59 _ _ (hL5 j hj)
      rw [← e, hhn] at this; cases this
    have ha := hf x
    refine ⟨_, rfl, _, rfl, d, .int (f x), rfl, .inl ⟨_, kt x, .inr ⟨od, hd10⟩, rfl, by rw [wor, valV_map, if_pos hxm]⟩, ?_⟩
    refine ⟨_, rfl, by decide, by decide, for_it (walk_rg (n := 3)) (fun i σ H' => ∃ (v6 v7 v8 v11 v12 v13 v14 v15 : Option V), σ = [some (V.ref d), some (.int (n : Nat)), some (.ref S), some (.ref Z), some (.ref LL), some (vt x), v6, v7, v8, some (.ref hh), some (.int (f x)), v11, v12, v13, v14, v15] ∧ SameBut d H H' ∧ H' d = some (.frz od (.dK (wor f n))) ∧
        H' S = some (.frz odS (.dK (sta f n (pats n).reverse))) ∧ H' Z = some (.dK kvs) ∧ H' LL = some (.lst [.ref L0, .ref L1, .ref L2']) ∧ H' hh = some (.lst [.int (v : Nat), .int (ws.length : Nat), .int (m : Nat)]) ∧ (∀ j, j < 3 → H' (Ls j) = some (.lst (two (if j < i then bump (f x) (pr j) (hw j) else pr j)))))
      ⟨_, _, _, _, _, _, _, _, rfl, sb5.trans (sbut s510), hd10, s510 _ _ hS5, s510 _ _ hZ5, s510 _ _ hLL5, upd_same, fun j hj => by rw [if_neg (Nat.not_lt_zero _)]; exact s510 _ _ (hL5 j hj)⟩ (fun _ _ _ _ _ => trivial) ?_ ?_⟩
    · rintro q y σ H0 H11 hq ⟨v6, v7, v8, v11, v12, v13, v14, v15, rfl, sb11, hd11, hS11, hZ11, hLL11, hh11, hL11⟩ ⟨rfl, rfl⟩
      have eLL : ([V.ref L0, V.ref L1, V.ref L2'] : List V)[q]? = some (.ref (Ls q)) := by
        rcases c3 q hq with rfl | rfl | rfl
        · rw [z0]; rfl
        · rw [z1]; rfl
        · rw [z2]; rfl
      have ehh : ([V.int (v : Nat), V.int (ws.length : Nat), V.int (m : Nat)] : List V)[q]? = some (.int (hw q : Nat)) := by
        rcases c3 q hq with rfl | rfl | rfl
        · rw [w0]; rfl
        · rw [w1]; rfl
        · rw [w2]; rfl
      have hLq := hL11 q hq
      rw [if_neg (Nat.lt_irrefl _)] at hLq
      refine ⟨_, rfl, _, rfl, LL, _, (q : Nat), .ref (Ls q), rfl, rfl, SqL.of hLL11, atI_nat eLL, ?_⟩
      refine ⟨_, rfl, _, rfl, Ls q, _, f x, .int (pk (f x) (pr q) : Nat), rfl, rfl, SqL.of hLq, at_two ha _, _, rfl, _, rfl, hh, _, (q : Nat), .int (hw q : Nat), rfl, rfl, SqL.of hh11, atI_nat ehh, _, _, rfl, _, rfl, _, rfl, Ls q, _, f x, _, rfl, rfl, hLq, ix_two ha _, ?_⟩
      rw [two_set ha]
      refine ⟨_, _, _, _, _, _, _, _, rfl, ?_, by rw [upd_ne (fun e => hLdd q hq e.symm)]; exact hd11, by rw [upd_ne (fun e => hLS q hq e.symm)]; exact hS11, by rw [upd_ne (fun e => hLZ q hq e.symm)]; exact hZ11, by rw [upd_ne (hLLd q hq)]; exact hLL11, by rw [upd_ne (hhL q hq)]; exact hh11, fun j hj => ?_⟩
      · intro c o hc ho
        rw [upd_ne (fun e => by rw [e, hLH q hq] at ho; cases ho)]
        exact sb11 c o hc ho
      · by_cases e : j = q
        · rw [e, upd_same, if_pos (Nat.lt_succ_self _)]
        · rw [upd_ne (hLd j q hj hq e), hL11 j hj]
          by_cases c : j < q
          · rw [if_pos c, if_pos (by omega)]
          · rw [if_neg c, if_neg (by omega)]
    · rintro σ H11 ⟨v6, v7, v8, v11, v12, v13, v14, v15, rfl, sb11, hd11, hS11, hZ11, hLL11, hh11, hL11⟩
      refine ⟨_, _, _, _, _, _, _, _, _, _, _, fun j => bump (f x) (pr j) (hw j), rfl, sb11, hd11, hS11, hZ11, hLL11, fun j hj => ?_, ?_, fun q hq => ?_, fun q hq Bs hB => ?_⟩
      · have := hL11 j hj
        rw [if_pos (show j < 3 from hj)] at this
        exact this
      · have hv6 : v ≤ 6 := by
          obtain ⟨q, q1, _, _, q4⟩ := hatv
          have h1 := siz_le q
          have h2 := len_pats q1
          omega
        show (bump (f x) (pr 0) (hw 0)).1 ≤ 6 ∧ (bump (f x) (pr 0) (hw 0)).2 ≤ 6
        rw [w0]
        unfold bump
        split
        · exact ⟨Nat.max_le.mpr ⟨hN5.1, hv6⟩, hN5.2⟩
        · exact ⟨hN5.1, Nat.max_le.mpr ⟨hN5.2, hv6⟩⟩
      · rw [take_snoc hx] at hq
        rcases List.mem_append.mp hq with hq | hq
        · obtain ⟨v', h1, h2⟩ := hA5 q hq
          exact ⟨v', h1, Nat.le_trans h2 (pk_mono _ _ _ _)⟩
        · rw [List.mem_singleton.mp hq]
          exact ⟨v, hatv, by have := pk_bump (f x) (pr 0) (hw 0); rw [w0] at this; exact w0 ▸ this⟩
      · rw [take_snoc hx] at hq
        rcases List.mem_append.mp hq with hq | hq
        · exact Nat.le_trans (hB5 q hq Bs hB) (pk_mono _ _ _ _)
        · rw [List.mem_singleton.mp hq] at hB ⊢
          refine Nat.le_trans (apart_le hsens hm hB) ?_
          have := pk_bump (f x) (pr 2) (hw 2)
          rw [w2] at this
          exact w2 ▸ this
  · rintro σ H5 ⟨v5, v6, v7, v8, v9, v10, v11, v12, v13, v14, v15, pr, rfl, sb5, hd5, hS5, hZ5, hLL5, hL5, hN5, hA5, hB5⟩
    have el : (wor f n).length = (ins n).length := List.length_map _
    rw [el, List.take_length] at hA5 hB5
    refine ⟨by show 1 ≤ sizeLine; decide, fun l1 hl1 => ?_⟩
    have s6 := same_new hl1 (.lst [V.int 0])
    refine ⟨_, rfl, _, rfl, d, f, n, rfl, .inr ⟨od, s6 _ _ hd5⟩, hf, hn, fun r7 kvp H7 s7 hr7 r70 hk65 => ⟨r7, .dT kvp, rfl, hr7, trivial, fun od7 => ⟨r7, od7, rfl, .inr ⟨kvp, upd_same, fun D hD => ?_⟩⟩⟩⟩
    have s67 : Same (upd H5 l1 (.lst [V.int 0])) (upd H7 r7 (.frz od7 (.dT kvp))) := schg s7 r70 _
    refine lc_new (walk_keysT (kvs := kvp)) hD (fun i => (kvp.take i).map fun kv => .int ((kv.1.map kV).length : Nat)) rfl (fun i hi => ?_) (fun H' s' => s' _ _ upd_same) (fun i y H0 H' K1 K0 hi s3 y k1 k0 => ?_) (fun H8 s8 h8 => ?_)
    · rw [List.length_map, List.length_take]; omega
    · obtain ⟨rfl, kk, vv, qq, e, rfl, hqq⟩ := y
      refine ⟨rfl, yes ⟨_, rfl, qq, _, rfl, .inr (SqT.of hqq), k1 _ _ (Same.refl _) ?_⟩⟩
      rw [take_snoc e, List.map_append]; rfl
    rw [List.take_length] at h8
    have s68 := s67.trans s8
    refine ⟨l1, D, _, _, rfl, rfl, s68 _ _ upd_same, h8, by rw [List.length_map]; exact fits_small (by show 1 + kvp.length ≤ _; omega), fun p hp => ?_⟩
    refine ⟨p, 0 :: kvp.map fun kv => ((kv.1.map kV).length : Int), rfl, SqL.of (by rw [upd_same, List.map_cons, List.map_map]; rfl), by rw [List.length_cons]; omega, fun top _ _ => ?_⟩
    have s9 := snew (s6.trans s68) hp (.lst ([V.int 0] ++ kvp.map fun kv => .int ((kv.1.map kV).length : Nat)))
    refine ⟨_, rfl, _, rfl, S, f, n, rfl, .inr ⟨odS, s9 _ _ hS5⟩, hf, hn, fun r10 kvn H10 s10 hr10 hgood => ⟨_, rfl, _, _, rfl, rfl, mul_ok hn _ rfl, ?_⟩⟩
    rw [mul_minus hn]
    obtain ⟨Dv, hDv, hG⟩ := hgood (blank n) (blank_mem n)
    refine ⟨r10, .int (Dv : Nat), rfl, .inl ⟨kvn, kt (blank n), .inl hr10, rfl, hDv.symm⟩, ?_⟩
    refine ⟨_, rfl, by show 1 ≤ sizeLine; decide, fun l11 hl11 => ?_⟩
    have s510 := s9.trans s10
    have s511 := snew s510 hl11 (.lst [V.int (Dv : Nat)])
    have hl11v := upd_same (H := H10) (a := l11) (o := .lst [V.int (Dv : Nat)])
    generalize upd H10 l11 (.lst [V.int (Dv : Nat)]) = H11 at s511 hl11v ⊢
    refine ⟨_, rfl, LL, rfl, ⟨_, SqL.of (s511 _ _ hLL5)⟩, fun D12 hD12 => lc_but (walk_list (xs := [V.ref L0, V.ref L1, V.ref L2'])) hD12 (fun i l H' => ∃ ts : List Addr, l = ts.map V.ref ∧ ts.length = i ∧ Same H11 H' ∧ ∀ j, j < i → ∃ t, ts[j]? = some t ∧ H' t = some (.tup (two (pr j))))
      ⟨[], rfl, rfl, same_new hD12 _, fun j hj => absurd hj (Nat.not_lt_zero _)⟩ (fun i l H' _ z _ => by obtain ⟨_, _, _, z, _⟩ := z; exact SqL.of (z _ _ (s511 _ _ hLL5))) (fun i l H' hi z => ?_) (fun i l x H0 H' K1 K0 hi z hDl y k1 k0 => ?_) (fun l H12 z hDl => ?_)⟩
    · obtain ⟨ts, rfl, e, _⟩ := z
      have hi3 : i < 3 := hi
      rw [List.length_map]; omega
    · obtain ⟨ts, rfl, e, s12, hts⟩ := z
      obtain ⟨rfl, ey⟩ := y
      have hi3 : i < 3 := hi
      have ex : x = .ref (Ls i) := by
        rcases c3 i hi3 with rfl | rfl | rfl
        · rw [z0]; exact (Option.some.inj ey).symm
        · rw [z1]; exact (Option.some.inj ey).symm
        · rw [z2]; exact (Option.some.inj ey).symm
      subst ex
      refine ⟨rfl, yes ⟨_, rfl, .inl ⟨Ls i, _, rfl, SqL.of (s12 _ _ (s511 _ _ (hL5 i hi3))), fun q hq => ?_⟩⟩⟩
      have hqD : q ≠ D12 := fun e => by rw [e, hDl] at hq; cases hq
      refine k1 _ _ (by rw [upd_ne (fun e => hqD e.symm)]; exact hDl) ⟨ts ++ [q], by rw [List.map_append]; rfl, by rw [List.length_append, e]; rfl, schg (snew s12 hq _) hD12 _, fun j hj => ?_⟩
      by_cases c : j = i
      · refine ⟨q, by rw [c, List.getElem?_append_right (by omega), e]; simp, ?_⟩
        rw [upd_ne hqD, upd_same, c]
      · obtain ⟨t, ht1, ht2⟩ := hts j (by omega)
        refine ⟨t, by rw [List.getElem?_append_left (by omega)]; exact ht1, ?_⟩
        rw [upd_ne (fun e => by rw [e, hDl] at ht2; cases ht2), upd_ne (fun e => by rw [e, hq] at ht2; cases ht2)]
        exact ht2
    · obtain ⟨ts, rfl, e, s12, hts⟩ := z
      obtain ⟨t1, a1, b1⟩ := hts 0 (by show 0 < 3; decide)
      obtain ⟨t2, a2, b2⟩ := hts 1 (by show 1 < 3; decide)
      obtain ⟨t3, a3, b3⟩ := hts 2 (by show 2 < 3; decide)
      have ets : ts = [t1, t2, t3] := by
        have e3 : ts.length = 3 := e
        match ts, e3 with
        | [x, y, z], _ =>
          cases a1
          cases a2
          cases a3
          rfl
      subst ets
      refine ⟨l11, D12, _, _, rfl, rfl, s12 _ _ hl11v, hDl, by show 1 + 3 ≤ sizeLine; decide, fun p13 hp13 => ⟨_, rfl, by show 1 ≤ sizeLine; decide, fun l14 hl14 => ?_⟩⟩
      have s13 := same_new hp13 (.lst ([V.int (Dv : Nat)] ++ [t1, t2, t3].map V.ref))
      have s14 := same_new hl14 (.lst [V.int top])
      refine ⟨p13, l14, _, _, rfl, rfl, s14 _ _ upd_same, upd_same, by show 4 + 1 ≤ sizeLine; decide, fun p15 hp15 => ?_⟩
      have s15 := same_new hp15 (.lst ([V.int (Dv : Nat)] ++ [t1, t2, t3].map V.ref ++ [V.int top]))
      have s1215 := s13.trans (s14.trans s15)
      have s515 := s511.trans (s12.trans s1215)
      exact k p15 t1 t2 t3 Dv (pr 0) (pr 1) (pr 2) top _ (sb5.trans (sbut s515)) (.inr ⟨od, s515 _ _ hd5⟩) upd_same (s1215 _ _ b1) (s1215 _ _ b2) (s1215 _ _ b3)
        ⟨hN5, hG, fun a _ x hx hfa => by
          obtain ⟨v, ⟨q, q1, q2, q3, q4⟩, h2⟩ := hA5 x hx
          exact ⟨q, q1, q2, q3, by rw [q4, ← hfa]; exact h2⟩, hB5⟩
end
end Lk

set_option Elab.async false
set_option linter.all false
set_option maxRecDepth 100000
set_option maxHeartbeats 4000000
/-! LkJ: why the law's tests all pass. -/
namespace Lk
theorem fit_blank {n : Nat} (x : Pat) : Fit x (blank n) := fun i hi => by
  have := gt_mem (p := blank n) (i := i) hi
  exact .inl (List.eq_of_mem_replicate this)
theorem pk_le {c : Nat × Nat} (h : c.1 ≤ 6 ∧ c.2 ≤ 6) (a : Int) : pk a c ≤ 6 := by
  unfold pk
  split
  · exact h.1
  · exact h.2
/-- what the law asks of one answer's walk -/
structure Jn (f : Pat → Int) (n D : Nat) (c b : Nat × Nat) (a : Int) (t : Tr) (r : Nat) : Prop where
  snd : Snd n t
  deep : dep t ≤ 6
  cnt : cnt t < 400
  right : ∀ x ∈ ins n, (pth t x).2 = f x
  least : D ≤ dep t
  far : ∀ x, (pth t x).1.length ≤ r * pk a c
  ex : ∃ x ∈ ins n, (pth t x).1.length = dep t
  r1 : r ≤ pk (1 - a) c
  r2 : r ≤ pk (1 - a) b
  zero : r = 0 ↔ D = 0
theorem joined {f : Pat → Int} {n D : Nat} {c b : Nat × Nat} (hf : Bi f) (hn : n ≤ 6) (N : NumOk f n D c b) {a : Int} (ha : a = 0 ∨ a = 1) : Jn f n D c b a (wlk f n a).1 (wlk f n a).2 := by
  have hw : Wai (blank n) [] := ⟨List.nodup_nil, fun i hi => nomatch hi⟩
  have ho := opn_le (blank n)
  have hl : (blank n).length = n := List.length_replicate
  have hk : (opn (blank n)).length < 7 := by omega
  have hm := blank_mem n
  have W : Wf f n (blank n) (wlk f n a).1 := walk_wf hf ha hm hw hk
  obtain ⟨z1, z2⟩ := W.size
  have hfar : ∀ x, (pth (wlk f n a).1 x).1.length ≤ (wlk f n a).2 * pk a c := fun x => by
    have := walk_len hf ha (N.cok a ha) (k := 7) hm hw hk x
    rw [List.length_nil, Nat.zero_add] at this
    exact this
  have hdeep : ∃ x ∈ ins n, (pth (wlk f n a).1 x).1.length = dep (wlk f n a).1 := by
    obtain ⟨x, hx, _, e⟩ := W.deep hm
    exact ⟨x, hx, e⟩
  have hD := N.good.2.2 _ W
  have hpow : 2 ^ ((opn (blank n)).length + 1) ≤ 2 ^ 7 := Nat.pow_le_pow_right (by decide) (by omega)
  have hblk : 0 < (wlk f n a).2 → ∃ x ∈ ins n, f x = 1 - a ∧ ∃ Bs, Apart f n x Bs ∧ Bs.length = (wlk f n a).2 := fun h0 => by
    obtain ⟨x, hx, _, hfx, Bs, hA, hB, _⟩ := walk_blocks hf ha (k := 7) hm hw hk h0
    refine ⟨x, hx, ?_, Bs, hA, hB⟩
    have := hf x
    omega
  refine ⟨W.sound hm, by omega, by omega, fun x hx => W.right hf hm x hx (fit_blank x), hD, hfar, hdeep, ?_, ?_, ?_, ?_⟩
  · by_cases h0 : 0 < (wlk f n a).2
    · obtain ⟨x, hx, hfx, Bs, hA, hB⟩ := hblk h0
      obtain ⟨q, hq, hxq, hqs, hle⟩ := N.cok (1 - a) (bit_neg ha) x hx hfx
      have := hA.le_siz hf hx hq hxq hqs
      omega
    · omega
  · by_cases h0 : 0 < (wlk f n a).2
    · obtain ⟨x, hx, hfx, Bs, hA, hB⟩ := hblk h0
      have := N.bok x hx Bs hA
      rw [hfx] at this
      omega
    · omega
  · intro h0
    obtain ⟨x, hx, e⟩ := hdeep
    have := hfar x
    rw [h0, Nat.zero_mul] at this
    omega
  · intro h0
    have hst : st f n (blank n) ≠ none := fun e => by
      have := N.good.2.1 e
      omega
    cases e : st f n (blank n) with
    | none => exact absurd e hst
    | some v =>
      show (walk (st f n) (lea f n a) 7 (blank n) []).2 = 0
      rw [walk_leaf e]
theorem mul_chain {D F r x y : Nat} (h1 : D ≤ F) (h2 : F ≤ r * x) (h3 : r ≤ y) : D ≤ y * x := Nat.le_trans h1 (Nat.le_trans h2 (Nat.mul_le_mul_right _ h3))
theorem tests {f : Pat → Int} {n D : Nat} {c b : Nat × Nat} (hf : Bi f) (hn : n ≤ 6) (N : NumOk f n D c b) : D ≤ c.1 * c.2 ∧ D ≤ c.2 * b.1 ∧ D ≤ c.1 * b.2 := by
  have j0 := joined hf hn N (a := 0) (.inl rfl)
  have j1 := joined hf hn N (a := 1) (.inr rfl)
  obtain ⟨x0, _, e0⟩ := j0.ex
  obtain ⟨x1, _, e1⟩ := j1.ex
  have f0 := j0.far x0
  have f1 := j1.far x1
  rw [e0] at f0
  rw [e1] at f1
  have p0 : pk 0 c = c.1 := rfl
  have p1 : pk 1 c = c.2 := rfl
  have q0 : pk (1 - 0) c = c.2 := rfl
  have q1 : pk (1 - 0) b = b.2 := rfl
  have q2 : pk (1 - 1) b = b.1 := rfl
  have a1 := mul_chain j0.least f0 j0.r1
  have a2 := mul_chain j1.least f1 j1.r2
  have a3 := mul_chain j0.least f0 j0.r2
  rw [p0, q0] at a1
  rw [p1, q2] at a2
  rw [p0, q1] at a3
  refine ⟨?_, ?_, ?_⟩
  · rw [Nat.mul_comm]; exact a1
  · rw [Nat.mul_comm]; exact a2
  · rw [Nat.mul_comm]; exact a3
end Lk

set_option Elab.async false
set_option linter.all false
set_option maxRecDepth 100000
set_option maxHeartbeats 4000000
/-! LkW21: the law. -/
namespace Lk
open PySem PySem.Spec PyProof.Rows L2
theorem many_ix {K : PySem.W.Frag} {H : Hp} {l : Addr} {e : Nat} {Q : VK} (he : e < 8) (h : SqL K H l [.int 0, .int 1, .int 2, .int 3, .int 3, .int 4, .int 4, .int 5]) (q : ∀ n : Nat, n ≤ 6 → Q (.int (n : Nat)) H) : rIxL K (.ref l) (.int (e : Nat)) H Q := by
  have hc : e = 0 ∨ e = 1 ∨ e = 2 ∨ e = 3 ∨ e = 4 ∨ e = 5 ∨ e = 6 ∨ e = 7 := by omega
  rcases hc with rfl | rfl | rfl | rfl | rfl | rfl | rfl | rfl
  · exact ⟨l, _, 0, _, rfl, rfl, h, atI_nat (j := 0) rfl, q 0 (by decide)⟩
  · exact ⟨l, _, 1, _, rfl, rfl, h, atI_nat (j := 1) rfl, q 1 (by decide)⟩
  · exact ⟨l, _, 2, _, rfl, rfl, h, atI_nat (j := 2) rfl, q 2 (by decide)⟩
  · exact ⟨l, _, 3, _, rfl, rfl, h, atI_nat (j := 3) rfl, q 3 (by decide)⟩
  · exact ⟨l, _, 4, _, rfl, rfl, h, atI_nat (j := 4) rfl, q 3 (by decide)⟩
  · exact ⟨l, _, 5, _, rfl, rfl, h, atI_nat (j := 5) rfl, q 4 (by decide)⟩
  · exact ⟨l, _, 6, _, rfl, rfl, h, atI_nat (j := 6) rfl, q 4 (by decide)⟩
  · exact ⟨l, _, 7, _, rfl, rfl, h, atI_nat (j := 7) rfl, q 5 (by decide)⟩
theorem small_mul {x : Nat} (h : x ≤ 6) : -(2 ^ 64 : Int) < (x : Nat) ∧ ((x : Nat) : Int) < 2 ^ 64 := by omega
theorem rdLst {H H' : Hp} {d b : Addr} {kvs : List (Key × V)} {l : List V} (h : Rd H d (.dK kvs)) (s : SameBut b H H') (hb : H b = some (.lst l)) : Rd H' d (.dK kvs) := by
  have hne : d ≠ b := fun e => by
    rw [e] at h
    rcases h with h | ⟨o, h⟩ <;> rw [hb] at h <;> cases h
  rcases h with h | ⟨o, h⟩
  · exact .inl (s _ _ hne h)
  · exact .inr ⟨o, s _ _ hne h⟩
theorem tupLst {H H' : Hp} {t b : Addr} {xs l : List V} (h : H t = some (.tup xs)) (s : SameBut b H H') (hb : H b = some (.lst l)) : H' t = some (.tup xs) :=
  s _ _ (fun e => by rw [e, hb] at h; cases h) h
theorem BagAt.lst {H : Hp} {b : Addr} {av : List Addr} (h : BagAt H b av) : ∃ l, H b = some (.lst l) := by
  obtain ⟨l, s, u, c, ns, h1, _⟩ := h
  exact ⟨_, h1⟩
section
variable {P : Program} {w : World} {K : PySem.W.Frag} {mg : Str → Option Value} {base : Heap}
def spLaw (K : PySem.W.Frag) : Sp := fun vs H Q _ => ∃ (a : Addr) (ns : List Int), vs = [.ref a] ∧ SqL K H a (ns.map V.int) ∧ ns.length ≤ 63 ∧ ∀ H', Q (.bl true) H'
theorem sc_law : FnScope ["_law_script", "_law_bag_here", "_law_k", "_law_many", "_law_table_here", "_law_worths_here", "_law_question", "_law_most", "_law_settle", "_law_turn", "_law_apart", "_law_top", "_law_answer", "_law_tree", "_law_rounds", "_law_farthest", "_law_text"] ["_law_script"] (defScope s_law) := ⟨rfl, rfl, rfl, by decide +kernel, rfl, by decide +kernel, by decide +kernel⟩
theorem ok_law (T : TX K mg) (B : BX P w K mg base) {fa : Addr} {fd : FuncData} (F : FunD K "law" "law" (defArgs s_law) (defBody s_law) (defScope s_law) [] [] fa fd) (C_law_bag : Cal P w K mg base 1 "_law_bag" (spBag K)) (C_law_draw : Cal P w K mg base 1 "_law_draw" (spDraw K))
    (C_law_table : Cal P w K mg base 4 "_law_table" spTable) (C_law_worths : Cal P w K mg base 3 "_law_worths" spWorths) (C_law_numbers : Cal P w K mg base 5 "_law_numbers" spNumbers) (C_law_mixed : Cal P w K mg base 2 "_law_mixed" (spMixed K))
    (C_rounds_tree : Cal P w K mg base 16 "rounds_tree" (spTree K)) (C_most_rounds : Cal P w K mg base 16 "most_rounds" (spMost K)) (C_law_is_right : Cal P w K mg base 3 "_law_is_right" spRight) (C_law_is_whole : Cal P w K mg base 1 "_law_is_whole" spWhole)
    (C_law_inputs : Cal P w K mg base 2 "_law_inputs" spInputs) (C_law_path : Cal P w K mg base 1 "_law_path" spPath) : FnOk P w K mg base CX0 30 fa fd ["_law_script"] (spLaw K) := by
  refine mkFn F sc_law (fun vs H Q E h => ?_) (fun cdv A outer s H vs Q E hr h => ?_)
  · obtain ⟨a, ns, rfl, _⟩ := h; rfl
  obtain ⟨a, ns, rfl, hS, _, k⟩ := h
  refine ⟨_, (pss_cons (ps_set (i := 1) sc_law.nd rfl (Or.inl rfl) (pe_c C_law_bag (by exact hr) (by decide) (by rfl) (pa_cons (pv 0) pa_nil)))
      (pss_cons (ps_for PassesOwn.never rfl (pi_range1 (by rfl) T.f_range (pa_cons pe_int pa_nil)) (pg_name (i := 2) sc_law.nd rfl (Or.inl rfl) (Or.inr rfl)) (pss_cons (ps_set (i := 3) sc_law.nd rfl (Or.inl rfl) (pe_ix ix_list (pe_lst (pa_cons pe_int (pa_cons pe_int (pa_cons pe_int (pa_cons pe_int (pa_cons pe_int (pa_cons pe_int (pa_cons pe_int (pa_cons pe_int pa_nil))))))))) (pe_c C_law_draw (by exact hr) (by decide) (by rfl) (pa_cons (pv 1) (pa_cons pe_int pa_nil))) (by intro _ _; rfl)))
      (pss_cons (ps_set (i := 4) sc_law.nd rfl (Or.inl rfl) (pe_c C_law_table (by exact hr) (by decide) (by rfl) (pa_cons (pv 1) (pa_cons (pv 3) pa_nil))))
      (pss_cons (ps_set (i := 5) sc_law.nd rfl (Or.inl rfl) (pe_c C_law_worths (by exact hr) (by decide) (by rfl) (pa_cons (pv 4) pa_nil)))
      (pss_cons (ps_set (i := 6) sc_law.nd rfl (Or.inl rfl) (pe_makeQ T B (by exact hr) (by decide) (by rfl) 4 (by rfl) (by exact Or.inl rfl)))
      (pss_cons (ps_asg (pe_c C_law_numbers (by exact hr) (by decide) (by rfl) (pa_cons (pv 5) (pa_cons (pv 3) pa_nil))) (pg_unl rfl (pgs_cons (pg_name (i := 7) sc_law.nd rfl (Or.inl rfl) (Or.inr rfl)) (pgs_cons (pg_name (i := 8) sc_law.nd rfl (Or.inl rfl) (Or.inr rfl)) (pgs_cons (pg_name (i := 9) sc_law.nd rfl (Or.inl rfl) (Or.inr rfl)) (pgs_cons (pg_name (i := 10) sc_law.nd rfl (Or.inl rfl) (Or.inr rfl)) (pgs_cons (pg_name (i := 11) sc_law.nd rfl (Or.inl rfl) (Or.inr rfl)) pgs_nil)))))))
      (pss_cons (ps_if (PW.pt (pw_or (pt_cmpR op_gt (pv 7) (pe_op op_mul (pe_ix ix_tup (pv 8) pe_int (by intro _ _; rfl)) (pe_ix ix_tup (pv 8) pe_int (by intro _ _; rfl))) (nomark _)) (pw_or1 (pt_cmpR op_gt (pv 7) (pe_op op_mul (pe_ix ix_tup (pv 8) pe_int (by intro _ _; rfl)) (pe_ix ix_tup (pv 10) pe_int (by intro _ _; rfl))) (nomark _))))) (pss_one (ps_ret pe_bl)) pss_nil)
      (pss_cons (ps_if (pt_cmpR op_gt (pv 7) (pe_op op_mul (pe_ix ix_tup (pv 8) pe_int (by intro _ _; rfl)) (pe_ix ix_tup (pv 10) pe_int (by intro _ _; rfl))) (nomark _)) (pss_one (ps_ret pe_bl)) pss_nil)
      (pss_one (ps_for PassesOwn.never rfl (pi_list (pe_c C_law_mixed (by exact hr) (by decide) (by rfl) (pa_cons (pv 1) (pa_cons (pe_lst (pa_cons pe_int (pa_cons pe_int pa_nil))) pa_nil)))) (pg_name (i := 12) sc_law.nd rfl (Or.inl rfl) (Or.inr rfl)) (pss_cons (ps_set (i := 13) sc_law.nd rfl (Or.inr rfl) (pe_c C_rounds_tree (by exact hr) (by decide) (by rfl) (pa_cons (pv 6) (pa_cons (pv 12) pa_nil))))
      (pss_cons (ps_set (i := 14) sc_law.nd rfl (Or.inl rfl) (pe_c C_most_rounds (by exact hr) (by decide) (by rfl) (pa_cons (pv 6) (pa_cons (pv 12) pa_nil))))
      (pss_cons (ps_if (PW.pt (pw_or (pt_not (pt_val (pe_c C_law_is_right (by exact hr) (by decide) (by rfl) (pa_cons (pv 5) (pa_cons (pv 13) (pa_cons (pv 3) pa_nil)))))) (pw_or1 (pt_not (pt_val (pe_c C_law_is_whole (by exact hr) (by decide) (by rfl) (pa_cons (pv 14) pa_nil))))))) (pss_one (ps_ret pe_bl)) pss_nil)
      (pss_cons (ps_if (PW.pt (pw_or (pt_cmpR op_gt (pv 14) (pe_ix ix_tup (pv 8) (pe_op op_sub pe_int (pv 12)) (by intro _ _; rfl)) (nomark _)) (pw_or1 (pt_cmpR op_gt (pv 14) (pe_ix ix_tup (pv 10) (pe_op op_sub pe_int (pv 12)) (by intro _ _; rfl)) (nomark _))))) (pss_one (ps_ret pe_bl)) pss_nil)
      (pss_cons (ps_set (i := 15) sc_law.nd rfl (Or.inl rfl) (pe_callB (cr_max rfl) (by rfl) T.f_max (by decide +kernel) (pa_cons (pe_lc (own := [("_law_text", 16)]) rfl sc_law.nd (pi_list (pe_c C_law_inputs (by exact hr) (by decide) (by rfl) (pa_cons (pv 3) pa_nil))) (blkOk_by (own := [("_law_text", 16)]) (N := ["_law_script", "_law_bag_here", "_law_k", "_law_many", "_law_table_here", "_law_worths_here", "_law_question", "_law_most", "_law_settle", "_law_turn", "_law_apart", "_law_top", "_law_answer", "_law_tree", "_law_rounds", "_law_farthest", "_law_text"]) (sc := defScope s_law) (by decide +kernel)) (fun _ _ _ _ _ => (pg_name (i := 16) sc_law.nd rfl (Or.inl rfl) (Or.inr rfl))) (fun _ _ _ _ _ => pts_nil) (fun _ _ _ _ _ => (pe_callB (call_len_seqK (K := K)) (by rfl) T.f_len PySem.boot_len (pa_cons (pe_ix (ix_tupK (K := K)) (pe_c C_law_path (by exact hr) (by decide) (by rfl) (pa_cons (pv 13) (pa_cons (pv 16) pa_nil))) pe_int (by intro _ _; rfl)) pa_nil)))) pa_nil)))
      (pss_cons (ps_if (PW.pt (pw_or (pt_cmpR op_gt (pv 15) (pe_op op_mul (pv 14) (pe_ix ix_tup (pv 8) (pv 12) (by intro _ _; rfl))) (nomark _)) (pw_or1 (pt_cmpR op_lt (pv 15) (pv 7) (nomark _))))) (pss_one (ps_ret pe_bl)) pss_nil)
      (pss_one (ps_if (pt_cmpR op_ne (pe_callTy call_int1 (by rfl) T.f_int (by decide +kernel) (pa_cons (pe_cmpR op_eq (pv 14) pe_int (nomark _)) pa_nil)) (pe_callTy call_int1 (by rfl) T.f_int (by decide +kernel) (pa_cons (pe_cmpR op_eq (pv 7) pe_int (nomark _)) pa_nil)) (nomark _)) (pss_one (ps_ret pe_bl)) pss_nil))))))))))))))))))
      (pss_one (ps_ret pe_bl)))), ?_⟩
  refine ⟨_, rfl, a, ns, rfl, hS, fun b H1 s1 bag1 b0 => ?_⟩
  refine ⟨_, rfl, by decide, by decide, for_it (walk_rg (n := 2)) (fun i σ H' => ∃ (v2 v3 v4 v5 v6 v7 v8 v9 v10 v11 v12 v13 v14 v15 v16 : Option V), σ = [some (.ref a), some (.ref b), v2, v3, v4, v5, v6, v7, v8, v9, v10, v11, v12, v13, v14, v15, v16] ∧ BagAt H' b [])
    ⟨_, _, _, _, _, _, _, _, _, _, _, _, _, _, _, rfl, bag1⟩ (fun _ _ _ _ _ => trivial) ?_ ?_⟩
  · rintro i y σ H0 H2 hi ⟨v2, v3, v4, v5, v6, v7, v8, v9, v10, v11, v12, v13, v14, v15, v16, rfl, bag2⟩ ⟨rfl, rfl⟩
    refine ⟨by show 8 ≤ sizeLine; decide, fun l3 hl3 => ?_⟩
    have hl3b : l3 ≠ b := fun e => bag2.ne (e ▸ hl3)
    refine ⟨_, rfl, b, 8, [], rfl, by decide, by decide, bag2.same (same_new hl3 _), (fun a ha => nomatch ha), fun e3 H3 he3 sb3 bag3 => many_ix he3 (SqL.of (sb3 _ _ hl3b upd_same)) fun n hn => ?_⟩
    refine ⟨_, rfl, _, rfl, b, n, rfl, hn, bag3, fun tb H4 htl hbits sb4 bag4 => ?_⟩
    refine ⟨_, rfl, tb, n, rfl, hn, htl, hbits, fun d H5 s5 d0 hd5 => ?_⟩
    refine ⟨_, rfl, tb, n, rfl, hn, htl, hbits, fun q H6 s6 q0 hq6 => ?_⟩
    have hf := wf_bi n tb
    generalize wf n tb = f at hd5 hq6 hf
    have hd6 := s6 _ _ hd5
    have bag6 : BagAt H6 b [] := (bag4.same s5).same s6
    refine ⟨_, rfl, _, rfl, d, f, n, rfl, hd6, hf, hn, fun r7 t1 t2 t3 D c sg bb top H7 sb7 rd7 hr7 ht1 ht2 ht3 N => ?_⟩
    have hq7 := hq6.lock sb7 hd6 rd7
    have bag7 : BagAt H7 b [] := by
      obtain ⟨l, s, u, c, ns, g1, g2, g3, g4⟩ := bag6
      exact ⟨l, s, u, c, ns, sb7 _ _ (fun e => by rw [e, hd6] at g1; cases g1) g1, sb7 _ _ (fun e => by rw [e, hd6] at g2; cases g2) g2, g3, g4⟩
    refine ⟨r7, _, rfl, SqL.of hr7, rfl, _, _, rfl, _, _, rfl, _, _, rfl, _, _, rfl, _, _, rfl, rfl, ?_⟩
    obtain ⟨T1, T2, T3⟩ := tests hf hn N
    have m1 : ((D : Nat) : Int) ≤ (c.1 : Nat) * (c.2 : Nat) := by rw [← Int.natCast_mul]; omega
    have m2 : ((D : Nat) : Int) ≤ (c.2 : Nat) * (bb.1 : Nat) := by rw [← Int.natCast_mul]; omega
    have m3 : ((D : Nat) : Int) ≤ (c.1 : Nat) * (bb.2 : Nat) := by rw [← Int.natCast_mul]; omega
    refine ⟨_, rfl, _, rfl, t1, _, 0, _, rfl, rfl, SqT.of ht1, atI_nat (j := 0) rfl, _, rfl, t1, _, 1, _, rfl, rfl, SqT.of ht1, atI_nat (j := 1) rfl, _, _, rfl, rfl, .inl (small_mul N.bnd.1), _, _, rfl, rfl, _, rfl, ?_⟩
    rw [decide_eq_false (p := ((c.1 : Nat) : Int) * (c.2 : Nat) < (D : Nat)) (by omega)]
    refine iteF ?_
    refine ⟨_, rfl, _, rfl, t1, _, 1, _, rfl, rfl, SqT.of ht1, atI_nat (j := 1) rfl, _, rfl, t3, _, 0, _, rfl, rfl, SqT.of ht3, atI_nat (j := 0) rfl, _, _, rfl, rfl, .inl (small_mul N.bnd.2), _, _, rfl, rfl, _, rfl, ?_⟩
    rw [decide_eq_false (p := ((c.2 : Nat) : Int) * (bb.1 : Nat) < (D : Nat)) (by omega)]
    refine iteF ?_
    refine ⟨_, rfl, _, rfl, t1, _, 0, _, rfl, rfl, SqT.of ht1, atI_nat (j := 0) rfl, _, rfl, t3, _, 1, _, rfl, rfl, SqT.of ht3, atI_nat (j := 1) rfl, _, _, rfl, rfl, .inl (small_mul N.bnd.1), _, _, rfl, rfl, _, rfl, ?_⟩
    rw [decide_eq_false (p := ((c.1 : Nat) : Int) * (bb.2 : Nat) < (D : Nat)) (by omega)]
    refine iteF ?_
    refine ⟨_, rfl, by show 2 ≤ sizeLine; decide, fun l8 hl8 => ?_⟩
    have s8 := same_new hl8 (.lst [V.int 0, V.int 1])
    have bag8 := bag7.same s8
    have hl8b : l8 ≠ b := fun e => bag7.ne (e ▸ hl8)
    refine ⟨b, l8, [.int 0, .int 1], [], rfl, bag8, (fun a ha => nomatch ha), SqL.of upd_same, hl8b, by decide, fun r9 ys H9 sb9 bag9 r90 hr9b pm hr9 => ⟨r9, rfl, ⟨_, SqL.of hr9⟩, ?_⟩⟩
    obtain ⟨lb, hlb⟩ := bag8.lst
    have hq9 := (hq7.same s8).lst sb9 hlb
    have rd9 := rdLst (srd s8 rd7) sb9 hlb
    have ht19 := tupLst (s8 _ _ ht1) sb9 hlb
    have ht39 := tupLst (s8 _ _ ht3) sb9 hlb
    refine for_it (walk_list (xs := ys)) (fun j σ H' => ∃ (v2 v12 v13 v14 v15 v16 : Option V), σ = [some (.ref a), some (.ref b), v2, some (.int (n : Nat)), some (vt tb), some (.ref d), some (.ref q), some (.int (D : Nat)), some (.ref t1), some (.ref t2), some (.ref t3), some (.int top), v12, v13, v14, v15, v16] ∧ Same H9 H')
      ⟨_, _, _, _, _, _, rfl, Same.refl _⟩ (fun j σ H' _ z => by obtain ⟨_, _, _, _, _, _, _, z⟩ := z; exact SqL.of (z _ _ hr9)) ?_ ?_
    · rintro j y σ H0 H10 hj ⟨v2, v12, v13, v14, v15, v16, rfl, s10⟩ ⟨rfl, e⟩
      have hya : ∃ an : Int, y = .int an ∧ (an = 0 ∨ an = 1) := by
        have := pm.subset (List.mem_of_getElem? e)
        rcases List.mem_cons.mp this with h | h
        · exact ⟨0, h, .inl rfl⟩
        · exact ⟨1, List.mem_singleton.mp h, .inr rfl⟩
      obtain ⟨an, rfl, han⟩ := hya
      have J := joined hf hn N han
      refine ⟨_, rfl, _, rfl, q, f, n, an, rfl, hq9.same s10, hf, hn, han, fun tv H11 s11 ht11 => ?_⟩
      refine ⟨_, rfl, _, rfl, q, f, n, an, rfl, hq9.same (s10.trans s11), hf, hn, han, fun H12 s12 => ?_⟩
      generalize (wlk f n an).1 = t at J ht11
      generalize (wlk f n an).2 = r at J
      have s912 := s10.trans (s11.trans s12)
      have ht12 := ht11.same s12
      refine ⟨_, rfl, _, rfl, _, rfl, d, tv, t, n, f, rfl, srd s912 rd9, hn, ht12, J.snd, J.deep, J.cnt, J.right, fun H13 s13 => ⟨true, rfl, iteF ⟨_, rfl, (r : Nat), rfl, true, rfl, iteF ?_⟩⟩⟩
      have s913 := s912.trans s13
      have ht13 := s913 _ _ ht19
      have ht33 := s913 _ _ ht39
      have htt := ht12.same s13
      have r1 := J.r1
      have r2 := J.r2
      refine ⟨_, rfl, _, rfl, _, rfl, _, _, rfl, rfl, t1, _, _, _, rfl, rfl, SqT.of ht13, at_two (bit_neg han) c, _, _, rfl, rfl, _, rfl, ?_⟩
      rw [decide_eq_false (p := ((pk (1 - an) c : Nat) : Int) < (r : Nat)) (by omega)]
      refine iteF ?_
      refine ⟨_, rfl, _, rfl, _, rfl, _, _, rfl, rfl, t3, _, _, _, rfl, rfl, SqT.of ht33, at_two (bit_neg han) bb, _, _, rfl, rfl, _, rfl, ?_⟩
      rw [decide_eq_false (p := ((pk (1 - an) bb : Nat) : Int) < (r : Nat)) (by omega)]
      refine iteF ?_
      refine ⟨_, rfl, n, rfl, hn, fun r14 H14 s14 r140 hr14 => ⟨r14, rfl, ⟨_, SqL.of hr14⟩, fun D15 hD15 => ?_⟩⟩
      have hil : (ins n).length ≤ 64 := by rw [length_ins]; exact Nat.pow_le_pow_right (n := 2) (by decide) hn
      refine lc_new (walk_list (xs := (ins n).map vt)) hD15 (fun i => ((ins n).take i).map fun x => .int ((pth t x).1.length : Nat)) rfl (fun i hi => ?_) (fun H' s' => SqL.of (s' _ _ hr14)) (fun i y H0 H' K1 K0 hi s15 y k1 k0 => ?_) (fun H15 s15 h15 => ?_)
      · rw [List.length_map, List.length_take]; omega
      · obtain ⟨rfl, e⟩ := y
        rw [List.getElem?_map] at e
        obtain ⟨x, hx, rfl⟩ := Option.map_eq_some_iff.mp e
        have hxm := List.mem_of_getElem? hx
        refine ⟨rfl, yes ⟨_, rfl, _, rfl, tv, x, t, n, rfl, hn, hxm, htt.same (s14.trans s15), J.snd, J.deep, fun r4 l4 H4 s4 hr4 hl4 => ⟨r4, _, 0, _, rfl, rfl, SqT.of hr4, atI_nat (j := 0) rfl, l4, _, rfl, .inl (SqL.of hl4), k1 _ _ s4 ?_⟩⟩⟩
        rw [take_snoc hx, List.map_append, iv_len]; rfl
      rw [List.length_map, List.take_length] at h15
      have s915 := s913.trans (s14.trans s15)
      refine ⟨D15, (ins n).map fun x => ((pth t x).1.length : Int), rfl, SqL.of (by rw [h15, List.map_map]; rfl), by rw [List.length_map, length_ins]; exact Nat.pow_pos (by decide), fun m hm hle => ?_⟩
      obtain ⟨x, hx, rfl⟩ := List.mem_map.mp hm
      have hfar := J.far x
      obtain ⟨x2, hx2, ex2⟩ := J.ex
      have hge := hle _ (List.mem_map.mpr ⟨x2, hx2, rfl⟩)
      have hleast := J.least
      have m4 : (((pth t x).1.length : Nat) : Int) ≤ (r : Nat) * (pk an c : Nat) := by rw [← Int.natCast_mul]; omega
      refine ⟨_, rfl, _, rfl, _, rfl, _, rfl, t1, _, an, _, rfl, rfl, SqT.of (s915 _ _ ht19), at_two han c, _, _, rfl, rfl, .inr (small_mul (pk_le N.bnd an)), _, _, rfl, rfl, _, rfl, ?_⟩
      rw [decide_eq_false (p := ((r : Nat) : Int) * (pk an c : Nat) < ((pth t x).1.length : Nat)) (by omega)]
      refine iteF ?_
      refine ⟨_, rfl, _, rfl, _, _, rfl, rfl, _, rfl, ?_⟩
      rw [decide_eq_false (p := (((pth t x).1.length : Nat) : Int) < (D : Nat)) (by omega)]
      refine iteF ?_
      refine ⟨_, rfl, rfl, .inr ⟨_, rfl, _, rfl, rfl, .inr ⟨_, rfl, rfl, _, rfl, ?_⟩⟩⟩
      have hz := J.zero
      have ez : decide (V.int (r : Nat) = V.int 0) = decide (V.int (D : Nat) = V.int 0) := by
        rw [dec_i, dec_i]
        by_cases c : r = 0
        · rw [decide_eq_true (p := ((r : Nat) : Int) = 0) (by omega), decide_eq_true (p := ((D : Nat) : Int) = 0) (by have := hz.mp c; omega)]
        · rw [decide_eq_false (p := ((r : Nat) : Int) = 0) (by omega), decide_eq_false (p := ((D : Nat) : Int) = 0) (fun e => c (hz.mpr (by omega)))]
      rw [ez, decide_eq_true rfl]
      exact iteF ⟨_, _, _, _, _, _, rfl, s915⟩
    · rintro σ H10 ⟨v2, v12, v13, v14, v15, v16, rfl, s10⟩
      exact ⟨_, _, _, _, _, _, _, _, _, _, _, _, _, _, _, rfl, (bag9.less (av' := []) (by intro a ha; cases ha)).same s10⟩
  · rintro σ H2 ⟨v2, v3, v4, v5, v6, v7, v8, v9, v10, v11, v12, v13, v14, v15, v16, rfl, bag2⟩
    exact k H2
end
end Lk

set_option Elab.async false
set_option linter.all false
set_option maxRecDepth 100000
set_option maxHeartbeats 0
/-! LkEnd: the facts that the head tells; the end. -/
namespace Lk
open PySem PySem.Spec PyProof.Rows L2
section
variable {K : PySem.W.Frag} {h : Heap} {mg : Str → Option Value}
theorem mkDF (X : K.In h) (G : h.Ns mainGlobals mg) (c : SaysX tstL faL fnL K) (i : Nat) {x : Str} {st : Stmt} (h1 : fnL[i]? = some (gd x st)) (h2 : faL[i]? = some (.glo x)) : DF K mg x st := by
  obtain ⟨fd, F⟩ := c.def_ i h1
  exact ⟨He.ga K x, fd, F, He.glo_ok X G (c.fact i h2)⟩
theorem mkTX (X : K.In h) (G : h.Ns mainGlobals mg) (c : SaysX tstL faL fnL K) : TX K mg := by
  obtain ⟨t1, t2⟩ := He.ba c.test
  obtain ⟨t2, t3⟩ := He.ba t2
  obtain ⟨t3, t4⟩ := He.ba t3
  obtain ⟨u1, e1⟩ := He.int_ok X G (c.fact 70 (f := .int "MOST" 6) rfl)
  obtain ⟨u2, e2⟩ := He.str_ok X G (c.fact 71 (f := .str "BITS" "01") rfl)
  obtain ⟨u3, e3⟩ := He.str_ok X G (c.fact 72 (f := .str "SIGNS" "-01") rfl)
  refine {
    f_isinstance := He.free_ok X G (c.fact 53 (f := .free "isinstance") rfl)
    f_len := He.free_ok X G (c.fact 54 (f := .free "len") rfl)
    f_all := He.free_ok X G (c.fact 55 (f := .free "all") rfl)
    f_any := He.free_ok X G (c.fact 56 (f := .free "any") rfl)
    f_range := He.free_ok X G (c.fact 57 (f := .free "range") rfl)
    f_enumerate := He.free_ok X G (c.fact 58 (f := .free "enumerate") rfl)
    f_sorted := He.free_ok X G (c.fact 59 (f := .free "sorted") rfl)
    f_max := He.free_ok X G (c.fact 60 (f := .free "max") rfl)
    f_min := He.free_ok X G (c.fact 61 (f := .free "min") rfl)
    f_abs := He.free_ok X G (c.fact 62 (f := .free "abs") rfl)
    f_int := He.free_ok X G (c.fact 63 (f := .free "int") rfl)
    f_str := He.free_ok X G (c.fact 64 (f := .free "str") rfl)
    f_bool := He.free_ok X G (c.fact 65 (f := .free "bool") rfl)
    f_list := He.free_ok X G (c.fact 66 (f := .free "list") rfl)
    f_tuple := He.free_ok X G (c.fact 67 (f := .free "tuple") rfl)
    f_dict := He.free_ok X G (c.fact 68 (f := .free "dict") rfl)
    f_zip := He.free_ok X G (c.fact 69 (f := .free "zip") rfl)
    cMOST := ⟨_, e1, ⟨u1, rfl⟩⟩
    cBITS := ⟨_, e2, ⟨u2, by rw [t01]⟩⟩
    cSIGNS := ⟨_, e3, ⟨u3, by rw [tm01]⟩⟩
    cSIZES := ⟨_, He.glo_ok X G (c.fact 73 (f := .glo "SIZES") rfl), rfl⟩
    sizes := fun H => He.tupB_ok t3 H
    tyS := tupN_ok t4
    cl := He.cls_ok (c.fact 75 (f := .cls "Question") rfl)
    mgQ := He.glo_ok X G (c.fact 74 (f := .glo "Question") rfl)
    mkQ := He.mkr_ok (c.fact 76 (f := .mkr "Question") rfl)
    n1 := He.noat_ok (c.fact 77 (f := .noat "Question" "kept_table") rfl)
    n2 := He.noat_ok (c.fact 78 (f := .noat "Question" "kept_many") rfl)
    n3 := He.noat_ok (c.fact 79 (f := .noat "Question" "answer_of") rfl)
    n4 := He.noat_ok (c.fact 80 (f := .noat "Question" "yes") rfl)
    prop := propB_ok t1
    callO := callB_ok t2 }
end
theorem facts {P : Program} {w : World} {K : PySem.W.Frag} {h : Heap} {mg : Str → Option Value} {f : Addr} (X : K.In h) (G : h.Ns mainGlobals mg) (hfa : mg ("law" : Str) = some (.ref f)) (c : SaysX tstL faL fnL K) :
    ∃ fd : FuncData, (∀ (s : Shared) (v : Value), BindsTo s fd ⟨[v], []⟩ [("_law_script", v)]) ∧ ∀ base : Heap, K.In base → base.Ns mainGlobals mg → FnOk P w K mg base CX0 30 f fd ["_law_script"] (spLaw K) := by
  have T : TX K mg := mkTX X G c
  obtain ⟨fd, F⟩ := c.def_ 52 (d := d_law) rfl
  have e := hfa.symm.trans (He.glo_ok X G (c.fact 52 (f := .glo "law") rfl))
  cases e
  obtain ⟨fi, Fi⟩ := c.def_ 53 (d := d_Qinit) rfl
  obtain ⟨fm, Fm⟩ := c.def_ 54 (d := d_Qmany) rfl
  obtain ⟨fc, Fc⟩ := c.def_ 55 (d := d_Qcall) rfl
  have b := FunD.bindsA (ps := ["_law_script"]) F fun _ _ _ _ _ _ us hl => match us, hl with | [_], _ => rfl
  refine ⟨fd, fun s v => b s [v] rfl, fun base _ _ => ?_⟩
  have D_is_table : DF K mg "is_table" s_is_table := mkDF X G c 19 rfl rfl
  have C_is_table := ok_is_table (P := P) (w := w) (base := base) T D_is_table
  have D_is_integer : DF K mg "is_integer" s_is_integer := mkDF X G c 0 rfl rfl
  have C_is_integer := ok_is_integer (P := P) (w := w) (base := base) T D_is_integer
  have D_need_count : DF K mg "need_count" s_need_count := mkDF X G c 4 rfl rfl
  have C_need_count := ok_need_count (P := P) (w := w) (base := base) T D_need_count C_is_integer
  have D_strings : DF K mg "strings" s_strings := mkDF X G c 8 rfl rfl
  have C_strings := ok_strings (P := P) (w := w) (base := base) T D_strings
  have D_inputs : DF K mg "inputs" s_inputs := mkDF X G c 9 rfl rfl
  have C_inputs := ok_inputs (P := P) (w := w) (base := base) T D_inputs C_need_count C_strings
  have D_has_signs : DF K mg "has_signs" s_has_signs := mkDF X G c 1 rfl rfl
  have C_has_signs := ok_has_signs (P := P) (w := w) (base := base) T D_has_signs
  have D_is_input : DF K mg "is_input" s_is_input := mkDF X G c 2 rfl rfl
  have C_is_input := ok_is_input (P := P) (w := w) (base := base) T D_is_input C_has_signs
  have D_need_input : DF K mg "need_input" s_need_input := mkDF X G c 6 rfl rfl
  have C_need_input := ok_need_input (P := P) (w := w) (base := base) T D_need_input C_is_input
  have B : BX P w K mg base := mkBX T Fi Fm Fc C_is_table C_inputs C_need_input
  have D_law_bag : DF K mg "_law_bag" s_law_bag := mkDF X G c 25 rfl rfl
  have C_law_bag := ok_law_bag (P := P) (w := w) (base := base) T D_law_bag
  have D_law_draw : DF K mg "_law_draw" s_law_draw := mkDF X G c 26 rfl rfl
  have C_law_draw := ok_law_draw (P := P) (w := w) (base := base) T D_law_draw
  have D_law_mixed : DF K mg "_law_mixed" s_law_mixed := mkDF X G c 27 rfl rfl
  have C_law_mixed := ok_law_mixed (P := P) (w := w) (base := base) T D_law_mixed C_law_draw
  have D_law_strings : DF K mg "_law_strings" s_law_strings := mkDF X G c 28 rfl rfl
  have C_law_strings := ok_law_strings (P := P) (w := w) (base := base) T D_law_strings
  have D_law_inputs : DF K mg "_law_inputs" s_law_inputs := mkDF X G c 29 rfl rfl
  have C_law_inputs := ok_law_inputs (P := P) (w := w) (base := base) T D_law_inputs C_law_strings
  have D_law_rule : DF K mg "_law_rule" s_law_rule := mkDF X G c 37 rfl rfl
  have C_law_rule := ok_law_rule (P := P) (w := w) (base := base) T D_law_rule C_law_mixed C_law_draw C_law_inputs
  have D_law_table : DF K mg "_law_table" s_law_table := mkDF X G c 38 rfl rfl
  have C_law_table := ok_law_table (P := P) (w := w) (base := base) T D_law_table C_law_rule C_law_draw C_law_inputs
  have D_law_worths : DF K mg "_law_worths" s_law_worths := mkDF X G c 39 rfl rfl
  have C_law_worths := ok_law_worths (P := P) (w := w) (base := base) T D_law_worths C_law_inputs
  have D_law_patterns : DF K mg "_law_patterns" s_law_patterns := mkDF X G c 30 rfl rfl
  have C_law_patterns := ok_law_patterns (P := P) (w := w) (base := base) T D_law_patterns C_law_strings
  have D_law_put : DF K mg "_law_put" s_law_put := mkDF X G c 31 rfl rfl
  have C_law_put := ok_law_put (P := P) (w := w) (base := base) T D_law_put
  have D_law_open_spots : DF K mg "_law_open_spots" s_law_open_spots := mkDF X G c 35 rfl rfl
  have C_law_open_spots := ok_law_open_spots (P := P) (w := w) (base := base) T D_law_open_spots
  have D_law_settling : DF K mg "_law_settling" s_law_settling := mkDF X G c 40 rfl rfl
  have C_law_settling := ok_law_settling (P := P) (w := w) (base := base) T D_law_settling C_law_patterns C_law_put C_law_open_spots
  have D_law_fits : DF K mg "_law_fits" s_law_fits := mkDF X G c 34 rfl rfl
  have C_law_fits := ok_law_fits (P := P) (w := w) (base := base) T D_law_fits
  have D_law_size : DF K mg "_law_size" s_law_size := mkDF X G c 36 rfl rfl
  have C_law_size := ok_law_size (P := P) (w := w) (base := base) T D_law_size
  have D_law_least_sizes : DF K mg "_law_least_sizes" s_law_least_sizes := mkDF X G c 42 rfl rfl
  have C_law_least_sizes := ok_law_least_sizes (P := P) (w := w) (base := base) T D_law_least_sizes C_law_inputs C_law_fits C_law_size
  have D_law_blocks : DF K mg "_law_blocks" s_law_blocks := mkDF X G c 43 rfl rfl
  have C_law_blocks := ok_law_blocks (P := P) (w := w) (base := base) T D_law_blocks C_law_inputs
  have D_law_flip : DF K mg "_law_flip" s_law_flip := mkDF X G c 32 rfl rfl
  have C_law_flip := ok_law_flip (P := P) (w := w) (base := base) T D_law_flip C_law_put
  have D_law_turned : DF K mg "_law_turned" s_law_turned := mkDF X G c 33 rfl rfl
  have C_law_turned := ok_law_turned (P := P) (w := w) (base := base) T D_law_turned C_law_flip
  have D_law_turning : DF K mg "_law_turning" s_law_turning := mkDF X G c 44 rfl rfl
  have C_law_turning := ok_law_turning (P := P) (w := w) (base := base) T D_law_turning C_law_blocks C_law_turned
  have D_law_most_apart : DF K mg "_law_most_apart" s_law_most_apart := mkDF X G c 45 rfl rfl
  have C_law_most_apart := ok_law_most_apart (P := P) (w := w) (base := base) T D_law_most_apart C_law_turned
  have D_law_products : DF K mg "_law_products" s_law_products := mkDF X G c 46 rfl rfl
  have C_law_products := ok_law_products (P := P) (w := w) (base := base) T D_law_products C_law_blocks C_law_inputs
  have D_law_needs : DF K mg "_law_needs" s_law_needs := mkDF X G c 41 rfl rfl
  have C_law_needs := ok_law_needs (P := P) (w := w) (base := base) T D_law_needs C_law_patterns C_law_put C_law_open_spots
  have D_law_numbers : DF K mg "_law_numbers" s_law_numbers := mkDF X G c 51 rfl rfl
  have C_law_numbers := ok_law_numbers (P := P) (w := w) (base := base) T D_law_numbers C_law_settling C_law_least_sizes C_law_turning C_law_most_apart C_law_products C_law_needs
  have D_need_bit : DF K mg "need_bit" s_need_bit := mkDF X G c 7 rfl rfl
  have C_need_bit := ok_need_bit (P := P) (w := w) (base := base) T D_need_bit C_is_integer
  have D_patterns : DF K mg "patterns" s_patterns := mkDF X G c 10 rfl rfl
  have C_patterns := ok_patterns (P := P) (w := w) (base := base) T D_patterns C_need_count C_strings
  have D_put : DF K mg "put" s_put := mkDF X G c 16 rfl rfl
  have C_put := ok_put (P := P) (w := w) (base := base) T D_put
  have D_settling_patterns : DF K mg "settling_patterns" s_settling_patterns := mkDF X G c 17 rfl rfl
  have C_settling_patterns := ok_settling_patterns (P := P) (w := w) (base := base) T B D_settling_patterns C_patterns C_put
  have D_is_pattern : DF K mg "is_pattern" s_is_pattern := mkDF X G c 3 rfl rfl
  have C_is_pattern := ok_is_pattern (P := P) (w := w) (base := base) T D_is_pattern C_has_signs
  have D_need_pattern : DF K mg "need_pattern" s_need_pattern := mkDF X G c 5 rfl rfl
  have C_need_pattern := ok_need_pattern (P := P) (w := w) (base := base) T D_need_pattern C_is_pattern
  have D_known : DF K mg "known" s_known := mkDF X G c 11 rfl rfl
  have C_known := ok_known (P := P) (w := w) (base := base) T D_known C_need_pattern
  have D_lean_patterns : DF K mg "lean_patterns" s_lean_patterns := mkDF X G c 18 rfl rfl
  have C_lean_patterns := ok_lean_patterns (P := P) (w := w) (base := base) T D_lean_patterns C_need_bit C_settling_patterns C_known C_put
  have D_need_two : DF K mg "need_two" s_need_two := mkDF X G c 14 rfl rfl
  have C_need_two := ok_need_two (P := P) (w := w) (base := base) T D_need_two C_need_pattern
  have D_differ : DF K mg "differ" s_differ := mkDF X G c 15 rfl rfl
  have C_differ := ok_differ (P := P) (w := w) (base := base) T D_differ C_need_two C_known
  have D_size : DF K mg "size" s_size := mkDF X G c 13 rfl rfl
  have C_size := ok_size (P := P) (w := w) (base := base) T D_size C_known
  have D_chosen_pattern : DF K mg "chosen_pattern" s_chosen_pattern := mkDF X G c 20 rfl rfl
  have C_chosen_pattern := ok_chosen_pattern (P := P) (w := w) (base := base) T D_chosen_pattern C_differ C_size
  have D_unknown : DF K mg "unknown" s_unknown := mkDF X G c 12 rfl rfl
  have C_unknown := ok_unknown (P := P) (w := w) (base := base) T D_unknown
  have D_round_walk : DF K mg "round_walk" s_round_walk := mkDF X G c 21 rfl rfl
  have C_round_walk : Cal P w K mg base 14 "round_walk" (spWalk K 7) := ok_round_walk T D_round_walk C_chosen_pattern C_unknown C_put 7
  have D_rounds_from : DF K mg "rounds_from" s_rounds_from := mkDF X G c 22 rfl rfl
  have C_rounds_from := ok_rounds_from (P := P) (w := w) (base := base) T B D_rounds_from C_need_bit C_lean_patterns C_settling_patterns C_round_walk
  have D_rounds_tree : DF K mg "rounds_tree" s_rounds_tree := mkDF X G c 23 rfl rfl
  have C_rounds_tree := ok_rounds_tree (P := P) (w := w) (base := base) T D_rounds_tree C_rounds_from
  have D_most_rounds : DF K mg "most_rounds" s_most_rounds := mkDF X G c 24 rfl rfl
  have C_most_rounds := ok_most_rounds (P := P) (w := w) (base := base) T D_most_rounds C_rounds_from
  have D_law_is_whole : DF K mg "_law_is_whole" s_law_is_whole := mkDF X G c 49 rfl rfl
  have C_law_is_whole := ok_law_is_whole (P := P) (w := w) (base := base) T D_law_is_whole
  have D_law_is_tree : DF K mg "_law_is_tree" s_law_is_tree := mkDF X G c 50 rfl rfl
  have C_law_is_tree := ok_law_is_tree (P := P) (w := w) (base := base) T D_law_is_tree C_law_is_whole
  have D_law_path : DF K mg "_law_path" s_law_path := mkDF X G c 47 rfl rfl
  have C_law_path := ok_law_path (P := P) (w := w) (base := base) T D_law_path
  have D_law_is_right : DF K mg "_law_is_right" s_law_is_right := mkDF X G c 48 rfl rfl
  have C_law_is_right := ok_law_is_right (P := P) (w := w) (base := base) T D_law_is_right C_law_is_tree C_law_inputs C_law_path
  exact ok_law T B F C_law_bag C_law_draw C_law_table C_law_worths C_law_numbers C_law_mixed C_rounds_tree C_most_rounds C_law_is_right C_law_is_whole C_law_inputs C_law_path
end Lk
open PySem PySem.W PySem.Calls PyProof.Rows
theorem PySem.Challenge.cw_leastlooks_k52_whole_rounds_are_few_holds : PySem.Challenge.rw_leastlooks_k52_whole_rounds_are_few.Holds := by
  w_on; o_law
  refine HandSHeadRun.head_any (r := OpenLaw.row PySem.Challenge.rw_leastlooks_k52_whole_rounds_are_few) (q := view (OpenLaw.row PySem.Challenge.rw_leastlooks_k52_whole_rounds_are_few).prog [71]) (H := Lk.hkL) (ob := Lk.obL) (M := 6000) (loose := Lk.looseL) (d := HandSHeadRun.topDef (OpenLaw.row PySem.Challenge.rw_leastlooks_k52_whole_rounds_are_few).prog 71) (kwd := []) Lk.obL_eq
    (by kernel_rfl) (fun s => by kernel_rfl) Lk.runL (by kernel_rfl) (by kernel_rfl) (by kernel_rfl) (by rfl) (by first | assumption | decide +kernel) (by decide +kernel) ⟨rfl, rfl, rfl, rfl, rfl, by decide +kernel⟩ ?hw ?hc
  case hw => w_witness2
  case hc =>
    refine L2.walk_ofE (l := PySem.Challenge.rw_leastlooks_k52_whole_rounds_are_few) (n := 63) (k := 30) (x := "_law_script") (CX := L2.CX0) rfl (by decide) (by kernel_rfl) ⟨rfl, by decide, by decide⟩ ?F (fun _ _ _ _ z => z)
    intro w mg fa h Y G hmg0
    obtain ⟨K, KX, c⟩ := Y
    have hmg : mg ("law" : PySem.Str) = some (.ref fa) := by
      have e : (HandSHeadRun.topDef (OpenLaw.row PySem.Challenge.rw_leastlooks_k52_whole_rounds_are_few).prog 71).name = ("law" : PySem.Str) := by kernel_rfl
      rw [← e]
      exact hmg0
    obtain ⟨fd, hb, hF⟩ := Lk.facts (P := (PySem.Challenge.rw_leastlooks_k52_whole_rounds_are_few).prog) (w := w) KX G hmg c
    exact ⟨K, fd, Lk.spLaw K, KX, hb, fun H a ns hl _ hS => ⟨a, ns, rfl, hS, hl, fun _ => rfl⟩, hF⟩
#print axioms PySem.Challenge.cw_leastlooks_k52_whole_rounds_are_few_holds

